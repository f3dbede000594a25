import PyProof.Rows.All
import Wide.All
import OpenK.AllK
import Wide.FinOn
import KE.KStateDown
import PySem.Challenge.RW_partsfrom_k71_texts_of_wheres
import HandS.ForMost
import HandS.ForExc
import HandS.IsInst
import HandS.Deep
import HandS.TupAny
import HandS.Wide
import HandS.Flow
import HandS.TryOnly
import HandS.RevRange
import HandS.Zip
import HandS.Style
import HandS.More
import KE.SortData
import HandS.TupLen
import HandS.SortInts
import HandS.RaiseMore
import HandS.SortKw
import KE.SortKeyHeap
import PyProof.ZipIter
import HandS.HotCalls
import HandS.ExcIs
import HandS.SetFor
import HandS.TupSets
import PyProof.Transfer
import HandS.ExcCtx
import KE.GoesMore
import HandS.Defaults
import HandS.EndBits
import HandS.Head0
import HandS.Head1
import HandS.Head2
import HandS.HeadEnd
import HandS.HeadHook1
import HandS.HeadHook2
import HandS.HeadHook3
import HandS.HeadHook4
import HandS.Codes
-- PfCore
set_option Elab.async false
set_option linter.all false
set_option maxRecDepth 100000
/-! Pf: a small evaluator of plain values for the defs of the text, and its agreement with the model. -/
namespace Pf
open PySem

/-- a plain value: lists are trees here -/
inductive W where
  | non | bl (b : Bool) | int (i : Int) | str (s : Str)
  | tup (ws : List W) | lst (ws : List W)
  | dct (t : Bool) (kvs : List (W × W)) | set (ws : List W)
  | scr (ns : List Int) | fn (f : Str) | ty (T : String) | exn (C : Str)
deriving Inhabited

/-- a slot: empty, a frozen value, an object that this slot alone owns -/
inductive Sl where
  | e | d (w : W) | o (w : W)
deriving Inhabited

def Sl.view : Sl → Option W
  | .e => none
  | .d w => some w
  | .o w => some w
abbrev Env := List Sl

/-- how a run ends -/
inductive Out (α : Type) where
  | ok (a : α) (ρ : Env)
  | exc (C : Str) (ρ : Env)
  | bad

def M (α : Type) := Env → Out α
def M.ret {α : Type} (a : α) : M α := fun ρ => .ok a ρ
def M.bind {α β : Type} (m : M α) (f : α → M β) : M β := fun ρ =>
  match m ρ with
  | .ok a ρ' => f a ρ'
  | .exc C ρ' => .exc C ρ'
  | .bad => .bad
instance : Monad M where
  pure := M.ret
  bind := M.bind
def M.bad {α : Type} : M α := fun _ => .bad
def M.of {α : Type} : Option α → M α
  | some a => M.ret a
  | none => M.bad

/-- how a call ends -/
inductive CRes where
  | ret (r : Sl) (outs : List Sl)
  | exc (C : Str) (outs : List Sl)
  | bad

/-! ### equality of data, as Python has it -/
mutual
def W.eqv : W → W → Bool
  | .non, .non => true
  | .bl a, .bl b => a == b
  | .bl a, .int j => (if a then 1 else 0) == j
  | .int i, .bl b => i == (if b then 1 else 0)
  | .int i, .int j => i == j
  | .str x, .str y => x == y
  | .lst xs, .lst ys => W.eqvL xs ys
  | .tup xs, .tup ys => W.eqvL xs ys
  | _, _ => false
def W.eqvL : List W → List W → Bool
  | [], [] => true
  | x :: xs, y :: ys => W.eqv x y && W.eqvL xs ys
  | _, _ => false
end
mutual
def W.toPy : W → PyData
  | .non => .none
  | .bl b => .bool b
  | .int i => .int i
  | .str s => .str s
  | .tup ws => .tuple (W.toPyL ws)
  | .lst ws => .list (W.toPyL ws)
  | _ => .none
def W.toPyL : List W → List PyData
  | [] => []
  | w :: ws => W.toPy w :: W.toPyL ws
end
mutual
/-- data: None, truths, ints, texts, tuples and lists of such -/
def W.dat : W → Bool
  | .non => true
  | .bl _ => true
  | .int _ => true
  | .str s => PyData.strOk s
  | .tup ws => W.datL ws
  | .lst ws => W.datL ws
  | _ => false
def W.datL : List W → Bool
  | [] => true
  | w :: ws => W.dat w && W.datL ws
end
mutual
def W.depth : W → Nat
  | .tup ws => W.depthL ws + 1
  | .lst ws => W.depthL ws + 1
  | _ => 0
def W.depthL : List W → Nat
  | [] => 0
  | w :: ws => max (W.depth w) (W.depthL ws)
end
def W.shp (w : W) : Bool := w.dat && decide (w.depth ≤ 64)

/-- truth of a value -/
def W.tru : W → Option Bool
  | .non => some false
  | .bl b => some b
  | .int i => some (i != 0)
  | .str s => if s.length ≤ sizeLine then some (s.length != 0) else none
  | .tup ws => some (!ws.isEmpty)
  | .lst ws => some (!ws.isEmpty)
  | _ => none

def W.tyName : W → Option String
  | .non => some "NoneType"
  | .bl _ => some "bool"
  | .int _ => some "int"
  | .str _ => some "str"
  | .tup _ => some "tuple"
  | .lst _ => some "list"
  | _ => none

/-! ### dicts: keys ints and texts, or (t) tuples of such; the pairs in the order of entering -/
def W.key1 : W → Bool
  | .int _ => true
  | .str _ => true
  | _ => false
def W.keyOk : Bool → W → Bool
  | false, k => k.key1
  | true, .tup ks => ks.all W.key1
  | _, _ => false
def valW (kvs : List (W × W)) (k : W) : Option W := (kvs.find? fun p => W.eqv p.1 k).map (·.2)
def hasW (kvs : List (W × W)) (k : W) : Bool := kvs.any fun p => W.eqv p.1 k
/-- in its place, or at the end -/
def putW (kvs : List (W × W)) (k v : W) : List (W × W) := if hasW kvs k = true then kvs.map (fun p => if W.eqv p.1 k = true then (p.1, v) else p) else kvs ++ [(k, v)]

/-! ### operators -/
/-- a product within the machine's line -/
def mulOk (i j : Int) : Bool := decide (i.natAbs.log2 + j.natAbs.log2 < 1000000)
def W.add : W → W → Option Sl
  | .int i, .int j => some (.d (.int (i + j)))
  | .str x, .str y => if x.length + y.length ≤ sizeLine then some (.d (.str (x ++ y))) else none
  | .lst xs, .lst ys => if xs.length + ys.length ≤ sizeLine then some (.o (.lst (xs ++ ys))) else none
  | .tup xs, .tup ys => if xs.length + ys.length ≤ sizeLine then some (.d (.tup (xs ++ ys))) else none
  | _, _ => none
def W.sub : W → W → Option Sl
  | .int i, .int j => some (.d (.int (i - j)))
  | _, _ => none
/-- a text n times -/
def strRep (x : Str) (n : Int) : Str := if n < 1 then Str.empty else if (n == 1 || x.length == 0) = true then x else ⟨(List.replicate n.toNat x.cps).foldl (· ++ ·) #[]⟩
def W.mul : W → W → Option Sl
  | .int i, .int j => if mulOk i j then some (.d (.int (i * j))) else none
  | .str x, .int n => if 0 ≤ n ∧ n < 1000000 ∧ x.length * n.toNat ≤ 10000000 ∧ (strRep x n).length ≤ 10000000 then some (.d (.str (strRep x n))) else none
  | .lst xs, .int k => if 0 ≤ k ∧ k < 2 ^ 62 ∧ xs.length * k.toNat ≤ sizeLine then some (.o (.lst (List.replicate k.toNat xs).flatten)) else none
  | _, _ => none
def W.fdiv : W → W → Option Sl
  | .int i, .int j => if 0 < j ∧ j.natAbs.log2 < 9000 then some (.d (.int (i / j))) else none
  | _, _ => none
def W.mod : W → W → Option Sl
  | .int i, .int j => if 0 < j then some (.d (.int (i % j))) else none
  | _, _ => none
def W.pow : W → W → Option Sl
  | .int i, .int j => if 0 ≤ j ∧ j ≤ 1000000 ∧ i.natAbs < 2 ^ 64 then some (.d (.int (i ^ j.toNat))) else none
  | _, _ => none
def W.bin : Operator → W → W → Option Sl
  | .Add => W.add
  | .Sub => W.sub
  | .Mult => W.mul
  | .FloorDiv => W.fdiv
  | .Mod => W.mod
  | .Pow => W.pow
  | _ => fun _ _ => none

def W.isEq (x y : W) : Option Bool := if x.dat && y.dat && decide (min x.depth y.depth ≤ 64) then some (W.eqv x y) else none
def W.lt : W → W → Option Bool
  | .int i, .int j => some (decide (i < j))
  | .str x, .str y => some (decide (x.cps.toList < y.cps.toList))
  | _, _ => none
def W.le : W → W → Option Bool
  | .int i, .int j => some (decide (i ≤ j))
  | _, _ => none
def W.isIn : W → W → Option Bool
  | .str x, .str z => match x.cps.toList with
    | [c] => some (decide (c ∈ z.cps.toList))
    | _ => none
  | x, .lst ws => if x.dat && (W.lst ws).dat && decide (min x.depth (W.depthL ws) ≤ 64) then some (ws.any fun z => W.eqv z x) else none
  | x, .tup ws => if x.dat && (W.tup ws).dat && decide (min x.depth (W.depthL ws) ≤ 64) then some (ws.any fun z => W.eqv z x) else none
  | x, .dct t kvs => if W.keyOk t x then some (valW kvs x).isSome else none
  | _, _ => none
def W.isNon : W → Bool
  | .non => true
  | _ => false
def W.cmp : CmpOp → W → W → Option Bool
  | .Eq, x, y => W.isEq x y
  | .NotEq, x, y => (W.isEq x y).map (!·)
  | .Lt, x, y => W.lt x y
  | .LtE, x, y => W.le x y
  | .Gt, x, y => W.lt y x
  | .GtE, x, y => W.le y x
  | .In, x, y => W.isIn x y
  | .NotIn, x, y => (W.isIn x y).map (!·)
  | .Is, x, .non => some x.isNon
  | .IsNot, x, .non => some (!x.isNon)
  | _, _, _ => none

/-- an index of a list of that length -/
def ixOf (n : Nat) (i : Int) : Option Nat := if 0 ≤ i then (if i < n then some i.toNat else none) else if -(n : Int) ≤ i then some (i + n).toNat else none
def W.item : W → W → Option W
  | .tup ws, .int i => (ixOf ws.length i).bind fun j => ws[j]?
  | .lst ws, .int i => (ixOf ws.length i).bind fun j => ws[j]?
  | .scr ns, .int i => ((ixOf ns.length i).bind fun j => ns[j]?).map .int
  | .str s, .int i => if s.length ≤ sizeLine then ((ixOf s.cps.toList.length i).bind fun j => s.cps.toList[j]?).map fun c => .str ⟨#[c]⟩ else none
  | .dct t kvs, k => if W.keyOk t k then valW kvs k else none
  | _, _ => none
/-- the items of a slice -/
def cutL {α : Type} (xs : List α) (lo hi : Option Int) : List α :=
  (xs.drop (HT.sIx xs.length 0 lo)).take (HT.sIx xs.length xs.length hi - HT.sIx xs.length 0 lo)
def W.slice : W → Option Int → Option Int → Option Sl
  | .tup ws, lo, hi => some (.d (.tup (cutL ws lo hi)))
  | .lst ws, lo, hi => some (.o (.lst (cutL ws lo hi)))
  | .str s, lo, hi => if s.length ≤ sizeLine then some (.d (.str (L2.cutS s lo hi))) else none
  | _, _, _ => none
def W.len : W → Option Nat
  | .tup ws => some ws.length
  | .lst ws => some ws.length
  | .scr ns => some ns.length
  | .str s => if s.length ≤ sizeLine then some s.length else none
  | .dct _ kvs => some kvs.length
  | _ => none

/-- isinstance(x, T): T a class, or a tuple of such -/
def isSub (a b : String) : Bool := a == b || (a == "bool" && b == "int")
def W.isInst : W → W → Option Bool
  | x, .ty T => if T ∈ ["int", "bool", "str", "tuple", "list"] then x.tyName.map fun a => isSub a T else none
  | x, .tup [.ty T, .ty U] => if T ∈ ["int", "bool", "str", "tuple", "list"] ∧ U ∈ ["int", "bool", "str", "tuple", "list"] then x.tyName.map fun a => isSub a T || isSub a U else none
  | _, _ => none

/-- the bools of a list -/
def bools : List W → Option (List Bool)
  | [] => some []
  | .bl b :: ws => (bools ws).map (b :: ·)
  | _ :: _ => none
def strsOf : List W → Option (List Str)
  | [] => some []
  | .str s :: ws => (strsOf ws).map (s :: ·)
  | _ :: _ => none
/-- the length of the joined texts -/
def joinLen (s : Str) (ys : List Str) : Nat := (ys.map (·.length)).sum + ys.length * s.length
/-- the built-ins that are called by name -/
def bltL : List Str := ["isinstance", "len", "all", "any", "int", "max", "min", "list", "tuple", "sorted", "sum", "str"]
def isBlt (f : Str) : Bool := decide (f ∈ bltL)
def intsOf : List W → Option (List Int)
  | [] => some []
  | .int i :: ws => (intsOf ws).map (i :: ·)
  | _ :: _ => none
def maxOf (ns : List Int) : Option Int := ns.find? fun m => ns.all fun y => decide (y ≤ m)
def minOf (ns : List Int) : Option Int := ns.find? fun m => ns.all fun y => decide (m ≤ y)
/-! #### sorted -/
def W.tup1 : W → Bool
  | .tup (_ :: _) => true
  | _ => false
def W.ntup : W → Bool
  | .tup _ => false
  | .non => false
  | _ => true
/-- what can be ordered -/
def W.srtOk (ws : List W) : Bool := ws.all (fun x => x.dat && decide (x.depth ≤ 60)) && (ws.all (fun x => ws.all fun y => PySem.W.alike x.toPy y.toPy) && (ws.all W.tup1 || ws.all W.ntup))
noncomputable def W.srt (ws : List W) : List W := ws.mergeSort (PySem.W.dataLe false W.toPy)
noncomputable def W.srtd : List W → Option Sl
  | [.lst ws] => if W.srtOk ws then some (.o (.lst (W.srt ws))) else none
  | _ => none
def W.sumd : List W → Option Sl
  | [.lst ws] => (intsOf ws).map fun ns => .d (.int ns.sum)
  | _ => none
def W.strd : List W → Option Sl
  | [.int i] => if i.natAbs.log2 < 1920 then some (.d (.str (toString i))) else none
  | [.str s] => some (.d (.str s))
  | _ => none

/-- a call of a builtin's name -/
noncomputable def W.call (f : Str) (ws : List W) : Option Sl :=
  if f = ("isinstance" : Str) then
    match ws with
    | [x, t] => (W.isInst x t).map fun b => .d (.bl b)
    | _ => none
  else if f = ("len" : Str) then
    match ws with
    | [x] => x.len.map fun (n : Nat) => .d (.int n)
    | _ => none
  else if f = ("all" : Str) then
    match ws with
    | [.lst xs] => (bools xs).map fun bs => .d (.bl (bs.all id))
    | _ => none
  else if f = ("any" : Str) then
    match ws with
    | [.lst xs] => (bools xs).map fun bs => .d (.bl (bs.any id))
    | _ => none
  else if f = ("int" : Str) then
    match ws with
    | [.int i] => some (.d (.int i))
    | [.bl b] => some (.d (.int (if b then 1 else 0)))
    | [.str a] => if a.length ≤ 640 then (PySem.intText? a).map fun n => .d (.int n) else none
    | _ => none
  else if f = ("max" : Str) then
    match ws with
    | [.int i, .int j] => some (.d (.int (if j > i then j else i)))
    | [.lst xs] => (intsOf xs).bind fun ns => (maxOf ns).map fun m => .d (.int m)
    | _ => none
  else if f = ("min" : Str) then
    match ws with
    | [.int i, .int j] => some (.d (.int (if j < i then j else i)))
    | [.lst xs] => (intsOf xs).bind fun ns => (minOf ns).map fun m => .d (.int m)
    | _ => none
  else if f = ("list" : Str) then
    match ws with
    | [.lst xs] => some (.o (.lst xs))
    | [.tup xs] => some (.o (.lst xs))
    | [.dct _ kvs] => some (.o (.lst (kvs.map (·.1))))
    | _ => none
  else if f = ("tuple" : Str) then
    match ws with
    | [.lst xs] => some (.d (.tup xs))
    | [.tup xs] => some (.d (.tup xs))
    | _ => none
  else if f = ("sorted" : Str) then W.srtd ws
  else if f = ("sum" : Str) then W.sumd ws
  else if f = ("str" : Str) then W.strd ws
  else none
/-- a call of a frozen text's method -/
def W.meth (x : W) (m : Str) (ws : List W) : Option Sl :=
  if m = ("join" : Str) then
    match x, ws with
    | .str s, [.lst xs] => (strsOf xs).bind fun ys => if joinLen s ys ≤ 16777216 then some (.d (.str (Txt.join s ys))) else none
    | _, _ => none
  else if m = ("split" : Str) then
    match x, ws with
    | .str s, [.str b] => if b.length ≠ 0 ∧ s.length + 2 ≤ sizeLine then some (.o (.lst ((Txt.split s b).map W.str))) else none
    | _, _ => none
  else if m = ("count" : Str) then
    match x, ws with
    | .str s, [.str b] => some (.d (.int (Txt.count s b)))
    | _, _ => none
  else none

/-! ### the parts that the terms are made of -/
/-- a slot's value, frozen there -/
def rdD (i : Nat) : M W := fun ρ =>
  match ρ[i]? with
  | some (.d w) => .ok w ρ
  | some (.o w) => .ok w (ρ.set i (.d w))
  | _ => .bad
/-- a value that is read: a slot's, or a frozen one -/
inductive Pl where
  | sl (i : Nat) | tm (w : W)
def Pl.view (ρ : Env) : Pl → Option W
  | .sl i => (ρ[i]?).bind Sl.view
  | .tm w => some w
def plName (i : Nat) : M Pl := fun ρ => match (Pl.sl i).view ρ with
  | some _ => .ok (.sl i) ρ
  | none => .bad
def vw (p : Pl) : M W := fun ρ => match p.view ρ with
  | some w => .ok w ρ
  | none => .bad
/-- a fresh object is frozen -/
def frz : Sl → Option W := Sl.view
def dat (m : M Sl) : M W := M.bind m fun s => M.of s.view
def plE (m : M Sl) : M Pl := M.bind (dat m) fun w => M.ret (.tm w)
def cst (w : W) : M Sl := M.ret (.d w)
def nameE (i : Nat) : M Sl := M.bind (rdD i) fun w => M.ret (.d w)
def binE (f : W → W → Option Sl) (a b : M Pl) : M Sl :=
  M.bind a fun p => M.bind b fun q => M.bind (vw p) fun x => M.bind (vw q) fun y => M.of (f x y)
def unE (f : W → Option Sl) (a : M Pl) : M Sl := M.bind a fun p => M.bind (vw p) fun x => M.of (f x)
def cmpE (op : CmpOp) (a b : M Pl) : M Sl := binE (fun x y => (W.cmp op x y).map fun b => .d (.bl b)) a b
/-- a op b op' c -/
def chainE (op op' : CmpOp) (a b c : M Pl) : M Sl :=
  M.bind a fun p => M.bind b fun q => M.bind (vw p) fun x => M.bind (vw q) fun y => M.bind (M.of (W.cmp op x y)) fun k =>
    if k then M.bind c fun r => M.bind (vw q) fun y' => M.bind (vw r) fun z => M.of ((W.cmp op' y' z).map fun b => .d (.bl b)) else cst (.bl false)
def evS : List (M W) → M (List W)
  | [] => M.ret []
  | m :: ms => M.bind m fun w => M.bind (evS ms) fun ws => M.ret (w :: ws)
def plS : List (M Pl) → M (List Pl)
  | [] => M.ret []
  | m :: ms => M.bind m fun p => M.bind (plS ms) fun ps => M.ret (p :: ps)
def vwL : List Pl → M (List W)
  | [] => M.ret []
  | p :: ps => M.bind (vw p) fun w => M.bind (vwL ps) fun ws => M.ret (w :: ws)
def lstE (m : M (List W)) : M Sl := M.bind m fun ws => M.of (if ws.length ≤ sizeLine then some (.o (.lst ws)) else none)
def tupE (m : M (List W)) : M Sl := M.bind m fun ws => M.of (if ws.length ≤ sizeLine then some (.d (.tup ws)) else none)
noncomputable def callE (f : Str) (m : M (List Pl)) : M Sl := M.bind m fun ps => M.bind (vwL ps) fun ws => M.of (W.call f ws)
def methE (a : M Pl) (m : Str) (es : M (List Pl)) : M Sl :=
  M.bind a fun p => M.bind (vw p) fun x => match x with
    | .str s => M.bind es fun ps => M.bind (vwL ps) fun ws => M.of (W.meth (.str s) m ws)
    | _ => M.bad
def truE (a : M Pl) : M Bool := M.bind a fun p => M.bind (vw p) fun w => M.of w.tru
def boolE (t : M Bool) : M Sl := M.bind t fun b => cst (.bl b)
def ifE {α : Type} (t : M Bool) (a b : M α) : M α := M.bind t fun c => if c then a else b
def notT (t : M Bool) : M Bool := M.bind t fun b => M.ret (!b)
def andT : List (M Bool) → M Bool
  | [] => M.ret true
  | [t] => t
  | t :: ts => M.bind t fun c => if c then andT ts else M.ret false
def orT : List (M Bool) → M Bool
  | [] => M.ret false
  | [t] => t
  | t :: ts => M.bind t fun c => if c then M.ret true else orT ts
/-- x and y, x or y as values; frozen ones -/
def andV : List (M W) → M W
  | [] => M.bad
  | [m] => m
  | m :: ms => M.bind m fun w => M.bind (M.of w.tru) fun c => if c then andV ms else M.ret w
def orV : List (M W) → M W
  | [] => M.bad
  | [m] => m
  | m :: ms => M.bind m fun w => M.bind (M.of w.tru) fun c => if c then M.ret w else orV ms
def dE (m : M W) : M Sl := M.bind m fun w => M.ret (.d w)
def sliceE (a : M Pl) (lo hi : Option (M Pl)) : M Sl :=
  let part : Option (M Pl) → M (Option Int) := fun o => match o with
    | none => M.ret none
    | some m => M.bind m fun p => M.bind (vw p) fun w => match w with
      | .int i => M.ret (some i)
      | _ => M.bad
  M.bind a fun p => M.bind (part lo) fun l => M.bind (part hi) fun h => M.bind (vw p) fun x => M.of (W.slice x l h)
/-- slot i owns a list -/
def needO (i : Nat) : M Unit := fun ρ => match ρ[i]? with
  | some (.o (.lst _)) => .ok () ρ
  | _ => .bad
/-- a slot is written -/
def asg (np : Nat) (lk : List Nat) (i : Nat) (s : Sl) : M Unit := fun ρ => if np ≤ i ∧ i ∉ lk ∧ i < ρ.length then .ok () (ρ.set i s) else .bad
def setS (np : Nat) (lk : List Nat) (i : Nat) (m : M Sl) : M Unit := M.bind m fun s => asg np lk i s
/-- the object that slot i owns is changed -/
def mutO {α : Type} (i : Nat) (f : W → Option (α × W)) : M α := fun ρ =>
  match ρ[i]? with
  | some (.o w) => match f w with
    | some (a, w') => .ok a (ρ.set i (.o w'))
    | none => .bad
  | _ => .bad

/-! ### calls of the text's own defs -/
abbrev Orc := Str → List Sl → CRes
/-- the arguments as the callee has them -/
def argSl (ρ : Env) : Pl → Option Sl
  | .sl i => match ρ[i]? with
    | some (.d w) => some (.d w)
    | some (.o w) => some (.o w)
    | _ => none
  | .tm w => some (.d w)
def argsOf (ρ : Env) : List Pl → Option (List Sl)
  | [] => some []
  | p :: ps => match argSl ρ p, argsOf ρ ps with
    | some s, some ss => some (s :: ss)
    | _, _ => none
/-- no owned slot is handed in twice -/
def ownIx (ρ : Env) : List Pl → List Nat
  | [] => []
  | .sl i :: ps => match ρ[i]? with
    | some (.o _) => i :: ownIx ρ ps
    | _ => ownIx ρ ps
  | _ :: ps => ownIx ρ ps
/-- what comes back into the owned slots -/
def backIn (ρ : Env) : List Pl → List Sl → Env
  | .sl i :: ps, s :: ss => match ρ[i]? with
    | some (.o _) => (backIn ρ ps ss).set i s
    | _ => backIn ρ ps ss
  | _ :: ps, _ :: ss => backIn ρ ps ss
  | _, _ => ρ
def invoke (C : Orc) (f : Str) (ps : List Pl) : M Sl := fun ρ =>
  match argsOf ρ ps with
  | some ss => if (ownIx ρ ps).Nodup then
      match C f ss with
      | .ret r outs => if outs.length = ss.length then .ok r (backIn ρ ps outs) else .bad
      | .exc c outs => if outs.length = ss.length then .exc c (backIn ρ ps outs) else .bad
      | .bad => .bad
    else .bad
  | none => .bad
def userE (C : Orc) (f : Str) (m : M (List Pl)) : M Sl := M.bind m fun ps => invoke C f ps

/-! ### statements -/
inductive Fl where
  | nx | rt (s : Sl) | bk | ct
def nxS : M Fl := M.ret .nx
def seqS (a b : M Fl) : M Fl := M.bind a fun f => match f with
  | .nx => b
  | f => M.ret f
def actS (m : M Unit) : M Fl := M.bind m fun _ => M.ret .nx
def dropS (m : M Sl) : M Fl := M.bind m fun _ => M.ret .nx
def retS (m : M Sl) : M Fl := M.bind m fun s => M.ret (.rt s)
/-- the slots still hold what is walked -/
def still (ρ : Env) (g : Nat × W) : Prop := (ρ[g.1]?).bind Sl.view = some g.2
open Classical in
noncomputable def guardM (gs : List (Nat × W)) : M Unit := fun ρ => if ∀ g ∈ gs, still ρ g then .ok () ρ else .bad
/-- all that is walked is locked -/
def lockedM (lk : List Nat) (gs : List (Nat × W)) : M Unit := fun ρ => if ∀ g ∈ gs, g.1 ∈ lk then .ok () ρ else .bad
noncomputable def forL (gs : List (Nat × W)) (tg : W → M Unit) (body : M Fl) : List W → M Fl
  | [] => M.bind (guardM gs) fun _ => M.ret .nx
  | w :: ws => M.bind (guardM gs) fun _ => M.bind (tg w) fun _ => M.bind body fun f => match f with
    | .nx => forL gs tg body ws
    | .ct => forL gs tg body ws
    | .bk => M.ret .nx
    | .rt s => M.ret (.rt s)
noncomputable def forS (lk : List Nat) (it : M (List W × List (Nat × W))) (tg : W → M Unit) (body : M Fl) : M Fl := M.bind it fun x => M.bind (lockedM lk x.2) fun _ => forL x.2 tg body x.1
def whileN (c : M Bool) (b : M Fl) : Nat → Env → Option (Out Fl)
  | 0, _ => none
  | n + 1, ρ => match c ρ with
    | .bad => some .bad
    | .exc C ρ' => some (.exc C ρ')
    | .ok false ρ' => some (.ok .nx ρ')
    | .ok true ρ' => match b ρ' with
      | .bad => some .bad
      | .exc C ρ'' => some (.exc C ρ'')
      | .ok .nx ρ'' => whileN c b n ρ''
      | .ok .ct ρ'' => whileN c b n ρ''
      | .ok .bk ρ'' => some (.ok .nx ρ'')
      | .ok (.rt s) ρ'' => some (.ok (.rt s) ρ'')
open Classical in
noncomputable def whileS (c : M Bool) (b : M Fl) : M Fl := fun ρ => if h : ∃ n o, whileN c b n ρ = some o then Classical.choose (Classical.choose_spec h) else .bad

/-! ### what is walked -/
def itemsOf : W → Option (List W)
  | .lst ws => some ws
  | .tup ws => some ws
  | .str s => some (s.cps.toList.map fun c => .str ⟨#[c]⟩)
  | _ => none
def gdOf (ρ : Env) : Pl → List (Nat × W)
  | .sl i => match ρ[i]? with
    | some (.o w) => [(i, w)]
    | _ => []
  | .tm _ => []
/-- an owned thing is frozen in its place -/
def frzP : Pl → M Unit
  | .sl i => M.bind (rdD i) fun _ => M.ret ()
  | .tm _ => M.ret ()
/-- the items of what is walked -/
def itM (p : Pl) : W → M (List W × List (Nat × W))
  | .dct _ kvs => M.bind (frzP p) fun _ => M.ret (kvs.map (·.1), [])
  | w => fun ρ => match itemsOf w with
    | some ws => .ok (ws, gdOf ρ p) ρ
    | none => .bad
def itE (a : M Pl) : M (List W × List (Nat × W)) := M.bind a fun p => M.bind (vw p) fun w => itM p w
/-- d.items(), d.values(), keys ints and texts -/
def itmM (p : Pl) : W → M (List W × List (Nat × W))
  | .dct false kvs => M.bind (frzP p) fun _ => M.ret (kvs.map fun z => .tup [z.1, z.2], [])
  | _ => M.bad
def itItems (a : M Pl) : M (List W × List (Nat × W)) := M.bind a fun p => M.bind (vw p) fun w => itmM p w
def valM (p : Pl) : W → M (List W × List (Nat × W))
  | .dct false kvs => M.bind (frzP p) fun _ => M.ret (kvs.map (·.2), [])
  | _ => M.bad
def itVals (a : M Pl) : M (List W × List (Nat × W)) := M.bind a fun p => M.bind (vw p) fun w => valM p w
def rangeL (lo hi : Int) : List W := (List.range (hi - lo).toNat).map fun (i : Nat) => W.int (lo + i)
def inHalf (i : Int) : Bool := decide (-(2 ^ 62) ≤ i ∧ i < 2 ^ 62)
def itR1 (m : M (List Pl)) : M (List W × List (Nat × W)) := M.bind m fun ps => M.bind (vwL ps) fun ws => match ws with
  | [.int j] => if inHalf j then M.ret (rangeL 0 j, []) else M.bad
  | _ => M.bad
def itR2 (m : M (List Pl)) : M (List W × List (Nat × W)) := M.bind m fun ps => M.bind (vwL ps) fun ws => match ws with
  | [.int i, .int j] => if inHalf i && inHalf j then M.ret (rangeL i j, []) else M.bad
  | _ => M.bad
def rangeC (i c : Int) (n : Nat) : List W := (List.range n).map fun (k : Nat) => W.int (i + k * c)
def rg3 : List W → Option (List W × List (Nat × W))
  | [.int i, .int j, .int c] => if c ≠ 0 ∧ c.natAbs < 1073741824 ∧ Builtin.Range.small i j c = true ∧ 0 ≤ Builtin.Range.rangeSize i j c then some (rangeC i c (Builtin.Range.rangeSize i j c).toNat, []) else none
  | _ => none
def itR3 (m : M (List Pl)) : M (List W × List (Nat × W)) := M.bind m fun ps => M.bind (vwL ps) fun ws => M.of (rg3 ws)
def itZip (m : M (List Pl)) : M (List W × List (Nat × W)) := M.bind m fun ps => M.bind (vwL ps) fun ws => fun ρ => match ps, ws with
  | [p, q], [.lst xs, .lst ys] => .ok ((xs.zip ys).map fun z => .tup [z.1, z.2], gdOf ρ p ++ gdOf ρ q) ρ
  | _, _ => .bad

/-- the items with their places -/
def enumL (ws : List W) : List W := ws.zipIdx.map fun z => .tup [.int (z.2 : Nat), z.1]
def itEnum (m : M (List Pl)) : M (List W × List (Nat × W)) := M.bind m fun ps => M.bind (vwL ps) fun ws => fun ρ => match ps, ws with
  | [p], [.lst xs] => .ok (enumL xs, gdOf ρ p) ρ
  | [_], [.str z] => .ok (enumL (z.cps.toList.map fun c => .str ⟨#[c]⟩), []) ρ
  | _, _ => .bad

/-! ### targets -/
def tgName (np : Nat) (lk : List Nat) (i : Nat) (w : W) : M Unit := asg np lk i (.d w)
def tgAll : List (W → M Unit) → List W → M Unit
  | [], [] => M.ret ()
  | t :: ts, w :: ws => M.bind (t w) fun _ => tgAll ts ws
  | _, _ => M.bad
def tgTup (ts : List (W → M Unit)) : W → M Unit
  | .tup ws => tgAll ts ws
  | .lst ws => tgAll ts ws
  | _ => M.bad

/-! ### comprehensions -/
/-- the block's own slots are empty at its start -/
def clear (ρ : Env) (is : List Nat) : Env := is.foldl (fun ρ i => ρ.set i .e) ρ
def noOwn (ρ : Env) (is : List Nat) : Bool := is.all fun i => match ρ[i]? with
  | some (.o _) => false
  | none => false
  | _ => true
/-- the block's own slots as they were -/
def restore (ρ₀ ρ : Env) (is : List Nat) : Env := is.foldl (fun ρ i => ρ.set i (ρ₀.getD i .e)) ρ
def lenM {α : Type} (n : Nat) (m : M α) : M α := fun ρ => if n < sizeLine then m ρ else .bad
def clrM (is : List Nat) : M Unit := fun ρ => .ok () (clear ρ is)
noncomputable def lcL (gs : List (Nat × W)) (is : List Nat) (tg : W → M Unit) (test : M Bool) (elt : M W) : List W → List W → M (List W)
  | [], acc => M.bind (guardM gs) fun _ => M.ret acc
  | w :: ws, acc => M.bind (guardM gs) fun _ => M.bind (tg w) fun _ => M.bind test fun c =>
      if c then M.bind elt fun x => lenM acc.length (M.bind (clrM is) fun _ => lcL gs is tg test elt ws (acc ++ [x]))
      else M.bind (clrM is) fun _ => lcL gs is tg test elt ws acc
open Classical in
noncomputable def lcE (is : List Nat) (it : M (List W × List (Nat × W))) (tg : W → M Unit) (test : M Bool) (elt : M W) : M Sl := M.bind it fun x => fun ρ =>
  if noOwn ρ is = true ∧ ∀ g ∈ x.2, g.1 ∉ is then
    match lcL x.2 is tg test elt x.1 [] (clear ρ is) with
    | .ok ws ρ' => .ok (.o (.lst ws)) (restore ρ ρ' is)
    | _ => .bad
  else .bad
end Pf

-- PfEval
/-! Pf: what the text's syntax means over the terms of PfCore. -/
namespace Pf
open PySem

/-- what a name of the module is; more is told of a def under its name with a mark: knd: it tells the kind of an exception of cs; hnd: the class y handles those of cs; key: the def y gives a tuple's first item -/
inductive GK where
  | fn (n : Nat) | cls | con (w : W) | knd (cs : List Str) | hnd (y : Str) (cs : List Str) | key (y : Str)
def hmk (x : Str) : Str := "%h" ++ x
def kmk (x : Str) : Str := "%k" ++ x
/-- the text about a def: the module's names, the def's names by slot, how many parameters, the calls -/
structure Tx where
  G : List (Str × GK)
  N : List Str
  np : Nat
  lk : List Nat
  C : Orc
  nm : Str
/-- names to which a dict with tuples as keys is bound, def by def -/
def tupTab : List (Str × Str) := [("counts_of", "found"), ("quarrel_of", "touching"), ("cells_by", "found")]
abbrev Rec := Scope → (Expr → M Sl) × (Expr → M Bool)

def seen (sc : Scope) (x : Str) : Bool := match sc.names.lookup x with
  | some .local => true
  | some .cell => true
  | some .free => true
  | _ => false
def locIn (sc : Scope) (x : Str) : Bool := match sc.names.lookup x with
  | some .local => true
  | some .cell => true
  | _ => false
def globIn (sc : Scope) (x : Str) : Bool := match sc.names.lookup x with
  | some .globalImplicit => true
  | _ => false
def okName (x : Str) : Bool := !(x == ("__debug__" : Str)) && !(x == ("__classdict__" : Str)) && !(x == ("__name__" : Str))
def plainX : Expr → Bool
  | .Starred .. => false
  | _ => true
def noSet : Expr → Bool
  | .Set .. => false
  | _ => true
def noComp : Expr → Bool
  | .ListComp .. => false
  | .SetComp .. => false
  | .DictComp .. => false
  | _ => true
def noTup : Expr → Bool
  | .Tuple .. => false
  | _ => true
def noSlice : Expr → Bool
  | .Slice .. => false
  | _ => true
/-- a test whose whole is its value's truth -/
def plainT : Expr → Bool
  | .UnaryOp .Not _ _ => false
  | .BoolOp .. => false
  | .IfExp .. => false
  | .Compare .. => false
  | _ => true
/-- a receiver that is no call of a name without arguments -/
def baseX : Expr → Bool
  | .Call .. => false
  | _ => true
def slotOf (N : List Str) (x : Str) : Option Nat := N.findIdx? fun y => decide (y = x)
def tyOf (x : Str) : Option String :=
  if x = ("int" : Str) then some "int" else if x = ("bool" : Str) then some "bool" else if x = ("str" : Str) then some "str"
  else if x = ("tuple" : Str) then some "tuple" else if x = ("list" : Str) then some "list" else none

/-- names that stand for built-ins where the module has none of that name -/
def freeL : List Str := bltL ++ (["bool", "range", "zip", "enumerate", "set", "dict"] : List Str)
theorem tyOf_free {x : Str} (h : (tyOf x).isSome = true) : x ∈ freeL := by
  unfold tyOf at h
  split at h
  · rename_i h'; rw [h']; decide +kernel
  · split at h
    · rename_i h'; rw [h']; decide +kernel
    · split at h
      · rename_i h'; rw [h']; decide +kernel
      · split at h
        · rename_i h'; rw [h']; decide +kernel
        · split at h
          · rename_i h'; rw [h']; decide +kernel
          · cases h
theorem blt_free {x : Str} (h : isBlt x = true) : x ∈ freeL := List.mem_append_left _ (of_decide_eq_true h)
def plOf (T : Tx) (sc : Scope) (ev : Expr → M Sl) (e : Expr) : M Pl := match e with
  | .Name x p => if seen sc x then (if okName x then (match slotOf T.N x with
      | some i => plName i
      | none => M.bad) else M.bad) else plE (ev (.Name x p))
  | e => plE (ev e)

def appE (i : Nat) (m : M W) : M Sl := M.bind (needO i) fun _ => M.bind m fun w => M.bind (mutO i fun x => match x with
  | .lst ws => if ws.length < sizeLine then some ((), .lst (ws ++ [w])) else none
  | _ => none) fun _ => cst .non
def insE (i : Nat) (ma : M Pl) (m : M W) : M Sl := M.bind (needO i) fun _ => M.bind ma fun p => M.bind m fun w => M.bind (vw p) fun k => M.bind (mutO i fun x => match x, k with
  | .lst ws, .int k => if ws.length < sizeLine ∧ 0 ≤ k ∧ k < 2 ^ 62 then some ((), .lst (ws.take k.toNat ++ w :: ws.drop k.toNat)) else none
  | _, _ => none) fun _ => cst .non
def popE (i : Nat) : M Sl := M.bind (needO i) fun _ => M.bind (mutO i fun x => match x with
  | .lst ws => (ws[ws.length - 1]?).map fun w => (w, .lst ws.dropLast)
  | _ => none) fun w => cst w
/-- d.get(k), d.get(k, x) -/
def getW : W → List W → Option Sl
  | .dct t kvs, [k] => if W.keyOk t k then some (.d ((valW kvs k).getD .non)) else none
  | .dct t kvs, [k, x] => if W.keyOk t k then some (.d ((valW kvs k).getD x)) else none
  | _, _ => none
def needD : W → M Unit
  | .dct _ _ => M.ret ()
  | _ => M.bad
def dgetE (a : M Pl) (es : M (List W)) : M Sl := M.bind a fun p => M.bind (vw p) fun x => M.bind (needD x) fun _ => M.bind es fun ws => M.bind (vw p) fun y => M.of (getW y ws)
/-- a dict of a display -/
def mergeW (kvs more : List (W × W)) : List (W × W) := more.foldl (fun acc p => putW acc p.1 p.2) kvs
def dispS : List (M W × M W) → M (List (W × W))
  | [] => M.ret []
  | (k, v) :: r => M.bind k fun a => M.bind v fun b => M.bind (dispS r) fun ps => M.ret ((a, b) :: ps)
def dispE (m : M (List (W × W))) : M Sl := fun ρ => match m ρ with
  | .ok ps ρ' => if ps.length ≤ 15 ∧ ps.all (fun p => p.1.key1) = true then .ok (.o (.dct false (mergeW [] ps))) ρ' else .bad
  | _ => .bad
def dpairs (ev : Expr → M Sl) : List (Option Expr) → List Expr → List (M W × M W)
  | some k :: ks, v :: vs => (dat (ev k), dat (ev v)) :: dpairs ev ks vs
  | _, _ => []
/-- {} as x is bound to it -/
def asgE (T : Tx) (x : Str) (e : Expr) (m : M Sl) : M Sl := match e with
  | .Dict [] [] _ => if (T.nm, x) ∈ tupTab then M.ret (.o (.dct true [])) else m
  | _ => m
def popAtE (i : Nat) (ma : M Pl) : M Sl := M.bind (needO i) fun _ => M.bind ma fun p => M.bind (vw p) fun k => M.bind (mutO i fun x => match x, k with
  | .lst ws, .int k => if -(2 ^ 62) ≤ k ∧ k < 2 ^ 62 then (ixOf ws.length k).bind fun j => (ws[j]?).map fun w => (w, .lst (ws.eraseIdx j)) else none
  | _, _ => none) fun w => cst w
/-- a text's method, by its name and the number of its arguments -/
def isStrM (m : Str) (n : Nat) : Bool := (decide (m = ("join" : Str)) || decide (m = ("split" : Str)) || decide (m = ("count" : Str))) && decide (n = 1)
def isGet (m : Str) (n : Nat) : Bool := decide (m = ("get" : Str)) && (decide (n = 1) || decide (n = 2))
/-- a method's call on a name of the def: it changes what the slot owns, or reads -/
def methN (i : Nat) (m : Str) (pl : List (M Pl)) (dt : List (M W)) : M Sl :=
  if m = ("append" : Str) then (match dt with
    | [d] => appE i d
    | _ => M.bad)
  else if m = ("insert" : Str) then (match pl, dt with
    | [p, _], [_, d] => insE i p d
    | _, _ => M.bad)
  else if m = ("pop" : Str) then (match pl with
    | [] => popE i
    | [p] => popAtE i p
    | _ => M.bad)
  else if isStrM m pl.length then methE (plName i) m (plS pl)
  else if isGet m dt.length then dgetE (plName i) (evS dt)
  else M.bad
def negW : W → Option Sl
  | .int i => some (.d (.int (-i)))
  | _ => none
def revW : W → Option Sl
  | .lst ws => some (.o (.lst ws.reverse))
  | _ => none
def itemW (x y : W) : Option Sl := (W.item x y).map .d
def constW : Const → Option W
  | .int i => some (.int i)
  | .str s => some (.str s)
  | .bool b => some (.bl b)
  | .none => some .non
  | _ => none
/-- the names that a target binds -/
def nameOf : Expr → List Str
  | .Name x _ => [x]
  | _ => []
def namesIn : Expr → List Str
  | .Tuple es _ _ => es.flatMap nameOf
  | e => nameOf e
def tgNames : Expr → List Str
  | .Tuple es _ _ => es.flatMap namesIn
  | e => nameOf e
def tgOne (T : Tx) (sc : Scope) (e : Expr) : W → M Unit := match e with
  | .Name x _ => if locIn sc x then (match slotOf T.N x with
    | some i => tgName T.np T.lk i
    | none => fun _ => M.bad) else fun _ => M.bad
  | _ => fun _ => M.bad
def isNameX : Expr → Bool
  | .Name .. => true
  | _ => false
def isFlatX : Expr → Bool
  | .Name .. => true
  | .Tuple es _ _ => es.all isNameX
  | _ => false
def tgIn (T : Tx) (sc : Scope) (e : Expr) : W → M Unit := match e with
  | .Tuple es _ _ => if es.all isNameX then tgTup (es.map (tgOne T sc)) else fun _ => M.bad
  | e => tgOne T sc e
def tgOf (T : Tx) (sc : Scope) (e : Expr) : W → M Unit := match e with
  | .Tuple es _ _ => if es.all isFlatX then tgTup (es.map (tgIn T sc)) else fun _ => M.bad
  | e => tgOne T sc e
def ownOf (T : Tx) (tg : Expr) : List (Str × Nat) := (tgNames tg).filterMap fun x => (slotOf T.N x).map fun i => (x, i)
def isTupX : Expr → Bool
  | .Tuple .. => true
  | _ => false
/-- what is walked, by the syntax -/
def itOf (T : Tx) (sc : Scope) (ev : Expr → M Sl) (tg iter : Expr) : M (List W × List (Nat × W)) :=
  match iter with
  | .Call (.Name g p) args [] pos =>
    if globIn sc g && (T.G.lookup g).isNone && args.all plainX && decide (g = ("range" : Str)) then (match args with
      | [a] => itR1 (plS [plOf T sc ev a])
      | [a, b] => itR2 (plS [plOf T sc ev a, plOf T sc ev b])
      | [a, b, c] => itR3 (plS [plOf T sc ev a, plOf T sc ev b, plOf T sc ev c])
      | _ => M.bad)
    else if globIn sc g && (T.G.lookup g).isNone && args.all plainX && decide (g = ("zip" : Str)) && isTupX tg then (match args with
      | [a, b] => itZip (plS [plOf T sc ev a, plOf T sc ev b])
      | _ => M.bad)
    else if globIn sc g && (T.G.lookup g).isNone && args.all plainX && decide (g = ("enumerate" : Str)) && isTupX tg then (match args with
      | [a] => itEnum (plS [plOf T sc ev a])
      | _ => M.bad)
    else itE (plE (ev (.Call (.Name g p) args [] pos)))
  | .Call (.Attribute e m apos) [] [] cpos =>
    if decide (m = ("items" : Str)) && baseX e && (apos.endLine == cpos.line) && isTupX tg then itItems (plOf T sc ev e)
    else if decide (m = ("values" : Str)) && baseX e && (apos.endLine == cpos.line) then itVals (plOf T sc ev e)
    else itE (plE (ev (.Call (.Attribute e m apos) [] [] cpos)))
  | .Set .. => M.bad
  | e => itE (plOf T sc ev e)

/-- a call of what an expression comes to -/
def userX (G : List (Str × GK)) (C : Orc) (n : Nat) (m : M (List Pl)) : W → M Sl
  | .fn x => (match G.lookup x with
    | some (.fn k) => if n = k then userE C x m else M.bad
    | _ => M.bad)
  | _ => M.bad
def userXE (G : List (Str × GK)) (C : Orc) (n : Nat) (mf : M W) (m : M (List Pl)) : M Sl := M.bind mf fun w => userX G C n m w
/-- the first item of a tuple, an int -/
def keyI : W → Int
  | .tup (.int i :: _) => i
  | _ => 0
def hasKey : W → Bool
  | .tup (.int _ :: _) => true
  | _ => false
def srtK (ws : List W) : List W := ws.mergeSort fun a b => decide (keyI a ≤ keyI b)
def W.srtKey : W → Option Sl
  | .lst ws => if ws.all hasKey then some (.o (.lst (srtK ws))) else none
  | _ => none
def srtKE (a : M Pl) : M Sl := unE W.srtKey a
def isInt : W → Bool
  | .int _ => true
  | _ => false
/-- each once -/
def nubW : List W → List W
  | [] => []
  | w :: ws => if (nubW ws).any (fun z => W.eqv z w) then nubW ws else w :: nubW ws
noncomputable def W.srtSet : W → Option Sl
  | .lst ws => if ws.all isInt && decide (ws.length + 1 < 4096) then some (.o (.lst (W.srt (nubW ws)))) else none
  | _ => none
noncomputable def srtSetE (a : M Pl) : M Sl := unE W.srtSet a
noncomputable def callG (T : Tx) (sc : Scope) (pl : Expr → M Pl) (g : Str) (a : Expr) (args : List Expr) : M Sl :=
    if globIn sc g && okName g && (a :: args).all plainX then (match T.G.lookup g with
      | some (.fn n) => if args.length + 1 = n then userE T.C g (plS ((a :: args).map pl)) else M.bad
      | some _ => M.bad
      | none => if isBlt g then callE g (plS ((a :: args).map pl)) else M.bad)
    else M.bad
noncomputable def eStep (T : Tx) (R : Rec) (sc : Scope) (e : Expr) : M Sl :=
  let ev := (R sc).1
  let pl := plOf T sc ev
  match e with
  | .Constant c _ _ => match constW c with
    | some w => cst w
    | none => M.bad
  | .Name x _ => if okName x then (if seen sc x then (match slotOf T.N x with
      | some i => nameE i
      | none => M.bad)
    else if globIn sc x then (match T.G.lookup x with
      | some (.fn _) => cst (.fn x)
      | some (.con w) => cst w
      | some _ => M.bad
      | none => match tyOf x with
        | some t => cst (.ty t)
        | none => M.bad)
    else M.bad) else M.bad
  | .BinOp a op b _ => binE (W.bin op) (pl a) (pl b)
  | .UnaryOp .Not a _ => boolE (notT (truE (pl a)))
  | .UnaryOp .USub a _ => unE negW (pl a)
  | .BoolOp .And (a :: es) _ => dE (andV ((a :: es).map fun e => dat (ev e)))
  | .BoolOp .Or (a :: es) _ => dE (orV ((a :: es).map fun e => dat (ev e)))
  | .Compare a [op] [b] _ => if noSet b then cmpE op (pl a) (pl b) else M.bad
  | .Compare a [op, op'] [b, c] _ => if noSet b && noSet c then chainE op op' (pl a) (pl b) (pl c) else M.bad
  | .IfExp c a b _ => ifE ((R sc).2 c) (ev a) (ev b)
  | .List es _ => if es.all plainX then lstE (evS (es.map fun e => dat (ev e))) else M.bad
  | .Tuple es _ _ => if es.all plainX then tupE (evS (es.map fun e => dat (ev e))) else M.bad
  | .Dict [] [] _ => M.ret (.o (.dct false []))
  | .Dict ks vs _ => if ks.all (·.isSome) && decide (ks.length = vs.length) && !ks.isEmpty && decide (ks.length ≤ 15) then dispE (dispS (dpairs ev ks vs)) else M.bad
  | .Call (.Name g _) [a] [⟨some kw, .Name f _, _⟩] _ =>
    if decide (g = ("sorted" : Str)) && decide (kw = ("key" : Str)) && globIn sc g && globIn sc f && okName f && plainX a && (T.G.lookup g).isNone then (match T.G.lookup (kmk f) with
      | some (.key y) => if y = f then srtKE (pl a) else M.bad
      | _ => M.bad) else M.bad
  | .Call (.Name g p) [.Call (.Name g2 p2) [a] [] q] [] _ =>
    if decide (g = ("sorted" : Str)) && decide (g2 = ("set" : Str)) then (if globIn sc g && globIn sc g2 && plainX a && (T.G.lookup g).isNone && (T.G.lookup g2).isNone then srtSetE (pl a) else M.bad)
    else callG T sc pl g (.Call (.Name g2 p2) [a] [] q) []
  | .Call (.Name g _) (a :: args) [] _ => callG T sc pl g a args
  | .Call (.Subscript o i p) (a :: args) [] _ =>
    if (a :: args).all plainX then userXE T.G T.C (args.length + 1) (dat (ev (.Subscript o i p))) (plS ((a :: args).map pl)) else M.bad
  | .Call (.Attribute o m apos) args [] pos =>
    if args.all plainX && (apos.endLine == pos.line) && baseX o && decide (args.length < 20) then (match o with
      | .Name x _ => if seen sc x && okName x then (match slotOf T.N x with
          | some i => methN i m (args.map pl) (args.map fun e => dat (ev e))
          | none => M.bad) else M.bad
      | o => if isStrM m args.length then methE (plE (ev o)) m (plS (args.map pl))
        else if isGet m args.length then dgetE (plE (ev o)) (evS (args.map fun e => dat (ev e))) else M.bad)
    else M.bad
  | .Subscript a (.Slice none none (some (.UnaryOp .USub (.Constant (.int 1) _ _) _)) _) _ => unE revW (pl a)
  | .Subscript a (.Slice lo hi none _) _ => sliceE (pl a) (lo.map pl) (hi.map pl)
  | .Subscript a i _ => if noSlice i then binE itemW (pl a) (pl i) else M.bad
  | .ListComp elt [⟨tg, iter, ifs, 0⟩] scope _ =>
    let own := ownOf T tg
    let sc' := L2.relS scope sc
    if L2.blkC T.N sc scope own && own.all (fun p => decide (T.np ≤ p.2) && decide (p.2 ∉ T.lk)) then
      (match ifs with
        | [] => lcE (own.map (·.2)) (itOf T sc ev tg iter) (tgOf T scope tg) (M.ret true) (dat ((R sc').1 elt))
        | [c] => lcE (own.map (·.2)) (itOf T sc ev tg iter) (tgOf T scope tg) ((R sc').2 c) (dat ((R sc').1 elt))
        | _ => M.bad)
    else M.bad
  | _ => M.bad
def tstE (m : M Sl) : M Bool := M.bind m fun s => M.of (match s.view with
  | some (.bl b) => some b
  | _ => none)
noncomputable def tStep (T : Tx) (R : Rec) (sc : Scope) (e : Expr) : M Bool :=
  match e with
  | .UnaryOp .Not a _ => notT ((R sc).2 a)
  | .BoolOp .And (a :: es) _ => andT ((a :: es).map (R sc).2)
  | .BoolOp .Or (a :: es) _ => orT ((a :: es).map (R sc).2)
  | .Compare a [op] [b] _ => if noSet b then tstE (cmpE op (plOf T sc (R sc).1 a) (plOf T sc (R sc).1 b)) else M.bad
  | .Compare a [op, op'] [b, c] _ => if noSet b && noSet c then tstE (chainE op op' (plOf T sc (R sc).1 a) (plOf T sc (R sc).1 b) (plOf T sc (R sc).1 c)) else M.bad
  | .Compare .. => M.bad
  | .IfExp .. => M.bad
  | .BoolOp .. => M.bad
  | e => truE (plOf T sc (R sc).1 e)
/-- expressions and tests, n syntax levels deep -/
noncomputable def evN (T : Tx) : Nat → Rec
  | 0 => fun _ => (fun _ => M.bad, fun _ => M.bad)
  | n + 1 => fun sc => (eStep T (evN T n) sc, tStep T (evN T n) sc)

/-- a def's own list leaves by its name -/
def moveE (np i : Nat) : M Sl := fun ρ => match ρ[i]? with
  | some (.d w) => .ok (.d w) ρ
  | some (.o w) => if np ≤ i then .ok (.o w) (ρ.set i .e) else .ok (.d w) (ρ.set i (.d w))
  | _ => .bad
def setItemS (i : Nat) (k : M Pl) (m : M W) : M Unit := M.bind m fun w => M.bind (plName i) fun _ => M.bind k fun p => M.bind (vw p) fun kw => mutO i fun x => match x, kw with
  | .lst ws, .int k => (ixOf ws.length k).map fun j => ((), .lst (ws.set j w))
  | .dct t kvs, k => if W.keyOk t k ∧ kvs.length < sizeLine then some ((), .dct t (putW kvs k w)) else none
  | _, _ => none
def augW : Operator → W → W → Option W
  | .Add, .int i, .int j => some (.int (i + j))
  | .Sub, .int i, .int j => some (.int (i - j))
  | .Add, .str x, .str y => if x.length + y.length ≤ sizeLine then some (.str (x ++ y)) else none
  | _, _, _ => none
def augS (np : Nat) (lk : List Nat) (i : Nat) (op : Operator) (m : M Pl) : M Unit := M.bind (plName i) fun _ => M.bind (vw (.sl i)) fun x => M.bind m fun q => M.bind (vw q) fun y => M.bind (M.of (augW op x y)) fun z => asg np lk i (.d z)
def excS (c : Str) : M Fl := fun ρ => .exc c ρ
def blkS : List (M Fl) → M Fl
  | [] => nxS
  | m :: ms => seqS m (blkS ms)
/-- the slots that a loop locks -/
def lkName (T : Tx) (sc : Scope) : Expr → List Nat
  | .Name x _ => if seen sc x then (match slotOf T.N x with
    | some i => [i]
    | none => []) else []
  | _ => []
def lkOf (T : Tx) (sc : Scope) : Expr → List Nat
  | .Call (.Name _ _) args [] _ => args.flatMap (lkName T sc)
  | e => lkName T sc e
/-- the handler's value, C the class of what is handled -/
def kE0 (T : Tx) (sc : Scope) (n : Str) (C : Str) : Expr → M Sl
  | .Constant .none _ _ => cst .non
  | .Call (.Name g _) [.Name m _] [] _ => if decide (m = n) && globIn sc g && okName g && okName m && seen sc m then (match T.G.lookup g with
    | some (.knd cs) => if C ∈ cs then cst (.str (C ++ "+")) else M.bad
    | _ => M.bad) else M.bad
  | _ => M.bad
def kE (T : Tx) (sc : Scope) (n : Str) (C : Str) : Expr → M Sl
  | .Tuple es _ _ => if es.all plainX then tupE (evS (es.map fun e => dat (kE0 T sc n C e))) else M.bad
  | e => kE0 T sc n C e
/-- the suite; i: the slot of the exception's name -/
def kS (T : Tx) (sc : Scope) (n : Str) (i : Nat) (C : Str) : Stmt → M Fl
  | .Assign [.Name y _] e _ => if locIn sc y && noComp e then (match slotOf T.N y with
    | some j => actS (setS T.np (i :: T.lk) j (kE T sc n C e))
    | none => M.bad) else M.bad
  | _ => M.bad
def tryS (np : Nat) (lk : List Nat) (i : Nat) (cs : List Str) (body : M Fl) (hd : Str → M Fl) : M Fl := fun ρ => match body ρ with
  | .exc C ρ' => if C ∈ cs ∧ np ≤ i ∧ i ∉ lk ∧ i < ρ'.length then (match hd C (ρ'.set i .e) with
    | .ok .nx ρ2 => .ok .nx (ρ2.set i .e)
    | _ => .bad) else .bad
  | o => o
noncomputable def sStep (T : Tx) (sc : Scope) (S : Tx → Stmt → M Fl) (st : Stmt) : M Fl :=
  let R := evN T 24
  let ev := (R sc).1
  let pl := plOf T sc ev
  match st with
  | .Pass _ => nxS
  | .Expr (.Constant (.str _) _ _) _ => nxS
  | .Expr e _ => if noComp e then dropS (ev e) else M.bad
  | .Assign [.Name x _] e _ => if locIn sc x then (match slotOf T.N x with
    | some i => actS (setS T.np T.lk i (asgE T x e (ev e)))
    | none => M.bad) else M.bad
  | .Assign [.Tuple es k p] e _ => if noTup e then actS (M.bind (dat (ev e)) (tgOf T sc (.Tuple es k p))) else M.bad
  | .Assign [.Subscript (.Name x _) k _] e _ => if seen sc x && okName x && noSlice k then (match slotOf T.N x with
    | some i => actS (setItemS i (pl k) (dat (ev e)))
    | none => M.bad) else M.bad
  | .AugAssign (.Name x _) op e _ => if locIn sc x then (match slotOf T.N x with
    | some i => actS (augS T.np T.lk i op (pl e))
    | none => M.bad) else M.bad
  | .If c a b _ => ifE ((R sc).2 c) (blkS (a.map (S T))) (blkS (b.map (S T)))
  | .For tg it body [] _ =>
    let T' := { T with lk := lkOf T sc it ++ T.lk }
    forS T'.lk (itOf T sc ev tg it) (tgOf T' sc tg) (blkS (body.map (S T')))
  | .Try body [.ExceptHandler (some (.Name x _)) (some n) [st] _] [] [] _ =>
    if globIn sc x && okName x && okName n && decide (sc.names.lookup n = some .local) then (match T.G.lookup (hmk x), slotOf T.N n with
      | some (.hnd y cs), some i => if y = x then tryS T.np T.lk i cs (blkS (body.map (S T))) (fun C => blkS [kS T sc n i C st]) else M.bad
      | _, _ => M.bad) else M.bad
  | .While c body [] _ => whileS ((R sc).2 c) (blkS (body.map (S T)))
  | .Return (some (.Name x p)) _ => if seen sc x then (if okName x then (match slotOf T.N x with
    | some i => retS (moveE T.np i)
    | none => M.bad) else M.bad) else retS (ev (.Name x p))
  | .Return (some e) _ => retS (ev e)
  | .Return none _ => retS (cst .non)
  | .Break _ => M.ret .bk
  | .Continue _ => M.ret .ct
  | .Raise (some (.Call (.Name c _) [.Constant (.str _) _ _] [] _)) none _ => if globIn sc c && okName c then (match T.G.lookup c with
    | some .cls => excS c
    | _ => M.bad) else M.bad
  | _ => M.bad
noncomputable def sN (sc : Scope) : Nat → Tx → Stmt → M Fl
  | 0, _ => fun _ => M.bad
  | n + 1, T => sStep T sc (sN sc n)
/-- a def's body, called -/
noncomputable def bodyRun (m : M Fl) (N np : Nat) (args : List Sl) : CRes :=
  if args.length = np then
    match m (args ++ List.replicate (N - np) .e) with
    | .ok .nx ρ => .ret (.d .non) (ρ.take np)
    | .ok (.rt s) ρ => .ret s (ρ.take np)
    | .exc C ρ => .exc C (ρ.take np)
    | _ => .bad
  else .bad
end Pf

-- PfRel
set_option maxHeartbeats 1000000
/-! Pf: plain values and the layer's heaps. -/
namespace Pf
open PySem PySem.Spec PyProof.Rows L2
abbrev St := L2.St
variable {K : PySem.W.Frag} {mg : Str → Option Value}

/-- a key as a plain value -/
def kW : Key → W
  | .inl i => .int i
  | .inr x => .str x
def ktW (k : List Key) : W := .tup (k.map kW)
/-- the dict u: its kind, its keys, its values -/
inductive DKV : HO → Bool → List W → List V → Prop
  | k (kvs : List (Key × V)) : DKV (.dK kvs) false (kvs.map fun p => kW p.1) (kvs.map (·.2))
  | t (kvs : List (List Key × V)) : DKV (.dT kvs) true (kvs.map fun p => ktW p.1) (kvs.map (·.2))
mutual
/-- the value v is the plain value w, all of it within the frozen part G -/
inductive Rep (K : PySem.W.Frag) (mg : Str → Option Value) (G : Hp) : V → W → Prop
  | non : Rep K mg G .non .non
  | bl (b : Bool) : Rep K mg G (.bl b) (.bl b)
  | int (i : Int) : Rep K mg G (.int i) (.int i)
  | str (s : Str) : Rep K mg G (.str s) (.str s)
  | tup {a : Addr} {vs : List V} {ws : List W} : G a = some (.tup vs) → RepL K mg G vs ws → Rep K mg G (.ref a) (.tup ws)
  | lst {a : Addr} {vs : List V} {ws : List W} : G a = some (.lst vs) → RepL K mg G vs ws → Rep K mg G (.ref a) (.lst ws)
  | scr {a : Addr} {ns : List Int} : SqL K G a (ns.map V.int) → Rep K mg G (.ref a) (.scr ns)
  | fn {x : Str} {a : Addr} : mg x = some (.ref a) → Rep K mg G (.ref a) (.fn x)
  | ty (T : String) : Rep K mg G (.ty T) (.ty T)
  | dct {a : Addr} {od : Obj} {u : HO} {t : Bool} {vs : List V} {kvs : List (W × W)} : G a = some (.frz od u) → DKV u t (kvs.map (·.1)) vs → RepL K mg G vs (kvs.map (·.2)) → Rep K mg G (.ref a) (.dct t kvs)
inductive RepL (K : PySem.W.Frag) (mg : Str → Option Value) (G : Hp) : List V → List W → Prop
  | nil : RepL K mg G [] []
  | cons {v : V} {w : W} {vs : List V} {ws : List W} : Rep K mg G v w → RepL K mg G vs ws → RepL K mg G (v :: vs) (w :: ws)
end
def Sub (G H : Hp) : Prop := ∀ a o, G a = some o → H a = some o
theorem Sub.refl (G : Hp) : Sub G G := fun _ _ h => h
theorem Sub.trans {A B C : Hp} (x : Sub A B) (y : Sub B C) : Sub A C := fun a o h => y a o (x a o h)
theorem Sub.rd {G H : Hp} (x : Sub G H) {a : Addr} {u : HO} (h : Rd G a u) : Rd H a u := by
  rcases h with h | ⟨o, h⟩
  · exact .inl (x _ _ h)
  · exact .inr ⟨o, x _ _ h⟩
theorem Sub.sqT {G H : Hp} (x : Sub G H) {a : Addr} {vs : List V} (h : SqT K G a vs) : SqT K H a vs := by
  rcases h with h | h
  · exact .inl (x.rd h)
  · exact .inr h
theorem Sub.sqL {G H : Hp} (x : Sub G H) {a : Addr} {vs : List V} (h : SqL K G a vs) : SqL K H a vs := by
  rcases h with h | h
  · exact .inl (x.rd h)
  · exact .inr h
mutual
theorem Rep.mono {G H : Hp} (s : Sub G H) : ∀ {v : V} {w : W}, Rep K mg G v w → Rep K mg H v w
  | _, _, .non => .non
  | _, _, .bl b => .bl b
  | _, _, .int i => .int i
  | _, _, .str x => .str x
  | _, _, .tup h r => .tup (s _ _ h) (RepL.mono s r)
  | _, _, .lst h r => .lst (s _ _ h) (RepL.mono s r)
  | _, _, .scr h => .scr (s.sqL h)
  | _, _, .fn h => .fn h
  | _, _, .ty T => .ty T
  | _, _, .dct h d r => .dct (s _ _ h) d (RepL.mono s r)
theorem RepL.mono {G H : Hp} (s : Sub G H) : ∀ {vs : List V} {ws : List W}, RepL K mg G vs ws → RepL K mg H vs ws
  | _, _, .nil => .nil
  | _, _, .cons h r => .cons (Rep.mono s h) (RepL.mono s r)
end
theorem RepL.length {G : Hp} : ∀ {vs : List V} {ws : List W}, RepL K mg G vs ws → vs.length = ws.length
  | _, _, .nil => rfl
  | _, _, .cons _ r => congrArg (· + 1) r.length
theorem RepL.get {G : Hp} : ∀ {vs : List V} {ws : List W} {i : Nat} {w : W}, RepL K mg G vs ws → ws[i]? = some w → ∃ v, vs[i]? = some v ∧ Rep K mg G v w
  | _, _, _, _, .nil, h => by simp at h
  | _, _, 0, _, .cons h _, e => by
    simp at e
    subst e
    exact ⟨_, rfl, h⟩
  | _, _, i + 1, w, .cons _ r, e => by
    obtain ⟨v, h1, h2⟩ := RepL.get (i := i) (w := w) r (by simpa using e)
    exact ⟨v, by simpa using h1, h2⟩
theorem RepL.append {G : Hp} : ∀ {vs us : List V} {ws zs : List W}, RepL K mg G vs ws → RepL K mg G us zs → RepL K mg G (vs ++ us) (ws ++ zs)
  | _, _, _, _, .nil, s => s
  | _, _, _, _, .cons h r, s => .cons h (r.append s)
theorem RepL.take {G : Hp} : ∀ {vs : List V} {ws : List W} (n : Nat), RepL K mg G vs ws → RepL K mg G (vs.take n) (ws.take n)
  | _, _, 0, _ => .nil
  | _, _, _ + 1, .nil => .nil
  | _, _, n + 1, .cons h r => .cons h (RepL.take n r)
theorem RepL.drop {G : Hp} : ∀ {vs : List V} {ws : List W} (n : Nat), RepL K mg G vs ws → RepL K mg G (vs.drop n) (ws.drop n)
  | _, _, 0, r => r
  | _, _, _ + 1, .nil => .nil
  | _, _, n + 1, .cons _ r => RepL.drop n r
theorem RepL.set {G : Hp} {v : V} {w : W} (q : Rep K mg G v w) : ∀ {vs : List V} {ws : List W} (n : Nat), RepL K mg G vs ws → RepL K mg G (vs.set n v) (ws.set n w)
  | _, _, _, .nil => .nil
  | _, _, 0, .cons _ r => .cons q r
  | _, _, n + 1, .cons h r => .cons h (RepL.set q n r)
theorem RepL.reverse {G : Hp} {vs : List V} {ws : List W} (r : RepL K mg G vs ws) : RepL K mg G vs.reverse ws.reverse := by
  have go : ∀ {vs : List V} {ws : List W}, RepL K mg G vs ws → RepL K mg G vs.reverse ws.reverse := by
    intro vs
    induction vs with
    | nil => intro ws r; cases r; exact .nil
    | cons v vs ih =>
      intro ws r
      cases r with
      | cons h r =>
        rw [List.reverse_cons, List.reverse_cons]
        exact (ih r).append (.cons h .nil)
  exact go r
theorem RepL.erase {G : Hp} : ∀ {vs : List V} {ws : List W} (n : Nat), RepL K mg G vs ws → RepL K mg G (vs.eraseIdx n) (ws.eraseIdx n)
  | _, _, _, .nil => .nil
  | _, _, 0, .cons _ r => r
  | _, _, n + 1, .cons h r => .cons h (RepL.erase n r)
theorem RepL.dropLast {G : Hp} {vs : List V} {ws : List W} (r : RepL K mg G vs ws) : RepL K mg G vs.dropLast ws.dropLast := by
  rw [List.dropLast_eq_take, List.dropLast_eq_take, r.length]
  exact r.take _
theorem RepL.replicate {G : Hp} {vs : List V} {ws : List W} (r : RepL K mg G vs ws) : ∀ n : Nat, RepL K mg G (List.replicate n vs).flatten (List.replicate n ws).flatten
  | 0 => .nil
  | n + 1 => by
    rw [List.replicate_succ, List.replicate_succ, List.flatten_cons, List.flatten_cons]
    exact r.append (RepL.replicate r n)
theorem RepL.strs {G : Hp} : ∀ {vs : List V} {ws : List W} {ys : List Str}, RepL K mg G vs ws → strsOf ws = some ys → vs = ys.map V.str
  | _, _, ys, .nil, e => by
    cases e
    rfl
  | _, w :: ws, ys, .cons h r, e => by
    cases w <;> simp [strsOf] at e
    obtain ⟨zs, e1, e2⟩ := e
    cases h
    rw [← e2, List.map_cons, RepL.strs r e1]
theorem RepL.bools {G : Hp} : ∀ {vs : List V} {ws : List W} {bs : List Bool}, RepL K mg G vs ws → bools ws = some bs → vs = bs.map V.bl
  | _, _, ys, .nil, e => by
    cases e
    rfl
  | _, w :: ws, ys, .cons h r, e => by
    cases w <;> simp [Pf.bools] at e
    obtain ⟨zs, e1, e2⟩ := e
    cases h
    rw [← e2, List.map_cons, RepL.bools r e1]
mutual
theorem Rep.dp {G : Hp} : ∀ {v : V} {w : W}, Rep K mg G v w → w.dat = true → Dp K G v w.toPy
  | _, _, .non, _ => .non
  | _, _, .bl b, _ => .bl b
  | _, _, .int i, _ => .int i
  | _, _, .str s, _ => .str s
  | _, _, .tup h r, d => .tup (SqT.of h) (RepL.dp r d)
  | _, _, .lst h r, d => .lst (SqL.of h) (RepL.dp r d)
  | _, _, .scr _, d => by cases d
  | _, _, .fn _, d => by cases d
  | _, _, .ty _, d => by cases d
  | _, _, .dct _ _ _, d => by cases d
theorem RepL.dp {G : Hp} : ∀ {vs : List V} {ws : List W}, RepL K mg G vs ws → W.datL ws = true → DpAll K G vs (W.toPyL ws)
  | _, _, .nil, _ => .nil
  | _, w :: ws, .cons h r, d => by
    have d' : (W.dat w && W.datL ws) = true := d
    rw [Bool.and_eq_true] at d'
    exact .cons (Rep.dp h d'.1) (RepL.dp r d'.2)
end
mutual
theorem W.eqv_py : ∀ (a b : W), a.dat = true → b.dat = true → PyData.eqv a.toPy b.toPy = W.eqv a b
  | .non, b, _, d => by cases b <;> first | rfl | cases d
  | .bl x, b, _, d => by cases b <;> first | rfl | cases d
  | .int x, b, _, d => by cases b <;> first | rfl | cases d
  | .str x, b, _, d => by cases b <;> first | rfl | cases d
  | .tup xs, b, c, d => by
    cases b <;> first | rfl | cases d | skip
    exact W.eqvL_py _ _ c d
  | .lst xs, b, c, d => by
    cases b <;> first | rfl | cases d | skip
    exact W.eqvL_py _ _ c d
  | .dct _ _, b, c, _ => by cases c
  | .set _, b, c, _ => by cases c
  | .scr _, b, c, _ => by cases c
  | .fn _, b, c, _ => by cases c
  | .ty _, b, c, _ => by cases c
  | .exn _, b, c, _ => by cases c
theorem W.eqvL_py : ∀ (a b : List W), W.datL a = true → W.datL b = true → PyData.eqvAll (W.toPyL a) (W.toPyL b) = W.eqvL a b
  | [], [], _, _ => rfl
  | [], _ :: _, _, _ => rfl
  | _ :: _, [], _, _ => rfl
  | x :: xs, y :: ys, c, d => by
    have c' : (W.dat x && W.datL xs) = true := c
    have d' : (W.dat y && W.datL ys) = true := d
    rw [Bool.and_eq_true] at c' d'
    show (PyData.eqv x.toPy y.toPy && PyData.eqvAll (W.toPyL xs) (W.toPyL ys)) = (W.eqv x y && W.eqvL xs ys)
    rw [W.eqv_py x y c'.1 d'.1, W.eqvL_py xs ys c'.2 d'.2]
end
mutual
theorem W.lay : ∀ (a : W), a.dat = true → PyData.canLay0 a.toPy = true
  | .non, _ => rfl
  | .bl x, _ => rfl
  | .int x, _ => rfl
  | .str x, d => d
  | .tup xs, c => W.layL xs c
  | .lst xs, c => W.layL xs c
  | .dct _ _, c => by cases c
  | .set _, c => by cases c
  | .scr _, c => by cases c
  | .fn _, c => by cases c
  | .ty _, c => by cases c
  | .exn _, c => by cases c
theorem W.layL : ∀ (a : List W), W.datL a = true → PyData.canLayAll0 (W.toPyL a) = true
  | [], _ => rfl
  | x :: xs, c => by
    have c' : (W.dat x && W.datL xs) = true := c
    rw [Bool.and_eq_true] at c'
    show (PyData.canLay0 x.toPy && PyData.canLayAll0 (W.toPyL xs)) = true
    rw [W.lay x c'.1, W.layL xs c'.2]
    rfl
end
mutual
theorem W.dep : ∀ (a : W), a.dat = true → PyData.depth a.toPy = a.depth
  | .non, _ => rfl
  | .bl x, _ => rfl
  | .int x, _ => rfl
  | .str x, d => rfl
  | .tup xs, c => congrArg (· + 1) (W.depL xs c)
  | .lst xs, c => congrArg (· + 1) (W.depL xs c)
  | .dct _ _, c => by cases c
  | .set _, c => by cases c
  | .scr _, c => by cases c
  | .fn _, c => by cases c
  | .ty _, c => by cases c
  | .exn _, c => by cases c
theorem W.depL : ∀ (a : List W), W.datL a = true → PyData.depthAll (W.toPyL a) = W.depthL a
  | [], _ => rfl
  | x :: xs, c => by
    have c' : (W.dat x && W.datL xs) = true := c
    rw [Bool.and_eq_true] at c'
    show max (PyData.depth x.toPy) (PyData.depthAll (W.toPyL xs)) = _
    rw [W.dep x c'.1, W.depL xs c'.2]
    rfl
end
theorem W.shp_dat {w : W} (h : w.shp = true) : w.dat = true := by
  unfold W.shp at h
  rw [Bool.and_eq_true] at h
  exact h.1
theorem W.shaped {w : W} (h : w.shp = true) : SeqAt.shaped w.toPy = true := by
  have hd := W.shp_dat h
  unfold W.shp at h
  rw [Bool.and_eq_true, decide_eq_true_eq] at h
  unfold SeqAt.shaped
  rw [Bool.and_eq_true, decide_eq_true_eq, W.dep w hd]
  exact ⟨W.lay w hd, h.2⟩

/-! ### objects that a slot owns -/
/-- the object at a holds w, its parts frozen in G -/
def Holds (K : PySem.W.Frag) (mg : Str → Option Value) (G H : Hp) (a : Addr) : W → Prop
  | .lst ws => ∃ vs, H a = some (.lst vs) ∧ RepL K mg G vs ws
  | .dct t kvs => ∃ u vs, H a = some u ∧ DKV u t (kvs.map (·.1)) vs ∧ RepL K mg G vs (kvs.map (·.2))
  | _ => False
theorem Holds.at {G H G' H' : Hp} {a : Addr} {w : W} (s : Sub G G') (e : ∀ o, H a = some o → H' a = some o) (h : Holds K mg G H a w) : Holds K mg G' H' a w := by
  cases w <;> first | exact h.elim | skip
  · obtain ⟨vs, h1, h2⟩ := h
    exact ⟨vs, e _ h1, h2.mono s⟩
  · obtain ⟨u, vs, h1, h2, h3⟩ := h
    exact ⟨u, vs, e _ h1, h2, h3.mono s⟩
/-- v is w at its top in H, its parts frozen in G -/
def Top (K : PySem.W.Frag) (mg : Str → Option Value) (G H : Hp) (v : V) (w : W) : Prop := Rep K mg G v w ∨ ∃ a, v = .ref a ∧ Holds K mg G H a w
theorem Top.lst {G H : Hp} (s : Sub G H) {v : V} {ws : List W} (h : Top K mg G H v (.lst ws)) : ∃ a vs, v = .ref a ∧ H a = some (.lst vs) ∧ RepL K mg G vs ws := by
  rcases h with h | ⟨a, rfl, vs, h1, h2⟩
  · cases h with
    | lst h r => exact ⟨_, _, rfl, s _ _ h, r⟩
  · exact ⟨a, vs, rfl, h1, h2⟩
theorem Top.tup {G H : Hp} (s : Sub G H) {v : V} {ws : List W} (h : Top K mg G H v (.tup ws)) : ∃ a vs, v = .ref a ∧ H a = some (.tup vs) ∧ RepL K mg G vs ws ∧ Rep K mg G v (.tup ws) := by
  rcases h with h | ⟨a, rfl, h⟩
  · cases id h with
    | tup h1 r => exact ⟨_, _, rfl, s _ _ h1, r, h⟩
  · exact h.elim
/-- no list, no dict -/
def W.plainK : W → Bool
  | .lst _ => false
  | .dct _ _ => false
  | _ => true
theorem Top.rep {G H : Hp} {v : V} {w : W} (h : Top K mg G H v w) (hn : w.plainK = true) : Rep K mg G v w := by
  rcases h with h | ⟨a, rfl, h⟩
  · exact h
  · cases w <;> first | exact h.elim | cases hn
/-- a dict, frozen or not -/
theorem Top.dct {G H : Hp} (s : Sub G H) {v : V} {t : Bool} {kvs : List (W × W)} (h : Top K mg G H v (.dct t kvs)) : ∃ a u vs, v = .ref a ∧ Rd H a u ∧ DKV u t (kvs.map (·.1)) vs ∧ RepL K mg G vs (kvs.map (·.2)) := by
  rcases h with h | ⟨a, rfl, u, vs, h1, h2, h3⟩
  · cases h with
    | dct h d r => exact ⟨_, _, _, rfl, .inr ⟨_, s _ _ h⟩, d, r⟩
  · exact ⟨a, u, vs, rfl, .inl h1, h2, h3⟩
theorem Top.int {G H : Hp} {v : V} {i : Int} (h : Top K mg G H v (.int i)) : v = .int i := by
  cases h.rep rfl
  rfl
theorem Top.str {G H : Hp} {v : V} {s : Str} (h : Top K mg G H v (.str s)) : v = .str s := by
  cases h.rep rfl
  rfl
theorem Top.bl {G H : Hp} {v : V} {b : Bool} (h : Top K mg G H v (.bl b)) : v = .bl b := by
  cases h.rep rfl
  rfl
theorem Top.non {G H : Hp} {v : V} (h : Top K mg G H v .non) : v = .non := by
  cases h.rep rfl
  rfl
theorem Top.ty {G H : Hp} {v : V} {T : String} (h : Top K mg G H v (.ty T)) : v = .ty T := by
  cases h.rep rfl
  rfl
theorem Top.scr {G H : Hp} (s : Sub G H) {v : V} {ns : List Int} (h : Top K mg G H v (.scr ns)) : ∃ a, v = .ref a ∧ SqL K H a (ns.map V.int) := by
  cases h.rep rfl with
  | scr h => exact ⟨_, rfl, s.sqL h⟩
theorem Top.dp {G H : Hp} (s : Sub G H) {v : V} {w : W} (h : Top K mg G H v w) (d : w.dat = true) : Dp K H v w.toPy := by
  rcases h with h | ⟨a, rfl, h⟩
  · exact (h.mono s).dp d
  · cases w <;> first | exact h.elim | (cases d; done) | skip
    obtain ⟨vs, h1, h2⟩ := h
    exact .lst (SqL.of h1) ((h2.mono s).dp d)

/-- allocation: what stood stands, what is frozen newly is new -/
structure Grow (G H G' H' : Hp) : Prop where
  same : Sub H H'
  le : Sub G G'
  sub : Sub G' H'
  new : ∀ a o, G' a = some o → G a = some o ∨ H a = none ∨ ∃ xs, o = .tup xs
theorem Grow.refl {G H : Hp} (s : Sub G H) : Grow G H G H := ⟨.refl _, .refl _, s, fun _ _ h => .inl h⟩
theorem Sub.upd {H : Hp} {p : Addr} {o : HO} (h : H p = none) : Sub H (upd H p o) := fun a u e => by
  rw [upd_ne (ne_of_none e h)]
  exact e
/-- a new object that stays unfrozen -/
theorem Grow.alloc {G H : Hp} (s : Sub G H) {p : Addr} {o : HO} (h : H p = none) : Grow G H G (upd H p o) := ⟨.upd h, .refl _, s.trans (.upd h), fun _ _ h => .inl h⟩
/-- a new object, frozen at once -/
theorem Grow.frozen {G H : Hp} (s : Sub G H) {p : Addr} {o : HO} (h : H p = none) : Grow G H (upd G p o) (upd H p o) := by
  have hg : G p = none := by
    cases q : G p with
    | none => rfl
    | some u => rw [s _ _ q] at h; cases h
  refine ⟨.upd h, .upd hg, fun a u e => ?_, fun a u e => ?_⟩
  · by_cases z : a = p
    · subst z
      rw [upd_same] at e ⊢
      exact e
    · rw [upd_ne z] at e ⊢
      exact s _ _ e
  · by_cases z : a = p
    · subst z
      exact .inr (.inl h)
    · rw [upd_ne z] at e
      exact .inl e

/-! ### a frame -/
/-- the frame at the def's entry: the heap, what the arguments own, how many parameters, their values -/
structure Fr0 where
  G0 : Hp
  H0 : Hp
  A0 : Addr → Prop
  np : Nat
  lk : List Nat
  σ0 : St
structure Rel (K : PySem.W.Frag) (mg : Str → Option Value) (F : Fr0) (G H : Hp) (σ : St) (ρ : Env) : Prop where
  sub : Sub G H
  len : σ.length = ρ.length
  dat : ∀ (i : Nat) w, ρ[i]? = some (.d w) → ∃ v, σ[i]? = some (some v) ∧ Rep K mg G v w
  own : ∀ (i : Nat) w, ρ[i]? = some (.o w) → ∃ a, σ[i]? = some (some (.ref a)) ∧ G a = none ∧ Holds K mg G H a w ∧ (F.A0 a ∨ F.H0 a = none)
  sep : ∀ (i j : Nat) w w' a, ρ[i]? = some (.o w) → ρ[j]? = some (.o w') → σ[i]? = some (some (.ref a)) → σ[j]? = some (some (.ref a)) → i = j
  frame : ∀ a o, F.H0 a = some o → ¬ F.A0 a → H a = some o
  par : ∀ i, i < F.np ∨ i ∈ F.lk → σ[i]? = F.σ0[i]?
  new : ∀ a o, G a = some o → F.G0 a = some o ∨ F.H0 a = none ∨ F.A0 a ∨ ∃ xs, o = .tup xs
/-- .. that is no tuple -/
theorem Holds.exN {G H : Hp} {a : Addr} {w : W} (h : Holds K mg G H a w) : ∃ o, H a = some o ∧ ∀ xs, o ≠ .tup xs := by
  cases w <;> first | exact h.elim | skip
  · obtain ⟨vs, h, _⟩ := h
    exact ⟨_, h, fun _ z => nomatch z⟩
  · obtain ⟨u, vs, h, d, _⟩ := h
    exact ⟨u, h, fun xs z => by subst z; cases d⟩
theorem Holds.ex {G H : Hp} {a : Addr} {w : W} (h : Holds K mg G H a w) : ∃ o, H a = some o := by
  obtain ⟨o, e, _⟩ := h.exN
  exact ⟨o, e⟩
theorem Holds.grow {G H G' H' : Hp} (g : Grow G H G' H') {a : Addr} {w : W} (h : Holds K mg G H a w) : Holds K mg G' H' a w := h.at g.le fun o e => g.same _ _ e
theorem Top.grow {G H G' H' : Hp} (g : Grow G H G' H') {v : V} {w : W} (h : Top K mg G H v w) : Top K mg G' H' v w := by
  rcases h with h | ⟨a, e, h⟩
  · exact .inl (h.mono g.le)
  · exact .inr ⟨a, e, h.grow g⟩
variable {F : Fr0} {G H G' H' : Hp} {σ : St} {ρ : Env}
theorem Rel.grow (r : Rel K mg F G H σ ρ) (g : Grow G H G' H') : Rel K mg F G' H' σ ρ where
  sub := g.sub
  len := r.len
  dat := fun i w e => by
    obtain ⟨v, h1, h2⟩ := r.dat i w e
    exact ⟨v, h1, h2.mono g.le⟩
  own := fun i w e => by
    obtain ⟨a, h1, h2, h3, h4⟩ := r.own i w e
    refine ⟨a, h1, ?_, h3.grow g, h4⟩
    cases q : G' a with
    | none => rfl
    | some o =>
      rcases g.new a o q with z | z | ⟨xs, rfl⟩
      · rw [h2] at z; cases z
      · obtain ⟨o', e'⟩ := h3.ex
        rw [z] at e'; cases e'
      · obtain ⟨o', e', n⟩ := h3.exN
        have := g.sub _ _ q
        rw [g.same _ _ e'] at this
        cases this
        exact absurd rfl (n _)
  sep := r.sep
  frame := fun a o h n => g.same _ _ (r.frame a o h n)
  par := r.par
  new := fun a o e => by
    rcases g.new a o e with z | z | z
    · exact r.new a o z
    · by_cases n : F.A0 a
      · exact .inr (.inr (.inl n))
      · refine .inr (.inl ?_)
        cases q : F.H0 a with
        | none => rfl
        | some u => rw [r.frame a u q n] at z; cases z
    · exact .inr (.inr (.inr z))
/-- what comes of an expression -/
def SlRep (K : PySem.W.Frag) (mg : Str → Option Value) (F : Fr0) (G H : Hp) (σ : St) (ρ : Env) (v : V) : Sl → Prop
  | .e => False
  | .d w => Rep K mg G v w
  | .o w => ∃ a, v = .ref a ∧ G a = none ∧ Holds K mg G H a w ∧ (F.A0 a ∨ F.H0 a = none) ∧ ∀ (i : Nat) w', ρ[i]? = some (.o w') → σ[i]? ≠ some (some (.ref a))
/-- .. of an operation on values: new, or frozen -/
def SlNew (K : PySem.W.Frag) (mg : Str → Option Value) (H0 G H : Hp) (v : V) : Sl → Prop
  | .e => False
  | .d w => Rep K mg G v w
  | .o w => ∃ a, v = .ref a ∧ H0 a = none ∧ G a = none ∧ Holds K mg G H a w
theorem Rel.slNew (r : Rel K mg F G H σ ρ) (g : Grow G H G' H') {v : V} {s : Sl} (h : SlNew K mg H G' H' v s) : SlRep K mg F G' H' σ ρ v s := by
  cases s with
  | e => exact h.elim
  | d w => exact h
  | o w =>
    obtain ⟨a, h1, h2, h3, h4⟩ := h
    refine ⟨a, h1, h3, h4, ?_, fun i w' e q => ?_⟩
    · by_cases z : F.A0 a
      · exact .inl z
      · refine .inr ?_
        cases q : F.H0 a with
        | none => rfl
        | some o =>
          rw [r.frame a o q z] at h2
          cases h2
    · obtain ⟨b, e1, _, e3, _⟩ := r.own i w' e
      rw [q] at e1
      cases e1
      obtain ⟨o, e4⟩ := e3.ex
      rw [h2] at e4
      cases e4
/-- what stands at an address once it is frozen: a list as it is, a dict locked -/
inductive FzO : HO → HO → Prop
  | lst (vs : List V) : FzO (.lst vs) (.lst vs)
  | dct {u : HO} {t : Bool} {ks : List W} {vs : List V} (d : DKV u t ks vs) (od : Obj) : FzO u (.frz od u)
/-- .. the wish behind a freezing -/
def LkQ {β : Type} (Q : β → Hp → Prop) : β → Hp → Prop := fun v H => Q v H ∨ ∃ d u t ks vs, H d = some u ∧ DKV u t ks vs ∧ ∀ od, Q v (upd H d (.frz od u))
theorem upd_self {H : Hp} {a : Addr} {o : HO} (h : H a = some o) : upd H a o = H := by
  funext b
  by_cases z : b = a
  · subst z
    rw [upd_same, h]
  · rw [upd_ne z]
theorem LkQ.of {β : Type} {Q : β → Hp → Prop} {v : β} {H : Hp} {a : Addr} {u : HO} (h : H a = some u) (hf : ∃ o, FzO u o) (q : ∀ o, FzO u o → Q v (upd H a o)) : LkQ Q v H := by
  obtain ⟨o, f⟩ := hf
  cases f with
  | lst vs =>
    have := q _ (.lst vs)
    rw [upd_self h] at this
    exact .inl this
  | dct d od => exact .inr ⟨a, u, _, _, _, h, d, fun od => q _ (.dct d od)⟩
theorem FzO.nt {u o : HO} (f : FzO u o) : ∀ xs, u ≠ .tup xs := fun xs z => by
  subst z
  cases f with
  | dct d od => cases d
/-- an owned object is frozen: an address, its content -/
theorem Holds.freeze {a : Addr} {w : W} (s : Sub G H) (hg : G a = none) (h : Holds K mg G H a w) : ∃ u, H a = some u ∧ (∃ o, FzO u o) ∧ ∀ o, FzO u o → Rep K mg (upd G a o) (.ref a) w := by
  cases w <;> first | exact h.elim | skip
  · obtain ⟨vs, h1, h2⟩ := h
    refine ⟨_, h1, ⟨_, .lst vs⟩, fun o f => ?_⟩
    cases f with
    | lst => exact .lst upd_same (h2.mono (.upd hg))
    | dct d od => cases d
  · obtain ⟨u, vs, h1, h2, h3⟩ := h
    refine ⟨_, h1, ⟨_, .dct h2 { cls := .none, data := .fields #[] }⟩, fun o f => ?_⟩
    cases f with
    | lst => cases h2
    | dct d od => exact .dct upd_same h2 (h3.mono (.upd hg))
/-- freezing an object that no slot but perhaps i owns -/
theorem Rel.freeze (r : Rel K mg F G H σ ρ) {a : Addr} {o : HO} (hg : G a = none) (hm : F.A0 a ∨ F.H0 a = none) (hn : ∀ (i : Nat) w', ρ[i]? = some (.o w') → σ[i]? ≠ some (some (.ref a))) : Rel K mg F (upd G a o) (upd H a o) σ ρ where
  sub := fun b u e => by
    by_cases z : b = a
    · subst z
      rw [upd_same] at e ⊢
      exact e
    · rw [upd_ne z] at e ⊢
      exact r.sub _ _ e
  len := r.len
  dat := fun i w e => by
    obtain ⟨v, h1, h2⟩ := r.dat i w e
    exact ⟨v, h1, h2.mono (.upd hg)⟩
  own := fun i w e => by
    obtain ⟨b, h1, h2, h3, h4⟩ := r.own i w e
    have hb : b ≠ a := fun z => hn i w e (z ▸ h1)
    exact ⟨b, h1, by rw [upd_ne hb]; exact h2, h3.at (.upd hg) fun o e => by rw [upd_ne hb]; exact e, h4⟩
  sep := r.sep
  frame := fun b u e n => by
    have hb : b ≠ a := fun z => by
      subst z
      rcases hm with q | q
      · exact n q
      · rw [e] at q; cases q
    rw [upd_ne hb]
    exact r.frame b u e n
  par := r.par
  new := fun b u e => by
    by_cases z : b = a
    · subst z
      rcases hm with q | q
      · exact .inr (.inr (.inl q))
      · exact .inr (.inl q)
    · rw [upd_ne z] at e
      exact r.new b u e
theorem set_get {ρ : Env} {i j : Nat} {s t : Sl} (h : (ρ.set i s)[j]? = some t) : (i = j ∧ t = s) ∨ (i ≠ j ∧ ρ[j]? = some t) := by
  by_cases e : i = j
  · subst e
    by_cases l : i < ρ.length
    · rw [List.getElem?_set_self l] at h
      exact .inl ⟨rfl, (Option.some.inj h).symm⟩
    · rw [List.getElem?_eq_none (by simpa using l)] at h
      cases h
  · rw [List.getElem?_set_ne e] at h
    exact .inr ⟨e, h⟩
/-- a slot's own object is frozen in its place -/
theorem Rel.freezeAt (r : Rel K mg F G H σ ρ) {i : Nat} {w : W} (e : ρ[i]? = some (.o w)) : ∃ a u, σ[i]? = some (some (.ref a)) ∧ H a = some u ∧ (∃ o, FzO u o) ∧ ∀ o, FzO u o → Sub G (upd G a o) ∧ Rep K mg (upd G a o) (.ref a) w ∧ Rel K mg F (upd G a o) (upd H a o) σ (ρ.set i (.d w)) := by
  obtain ⟨a, h1, h2, h3, h4⟩ := r.own i w e
  obtain ⟨u, ho, hf, hr0⟩ := h3.freeze r.sub h2
  refine ⟨a, u, h1, ho, hf, fun o f => ⟨.upd h2, hr0 o f, ?_⟩⟩
  have hr := hr0 o f
  have r0 : Rel K mg F G H σ (ρ.set i .e) := ⟨r.sub, by rw [List.length_set]; exact r.len, fun j w' e' => by
      rcases set_get e' with ⟨_, z⟩ | ⟨_, z⟩
      · cases z
      · exact r.dat j w' z, fun j w' e' => by
      rcases set_get e' with ⟨_, z⟩ | ⟨_, z⟩
      · cases z
      · exact r.own j w' z, fun j k w' w'' b e1 e2 => by
      rcases set_get e1 with ⟨_, z⟩ | ⟨_, z⟩
      · cases z
      · rcases set_get e2 with ⟨_, y⟩ | ⟨_, y⟩
        · cases y
        · exact r.sep j k w' w'' b z y, r.frame, r.par, r.new⟩
  have r1 := r0.freeze (o := o) h2 h4 fun j w' e' q => by
    rcases set_get e' with ⟨_, z⟩ | ⟨hn, z⟩
    · cases z
    · exact hn (r.sep i j _ _ a e z h1 q)
  refine ⟨r1.sub, by rw [List.length_set]; exact r.len, fun j w' e' => ?_, fun j w' e' => ?_, fun j k w' w'' b e1 e2 => ?_, r1.frame, r1.par, r1.new⟩
  · rcases set_get e' with ⟨z, y⟩ | ⟨hn, z⟩
    · subst z
      cases y
      exact ⟨_, h1, hr⟩
    · exact r1.dat j w' (by rw [List.getElem?_set_ne hn]; exact z)
  · rcases set_get e' with ⟨z, y⟩ | ⟨hn, z⟩
    · cases y
    · exact r1.own j w' (by rw [List.getElem?_set_ne hn]; exact z)
  · rcases set_get e1 with ⟨_, z⟩ | ⟨hn, z⟩
    · cases z
    · rcases set_get e2 with ⟨_, y⟩ | ⟨hn', y⟩
      · cases y
      · exact r.sep j k w' w'' b z y
/-- what comes of an expression, frozen -/
theorem Rel.slFreeze (r : Rel K mg F G H σ ρ) {v : V} {s : Sl} {w : W} (h : SlRep K mg F G H σ ρ v s) (e : s.view = some w) :
    Rep K mg G v w ∨ ∃ a u, H a = some u ∧ (∃ o, FzO u o) ∧ ∀ o, FzO u o → Sub G (upd G a o) ∧ Rep K mg (upd G a o) v w ∧ Rel K mg F (upd G a o) (upd H a o) σ ρ := by
  cases s with
  | e => exact h.elim
  | d w' =>
    cases e
    exact .inl h
  | o w' =>
    cases e
    obtain ⟨a, rfl, h2, h3, h4, h5⟩ := h
    obtain ⟨u, ho, hf, hr⟩ := h3.freeze r.sub h2
    exact .inr ⟨a, u, ho, hf, fun o f => ⟨.upd h2, hr o f, r.freeze h2 h4 h5⟩⟩
/-- a slot is emptied -/
theorem Rel.drop (r : Rel K mg F G H σ ρ) (i : Nat) : Rel K mg F G H σ (ρ.set i .e) := ⟨r.sub, by rw [List.length_set]; exact r.len, fun j w' e' => by
      rcases set_get e' with ⟨_, z⟩ | ⟨_, z⟩
      · cases z
      · exact r.dat j w' z, fun j w' e' => by
      rcases set_get e' with ⟨_, z⟩ | ⟨_, z⟩
      · cases z
      · exact r.own j w' z, fun j k w' w'' b e1 e2 => by
      rcases set_get e1 with ⟨_, z⟩ | ⟨_, z⟩
      · cases z
      · rcases set_get e2 with ⟨_, y⟩ | ⟨_, y⟩
        · cases y
        · exact r.sep j k w' w'' b z y, r.frame, r.par, r.new⟩
theorem Rel.view (r : Rel K mg F G H σ ρ) {i : Nat} {w : W} (e : (ρ[i]?).bind Sl.view = some w) : ∃ v, σ[i]? = some (some v) ∧ Top K mg G H v w := by
  cases q : ρ[i]? with
  | none => rw [q] at e; cases e
  | some s =>
    rw [q] at e
    cases s with
    | e => cases e
    | d w' =>
      cases e
      obtain ⟨v, h1, h2⟩ := r.dat i w q
      exact ⟨v, h1, .inl h2⟩
    | o w' =>
      cases e
      obtain ⟨a, h1, h2, h3, _⟩ := r.own i w q
      exact ⟨_, h1, .inr ⟨a, rfl, h3⟩⟩
/-- a slot is written -/
theorem Rel.store (r : Rel K mg F G H σ ρ) {i : Nat} {v : V} {s : Sl} (hp : F.np ≤ i) (hk : i ∉ F.lk) (hi : i < ρ.length) (h : SlRep K mg F G H σ ρ v s) : Rel K mg F G H (σ.set i (some v)) (ρ.set i s) := by
  have hσ : i < σ.length := by rw [r.len]; exact hi
  refine ⟨r.sub, by rw [List.length_set, List.length_set]; exact r.len, fun j w e => ?_, fun j w e => ?_, fun j k w w' a e1 e2 q1 q2 => ?_, r.frame, fun j hj => ?_, r.new⟩
  · rcases set_get e with ⟨rfl, rfl⟩ | ⟨hn, z⟩
    · exact ⟨v, by rw [List.getElem?_set_self hσ], h⟩
    · rw [List.getElem?_set_ne hn]
      exact r.dat j w z
  · rcases set_get e with ⟨rfl, rfl⟩ | ⟨hn, z⟩
    · obtain ⟨a, rfl, h2, h3, h4, _⟩ := h
      exact ⟨a, by rw [List.getElem?_set_self hσ], h2, h3, h4⟩
    · rw [List.getElem?_set_ne hn]
      exact r.own j w z
  · rcases set_get e1 with ⟨rfl, rfl⟩ | ⟨hn, z⟩
    · rcases set_get e2 with ⟨y, _⟩ | ⟨hn', z'⟩
      · exact y
      · obtain ⟨b, rfl, _, _, _, h5⟩ := h
        rw [List.getElem?_set_self hσ] at q1
        cases q1
        rw [List.getElem?_set_ne hn'] at q2
        exact absurd q2 (h5 k w' z')
    · rcases set_get e2 with ⟨rfl, rfl⟩ | ⟨hn', z'⟩
      · obtain ⟨b, rfl, _, _, _, h5⟩ := h
        rw [List.getElem?_set_self hσ] at q2
        cases q2
        rw [List.getElem?_set_ne hn] at q1
        exact absurd q1 (h5 j w z)
      · rw [List.getElem?_set_ne hn] at q1
        rw [List.getElem?_set_ne hn'] at q2
        exact r.sep j k w w' a z z' q1 q2
  · have hn : i ≠ j := fun z => by
      subst z
      rcases hj with hj | hj
      · omega
      · exact hk hj
    rw [List.getElem?_set_ne hn]
    exact r.par j hj
/-- the object that slot i owns is changed -/
theorem Rel.changeH (r : Rel K mg F G H σ ρ) {i : Nat} {w w1 : W} {o : HO} {a : Addr} (e : ρ[i]? = some (.o w)) (ha : σ[i]? = some (some (.ref a))) (hr : ∀ H', H' a = some o → Holds K mg G H' a w1) : Rel K mg F G (upd H a o) σ (ρ.set i (.o w1)) := by
  obtain ⟨b, h1, h2, h3, h4⟩ := r.own i w e
  rw [ha] at h1
  cases h1
  refine ⟨fun c o q => ?_, by rw [List.length_set]; exact r.len, fun j w' e' => ?_, fun j w' e' => ?_, fun j k w' w'' c e1 e2 => ?_, fun c o q n => ?_, r.par, r.new⟩
  · have hc : c ≠ a := fun z => by rw [z, h2] at q; cases q
    rw [upd_ne hc]
    exact r.sub _ _ q
  · rcases set_get e' with ⟨_, z⟩ | ⟨hn, z⟩
    · cases z
    · exact r.dat j w' z
  · rcases set_get e' with ⟨rfl, z⟩ | ⟨hn, z⟩
    · cases z
      exact ⟨a, ha, h2, hr _ upd_same, h4⟩
    · obtain ⟨c, k1, k2, k3, k4⟩ := r.own j w' z
      have hc : c ≠ a := fun q => hn (r.sep i j w w' a e z ha (q ▸ k1))
      exact ⟨c, k1, k2, k3.at (.refl _) fun o q => by rw [upd_ne hc]; exact q, k4⟩
  · rcases set_get e1 with ⟨rfl, _⟩ | ⟨hn, z⟩
    · rcases set_get e2 with ⟨rfl, _⟩ | ⟨hn', z'⟩
      · exact fun _ _ => rfl
      · exact r.sep _ k w w'' c e z'
    · rcases set_get e2 with ⟨rfl, _⟩ | ⟨hn', z'⟩
      · exact r.sep j _ w' w c z e
      · exact r.sep j k w' w'' c z z'
  · have hc : c ≠ a := fun z => by
      subst z
      rcases h4 with h4 | h4
      · exact n h4
      · rw [h4] at q; cases q
    rw [upd_ne hc]
    exact r.frame c o q n
theorem Rel.change (r : Rel K mg F G H σ ρ) {i : Nat} {w : W} {ws : List W} {vs : List V} {a : Addr} (e : ρ[i]? = some (.o w)) (ha : σ[i]? = some (some (.ref a))) (hr : RepL K mg G vs ws) : Rel K mg F G (upd H a (.lst vs)) σ (ρ.set i (.o (.lst ws))) :=
  r.changeH e ha fun _ h => ⟨vs, h, hr⟩
end Pf

-- PfDict
/-! Pf: dicts of plain values and the layer's. -/
namespace Pf
open PySem PySem.Spec PyProof.Rows L2
variable {K : PySem.W.Frag} {mg : Str → Option Value} {G H : Hp}
theorem kW_eqv (a b : Key) : W.eqv (kW a) (kW b) = decide (a = b) := by
  cases a with
  | inl i =>
    cases b with
    | inl j =>
      show (i == j) = _
      by_cases h : i = j
      · subst h; simp
      · have : ¬ (Sum.inl i : Key) = Sum.inl j := fun z => h (Sum.inl.inj z)
        rw [decide_eq_false this]
        exact beq_eq_false_iff_ne.mpr h
    | inr y => exact (decide_eq_false (fun z => nomatch z)).symm
  | inr x =>
    cases b with
    | inl j => exact (decide_eq_false (fun z => nomatch z)).symm
    | inr y =>
      show (x == y) = _
      by_cases h : x = y
      · subst h; simp
      · have : ¬ (Sum.inr x : Key) = Sum.inr y := fun z => h (Sum.inr.inj z)
        rw [decide_eq_false this]
        exact beq_eq_false_iff_ne.mpr h
theorem kWL_eqv : ∀ (a b : List Key), W.eqvL (a.map kW) (b.map kW) = decide (a = b)
  | [], [] => rfl
  | [], _ :: _ => rfl
  | _ :: _, [] => rfl
  | x :: xs, y :: ys => by
    show (W.eqv (kW x) (kW y) && W.eqvL (xs.map kW) (ys.map kW)) = _
    rw [kW_eqv, kWL_eqv xs ys]
    by_cases h : x = y
    · subst h
      by_cases h2 : xs = ys
      · subst h2; simp
      · simp [h2]
    · simp [h]
theorem ktW_eqv (a b : List Key) : W.eqv (ktW a) (ktW b) = decide (a = b) := kWL_eqv a b
section
variable {κ : Type} [DecidableEq κ] {f : κ → W} (hf : ∀ a b, W.eqv (f a) (f b) = decide (a = b))
include hf
theorem val_rel : ∀ {kvs0 : List (κ × V)} {kvs : List (W × W)}, kvs.map (·.1) = kvs0.map (fun p => f p.1) → RepL K mg G (kvs0.map (·.2)) (kvs.map (·.2)) → ∀ k, match valW kvs (f k) with
    | some w => ∃ v, valV kvs0 k = some v ∧ Rep K mg G v w
    | none => valV kvs0 k = none
  | [], [], _, _, k => rfl
  | [], _ :: _, e, _, _ => by simp at e
  | _ :: _, [], e, _, _ => by simp at e
  | p :: kvs0, q :: kvs, e, r, k => by
    rw [List.map_cons, List.map_cons, List.cons.injEq] at e
    rw [List.map_cons, List.map_cons] at r
    cases r with
    | cons r1 r =>
      have ih := val_rel e.2 r k
      by_cases h : p.1 = k
      · have hq : W.eqv q.1 (f k) = true := by rw [e.1, hf, decide_eq_true h]
        have e1 : valW (q :: kvs) (f k) = some q.2 := by unfold valW; rw [List.find?_cons, hq]; rfl
        rw [e1]
        exact ⟨_, valV_pos h, r1⟩
      · have hq : W.eqv q.1 (f k) = false := by rw [e.1, hf, decide_eq_false h]
        have e1 : valW (q :: kvs) (f k) = valW kvs (f k) := by unfold valW; rw [List.find?_cons, hq]
        rw [e1, valV_neg h]
        exact ih
theorem has_rel : ∀ {kvs0 : List (κ × V)} {kvs : List (W × W)}, kvs.map (·.1) = kvs0.map (fun p => f p.1) → ∀ k, hasW kvs (f k) = kvs0.any fun kv => decide (kv.1 = k)
  | [], [], _, k => rfl
  | [], _ :: _, e, _ => by simp at e
  | _ :: _, [], e, _ => by simp at e
  | p :: kvs0, q :: kvs, e, k => by
    rw [List.map_cons, List.map_cons, List.cons.injEq] at e
    show (W.eqv q.1 (f k) || hasW kvs (f k)) = _
    rw [has_rel e.2 k, e.1, hf]
    rfl
theorem rep_rel {v : V} {w : W} (rv : Rep K mg G v w) : ∀ {kvs0 : List (κ × V)} {kvs : List (W × W)}, kvs.map (·.1) = kvs0.map (fun p => f p.1) → RepL K mg G (kvs0.map (·.2)) (kvs.map (·.2)) → ∀ k,
    (kvs.map fun p => if W.eqv p.1 (f k) = true then (p.1, w) else p).map (·.1) = (kvs0.map fun kv => if kv.1 = k then (kv.1, v) else kv).map (fun p => f p.1) ∧
    RepL K mg G ((kvs0.map fun kv => if kv.1 = k then (kv.1, v) else kv).map (·.2)) ((kvs.map fun p => if W.eqv p.1 (f k) = true then (p.1, w) else p).map (·.2))
  | [], [], _, _, k => ⟨rfl, .nil⟩
  | [], _ :: _, e, _, _ => by simp at e
  | _ :: _, [], e, _, _ => by simp at e
  | p :: kvs0, q :: kvs, e, r, k => by
    rw [List.map_cons, List.map_cons, List.cons.injEq] at e
    rw [List.map_cons, List.map_cons] at r
    cases r with
    | cons r1 r =>
      obtain ⟨i1, i2⟩ := rep_rel rv e.2 r k
      simp only [List.map_cons]
      by_cases h : p.1 = k
      · have hq : W.eqv q.1 (f k) = true := by rw [e.1, hf, decide_eq_true h]
        rw [if_pos h, if_pos hq]
        exact ⟨by rw [i1]; exact congrArg (· :: _) e.1, .cons rv i2⟩
      · have hq : ¬ W.eqv q.1 (f k) = true := by rw [e.1, hf, decide_eq_false h]; exact fun z => nomatch z
        rw [if_neg h, if_neg hq]
        exact ⟨by rw [i1]; exact congrArg (· :: _) e.1, .cons r1 i2⟩
theorem put_rel {v : V} {w : W} (rv : Rep K mg G v w) {kvs0 : List (κ × V)} {kvs : List (W × W)} (e : kvs.map (·.1) = kvs0.map (fun p => f p.1)) (r : RepL K mg G (kvs0.map (·.2)) (kvs.map (·.2))) (k : κ) :
    (putW kvs (f k) w).map (·.1) = (putK kvs0 k v).map (fun p => f p.1) ∧ RepL K mg G ((putK kvs0 k v).map (·.2)) ((putW kvs (f k) w).map (·.2)) := by
  unfold putW putK
  rw [has_rel hf e k]
  split
  · exact rep_rel hf rv e r k
  · simp only [List.map_append, List.map_cons, List.map_nil]
    exact ⟨by rw [e], r.append (.cons rv .nil)⟩
end
theorem key1_of {w : W} (h : w.key1 = true) : ∃ k : Key, w = kW k := by
  cases w <;> first | cases h | skip
  · exact ⟨.inl _, rfl⟩
  · exact ⟨.inr _, rfl⟩
theorem keys_of : ∀ {ws : List W}, ws.all W.key1 = true → ∃ ks : List Key, ws = ks.map kW
  | [], _ => ⟨[], rfl⟩
  | w :: ws, h => by
    rw [List.all_cons, Bool.and_eq_true] at h
    obtain ⟨k, rfl⟩ := key1_of h.1
    obtain ⟨ks, rfl⟩ := keys_of h.2
    exact ⟨k :: ks, rfl⟩
theorem rep_kW {v : V} {k : Key} (h : Rep K mg G v (kW k)) : v = kV k := by
  cases k with
  | inl i =>
    cases (show Rep K mg G v (.int i) from h)
    rfl
  | inr x =>
    cases (show Rep K mg G v (.str x) from h)
    rfl
theorem repl_kW : ∀ {vs : List V} {ks : List Key}, RepL K mg G vs (ks.map kW) → vs = ks.map kV
  | vs, [], h => by cases h; rfl
  | vs, k :: ks, h => by
    cases h with
    | cons h r => rw [rep_kW h, repl_kW r]; rfl
theorem kW_rep (k : Key) : Rep K mg G (kV k) (kW k) := by
  cases k with
  | inl i => exact .int i
  | inr x => exact .str x
theorem kWs_rep : ∀ ks : List Key, RepL K mg G (ks.map kV) (ks.map kW)
  | [] => .nil
  | k :: ks => .cons (kW_rep k) (kWs_rep ks)
/-- a key, as the layer has it -/
inductive KeyAt (H : Hp) : Bool → V → W → Prop
  | k (k : Key) : KeyAt H false (kV k) (kW k)
  | t {b : Addr} (k : List Key) : H b = some (.tup (k.map kV)) → KeyAt H true (.ref b) (ktW k)
theorem key_at (s : Sub G H) {t : Bool} {y : V} {k : W} (h : W.keyOk t k = true) (ty : Top K mg G H y k) : KeyAt H t y k := by
  cases t with
  | false =>
    obtain ⟨k, rfl⟩ := key1_of (show k.key1 = true by cases k <;> first | exact h | cases h)
    have hp : (kW k).plainK = true := by cases k <;> rfl
    rw [rep_kW (ty.rep hp)]
    exact .k k
  | true =>
    cases k <;> first | cases h | skip
    rename_i ws
    obtain ⟨ks, rfl⟩ := keys_of (show ws.all W.key1 = true from h)
    obtain ⟨a, vs, rfl, h1, r1, _⟩ := ty.tup s
    rw [repl_kW r1] at h1
    exact .t ks h1
/-- what a dict holds at a key -/
def DVal (K : PySem.W.Frag) (mg : Str → Option Value) (G : Hp) (o : Option V) : Option W → Prop
  | some w => ∃ v, o = some v ∧ Rep K mg G v w
  | none => o = none
theorem dval_some {o : Option V} {p : Option W} (h : DVal K mg G o p) : o.isSome = p.isSome := by
  cases p with
  | none => rw [show o = none from h]; rfl
  | some w =>
    obtain ⟨v, e, _⟩ := h
    rw [e]
    rfl
theorem dget_of {a : Addr} {u : HO} {t : Bool} {vs : List V} {kvs : List (W × W)} {y : V} {k : W} (h : Rd H a u) (d : DKV u t (kvs.map (·.1)) vs) (r : RepL K mg G vs (kvs.map (·.2))) (q : KeyAt H t y k) :
    ∃ o, DGet H a y o ∧ DVal K mg G o (valW kvs k) := by
  generalize e0 : kvs.map (·.1) = ks at d
  cases d with
  | k kvs0 =>
    cases q with
    | k k =>
      refine ⟨valV kvs0 k, .inl ⟨kvs0, k, h, rfl, rfl⟩, ?_⟩
      have := val_rel (f := kW) kW_eqv e0 r k
      unfold DVal
      split at this <;> exact this
  | t kvs0 =>
    cases q with
    | t k hb =>
      refine ⟨valV kvs0 k, .inr ⟨kvs0, k, _, h, rfl, hb, rfl⟩, ?_⟩
      have := val_rel (f := ktW) ktW_eqv e0 r k
      unfold DVal
      split at this <;> exact this
theorem dkv_len {u : HO} {t : Bool} {ks : List W} {vs : List V} (d : DKV u t ks vs) : vs.length = ks.length := by
  cases d <;> simp
theorem dput_of {a : Addr} {u : HO} {t : Bool} {vs : List V} {kvs : List (W × W)} {y v : V} {k w : W} (h : H a = some u) (d : DKV u t (kvs.map (·.1)) vs) (r : RepL K mg G vs (kvs.map (·.2))) (q : KeyAt H t y k) (hl : kvs.length < sizeLine) (rv : Rep K mg G v w) :
    ∃ u' vs', DPut H a y v (upd H a u') ∧ DKV u' t ((putW kvs k w).map (·.1)) vs' ∧ RepL K mg G vs' ((putW kvs k w).map (·.2)) := by
  generalize e0 : kvs.map (·.1) = ks at d
  have l1 : kvs.length = ks.length := by rw [← e0, List.length_map]
  cases d with
  | k kvs0 =>
    cases q with
    | k k =>
      obtain ⟨p1, p2⟩ := put_rel (f := kW) kW_eqv rv e0 r k
      rw [List.length_map] at l1
      exact ⟨.dK (putK kvs0 k v), _, .inl ⟨kvs0, k, h, rfl, by omega, rfl⟩, by rw [p1]; exact .k _, p2⟩
  | t kvs0 =>
    cases q with
    | t k hb =>
      obtain ⟨p1, p2⟩ := put_rel (f := ktW) ktW_eqv rv e0 r k
      rw [List.length_map] at l1
      exact ⟨.dT (putK kvs0 k v), _, .inr ⟨kvs0, k, _, h, rfl, hb, by omega, rfl⟩, by rw [p1]; exact .t _, p2⟩
theorem dkv_isD {a : Addr} {u : HO} {t : Bool} {ks : List W} {vs : List V} (h : Rd H a u) (d : DKV u t ks vs) : IsD H a := by
  cases d with
  | k kvs => exact .inl ⟨kvs, h⟩
  | t kvs => exact .inr ⟨kvs, h⟩
theorem dkv_mut {u : HO} {t : Bool} {ks : List W} {vs : List V} (d : DKV u t ks vs) : Mut (some u) := by
  cases d <;> exact True.intro
/-! ### operators on dicts -/
variable {X : Cx}
/-- d[k], k in d -/
def rDIx : R2 := fun x y H Q => ∃ a v, x = .ref a ∧ DGet H a y (some v) ∧ Q v H
theorem ix_dict (hu : X.A.units + 1 < cLine) : IxR X rDIx := by
  intro value slice pins st σ H x y v u Q I rx ry h hs
  obtain ⟨a, w, rfl, g, q⟩ := h
  obtain rfl : v = Value.ref a := rx
  exact tail_any (dict_typeIs I g) PySem.F.slot_dict_getitem.lookup (d_getItem hu I g ry fun w' s' I' rw' => ⟨w, H, I', rw', q⟩) hs
theorem op_in_dct (hu : X.A.units + 1 < cLine) : OpR X (compareOp .In) (fun y x H Q => ∃ a o, x = .ref a ∧ DGet H a y o ∧ Q (.bl o.isSome) H) := by
  intro pins st σ H y x v u Q I ry rx h
  obtain ⟨a, o, rfl, g, q⟩ := h
  obtain rfl : u = Value.ref a := rx
  exact d_in hu I g ry fun s' I' => ⟨.bl o.isSome, H, I', rfl, q⟩
theorem op_notIn_dct (hu : X.A.units + 1 < cLine) : OpR X (compareOp .NotIn) (fun y x H Q => ∃ a o, x = .ref a ∧ DGet H a y o ∧ Q (.bl (!o.isSome)) H) := by
  intro pins st σ H y x v u Q I ry rx h
  obtain ⟨a, o, rfl, g, q⟩ := h
  obtain rfl : u = Value.ref a := rx
  exact d_notIn hu I g ry fun s' I' => ⟨.bl (!o.isSome), H, I', rfl, q⟩
/-- xs[i] = v, d[k] = v -/
def rSetA : V → V → V → Hp → (Hp → Prop) → Prop := fun o i v H Q => rSetL o i v H Q ∨ ∃ a H', o = .ref a ∧ DPut H a i v H' ∧ Q H'
theorem set_any (hu : X.A.units + 1 < cLine) : PSet X rSetA := by
  intro pins s σ H o i v ov iv u Q I ro ri rv h
  rcases h with h | ⟨a, H', rfl, g, q⟩
  · exact set_list pins s σ H o i v ov iv u Q I ro ri rv h
  · obtain rfl : ov = Value.ref a := ro
    exact d_setItem hu I g ri rv fun s' I' => ⟨H', I', q⟩
/-! ### len(d), list(d) -/
theorem call_len_dct : CallR X (.builtin "len") (fun xs H Q => ∃ a u t ks vs, xs = [.ref a] ∧ Rd H a u ∧ DKV u t ks vs ∧ Q (.int ((ks.length : Nat) : Int)) H) := by
  intro pins s σ H xs us Q I r h
  obtain ⟨p, u, t, ks, vs, rfl, hp, d, q⟩ := h
  obtain ⟨u', rfl, rx⟩ := vals1 r
  obtain rfl : u' = .ref p := rx
  cases d with
  | k kvs =>
    refine d_len I hp fun t s' I' => ⟨.int ((kvs.length : Nat) : Int), H, I', ⟨_, rfl⟩, ?_⟩
    rw [List.length_map] at q
    exact q
  | t kvs =>
    obtain ⟨z, hd, ys, rel, dd⟩ := dt_rd I.hok hp
    have hl : kvs.length = ys.length := Paired.length rel
    refine call_len_dictH hd dd (by rw [← hl]; rw [sizeLine_eq] at z; omega) ?_
    rw [← hl]
    rw [List.length_map] at q
    exact ⟨.int ((kvs.length : Nat) : Int), H, I.tok _, ⟨_, rfl⟩, q⟩
theorem call_list_dKR (hc : X.calm = true) : CallR X (.type "list") (fun xs H Q => ∃ p kvs, xs = [.ref p] ∧ Rd H p (.dK kvs) ∧ ∀ q, H q = none → Q (.ref q) (upd H q (.lst (kvs.map fun kv => kV kv.1)))) := by
  intro pins s σ H xs us Q I r h
  obtain ⟨p, kvs, rfl, hk, q⟩ := h
  obtain ⟨u, rfl, rx⟩ := vals1 r
  obtain rfl : u = Value.ref p := rx
  obtain ⟨z, lo, vs, rk, hd⟩ := dk_rd I.hok hk
  obtain ⟨ep, hat⟩ := hd.dictAt
  have hl : kvs.length = vs.length := Paired.length rk
  refine PySem.W.kdl_call (PySem.W.kdl_dict (knd := mixKind X.prog X.w) (kvs := vs) (ep := ep) lo) (I.ok.hd hc) hat (by rw [← hl]; exact z) fun h' tk acc' c' hkeep hS hacc => ?_
  refine ⟨.ref s.heap.objs.size, upd H s.heap.objs.size (.lst (kvs.map fun kv => kV kv.1)), I.laid hkeep (Nat.le_refl _) (show ObjOk X.prog X.w _ _ _ (.lst (kvs.map fun kv => kV kv.1)) from ⟨?_, acc'.toList, c', ?_, ?_⟩), rfl, q _ (I.hok.fresh (Nat.le_refl _))⟩
  · rw [List.length_map]; exact z
  · have e0 : acc'.toList.length = kvs.length := by rw [Array.length_toList, hacc.1, hl]
    refine vals_of_at (by rw [List.length_map, e0]) fun j x w h1 h2 => ?_
    obtain ⟨k, y, hky, hi⟩ := hacc.2 j w (by rw [← Array.getElem?_toList]; exact h2)
    have e1 : (kvs.map (·.1))[j]? = some k := by
      rw [KV.keys rk, List.getElem?_map, hky] <;> rfl
    have e2 : (kvs.map fun kv => kV kv.1)[j]? = some (kV k) := by
      rw [show (kvs.map fun kv => kV kv.1) = (kvs.map (·.1)).map kV by rw [List.map_map]; rfl, List.getElem?_map, e1] <;> rfl
    rw [e2] at h1
    cases h1
    exact keyIs_rel hi
  · rw [Array.toArray_toList]; exact hS
end Pf

-- PfOps
/-! Pf: the operators on plain values are the model's. -/
namespace Pf
open PySem PySem.Spec PyProof.Rows L2
variable {X : Cx}
/-- an operator on plain values, as a reading -/
def rOp (K : PySem.W.Frag) (mg : Str → Option Value) (op : W → W → Option Sl) : R2 := fun x y H Q => ∃ G wx wy s, Sub G H ∧ Top K mg G H x wx ∧ Top K mg G H y wy ∧ op wx wy = some s ∧
  ∀ v G' H', Grow G H G' H' → SlNew K mg H G' H' v s → Q v H'
theorem add_ok : OpR X (binaryOp .Add) (rOp X.K X.mg W.add) := by
  intro pins st σ H x y v u Q I rx ry h
  obtain ⟨G, wx, wy, s, sub, tx, ty, e, q⟩ := h
  unfold W.add at e
  split at e
  · cases e
    cases tx.int
    cases ty.int
    exact op_add pins st σ H _ _ v u Q I rx ry ⟨_, _, rfl, rfl, q _ G H (.refl sub) (.int _)⟩
  · split at e
    · rename_i hl
      cases e
      cases tx.str
      cases ty.str
      exact op_add_str pins st σ H _ _ v u Q I rx ry ⟨_, _, rfl, rfl, hl, q _ G H (.refl sub) (.str _)⟩
    · cases e
  · split at e
    · rename_i hl
      cases e
      obtain ⟨a, vs, rfl, h1, r1⟩ := tx.lst sub
      obtain ⟨b, us, rfl, h2, r2⟩ := ty.lst sub
      refine op_cat pins st σ H _ _ v u Q I rx ry ⟨a, b, vs, us, rfl, rfl, h1, h2, by rw [r1.length, r2.length]; exact hl, fun p hp => ?_⟩
      refine q _ G _ (.alloc sub hp) ⟨p, rfl, hp, ?_, _, upd_same, r1.append r2⟩
      cases z : G p with
      | none => rfl
      | some o => rw [sub _ _ z] at hp; cases hp
    · cases e
  · split at e
    · rename_i hl
      cases e
      obtain ⟨a, vs, rfl, h1, r1, t1⟩ := tx.tup sub
      obtain ⟨b, us, rfl, h2, r2, t2⟩ := ty.tup sub
      have l1 := r1.length
      have l2 := r2.length
      refine op_catA pins st σ H _ _ v u Q I rx ry ⟨a, b, vs, us, rfl, rfl, SqT.of h1, SqT.of h2, by rw [l1, l2]; exact hl, fun z => ?_, fun z z2 => ?_, fun z z2 p hp => ?_⟩
      · subst z
        cases r1
        exact q _ G H (.refl sub) t2
      · subst z2
        cases r2
        rw [List.append_nil] at q
        exact q _ G H (.refl sub) t1
      · have hg : G p = none := by
          cases z : G p with
          | none => rfl
          | some o => rw [sub _ _ z] at hp; cases hp
        exact q _ _ _ (.frozen sub hp) (.tup upd_same ((r1.append r2).mono (.upd hg)))
    · cases e
  · cases e
theorem sub_ok : OpR X (binaryOp .Sub) (rOp X.K X.mg W.sub) := by
  intro pins st σ H x y v u Q I rx ry h
  obtain ⟨G, wx, wy, s, sub, tx, ty, e, q⟩ := h
  unfold W.sub at e
  split at e
  · cases e
    cases tx.int
    cases ty.int
    exact op_sub pins st σ H _ _ v u Q I rx ry ⟨_, _, rfl, rfl, q _ G H (.refl sub) (.int _)⟩
  · cases e
theorem mul_ok : OpR X (binaryOp .Mult) (rOp X.K X.mg W.mul) := by
  intro pins st σ H x y v u Q I rx ry h
  obtain ⟨G, wx, wy, s, sub, tx, ty, e, q⟩ := h
  unfold W.mul at e
  split at e
  · split at e
    · rename_i hl
      cases e
      cases tx.int
      cases ty.int
      exact op_mulW pins st σ H _ _ v u Q I rx ry ⟨_, _, rfl, rfl, by unfold CMulW; exact of_decide_eq_true hl, q _ G H (.refl sub) (.int _)⟩
    · cases e
  · split at e
    · rename_i hl
      cases e
      cases tx.str
      cases ty.int
      obtain ⟨t, rfl⟩ := rx
      obtain ⟨t', rfl⟩ := ry
      rename_i x n
      have fin := q (.str (strRep x n)) G H (.refl sub) (.str _)
      refine PySem.P.mul_str ?_ (fun h1 h2 => ?_) (fun h1 h2 => ?_) ?_
      · rw [decide_eq_false (by omega), decide_eq_false (by omega)]
        rfl
      · have hn : 1 ≤ n := by omega
        have e : ((x.length * n.toNat : Nat) : Int) ≤ ((10000000 : Nat) : Int) := Int.ofNat_le.mpr hl.2.2.1
        rw [Int.natCast_mul, Int.toNat_of_nonneg hl.1] at e
        have this : (x.length : Int) * n ≤ 2 ^ 63 - 1 := Int.le_trans e (by omega)
        have le : (x.length : Int) ≤ (2 ^ 63 - 1) / n := (Int.le_ediv_iff_mul_le (by omega)).mpr this
        omega
      · unfold Builtin.Str.tooLong
        exact decide_eq_false (by have := hl.2.2.1; rw [show sizeLine = 16777216 from rfl]; omega)
      · have lr := hl.2.2.2
        unfold strRep at fin lr
        split
        · rename_i c
          rw [if_pos c] at fin
          exact ⟨by decide, .str Str.empty, H, I.kept (t' := st.toks + 1) (fun _ _ z => z), ⟨_, rfl⟩, fin⟩
        · rename_i c
          rw [if_neg c] at fin lr
          split
          · rename_i c2
            rw [if_pos c2] at fin
            exact ⟨.str x, H, I, ⟨_, rfl⟩, fin⟩
          · rename_i c2
            rw [if_neg c2] at fin lr
            exact ⟨by rw [show sizeLine = 16777216 from rfl]; omega, .str ⟨(List.replicate n.toNat x.cps).foldl (· ++ ·) #[]⟩, H, I.kept (t' := st.toks + 1) (fun _ _ z => z), ⟨_, rfl⟩, fin⟩
    · cases e
  · split at e
    · rename_i hl
      cases e
      obtain ⟨a, vs, rfl, h1, r1⟩ := tx.lst sub
      cases ty.int
      refine op_rep pins st σ H _ _ v u Q I rx ry ⟨a, _, vs, rfl, rfl, h1, by omega, by omega, by rw [r1.length]; exact hl.2.2, fun p hp => ?_⟩
      refine q _ G _ (.alloc sub hp) ⟨p, rfl, hp, ?_, _, upd_same, r1.replicate _⟩
      cases z : G p with
      | none => rfl
      | some o => rw [sub _ _ z] at hp; cases hp
    · cases e
  · cases e
theorem fdiv_ok : OpR X (binaryOp .FloorDiv) (rOp X.K X.mg W.fdiv) := by
  intro pins st σ H x y v u Q I rx ry h
  obtain ⟨G, wx, wy, s, sub, tx, ty, e, q⟩ := h
  unfold W.fdiv at e
  split at e
  · split at e
    · rename_i hl
      cases e
      cases tx.int
      cases ty.int
      exact op_fdivW pins st σ H _ _ v u Q I rx ry ⟨_, _, rfl, rfl, hl, q _ G H (.refl sub) (.int _)⟩
    · cases e
  · cases e
theorem mod_ok : OpR X (binaryOp .Mod) (rOp X.K X.mg W.mod) := by
  intro pins st σ H x y v u Q I rx ry h
  obtain ⟨G, wx, wy, s, sub, tx, ty, e, q⟩ := h
  unfold W.mod at e
  split at e
  · split at e
    · rename_i hl
      cases e
      cases tx.int
      cases ty.int
      exact op_mod pins st σ H _ _ v u Q I rx ry ⟨_, _, rfl, rfl, hl, q _ G H (.refl sub) (.int _)⟩
    · cases e
  · cases e
theorem pow_ok : OpR X (binaryOp .Pow) (rOp X.K X.mg W.pow) := by
  intro pins st σ H x y v u Q I rx ry h
  obtain ⟨G, wx, wy, s, sub, tx, ty, e, q⟩ := h
  unfold W.pow at e
  split at e
  · split at e
    · rename_i hl
      cases e
      cases tx.int
      cases ty.int
      exact op_pow pins st σ H _ _ v u Q I rx ry ⟨_, _, rfl, rfl, hl, q _ G H (.refl sub) (.int _)⟩
    · cases e
  · cases e
theorem none_ok {f : Value → Value → Sem Value} : OpR X f (rOp X.K X.mg fun _ _ => none) := by
  intro pins st σ H x y v u Q I rx ry h
  obtain ⟨G, wx, wy, s, sub, tx, ty, e, q⟩ := h
  cases e
theorem bin_ok (op : Operator) : OpR X (binaryOp op) (rOp X.K X.mg (W.bin op)) := by
  cases op <;> first | exact add_ok | exact sub_ok | exact mul_ok | exact fdiv_ok | exact mod_ok | exact pow_ok | exact none_ok

/-- a comparison as an operator -/
abbrev cmpW (op : CmpOp) : W → W → Option Sl := fun x y => (W.cmp op x y).map fun b => .d (.bl b)
theorem isEq_of {x y : W} {b : Bool} (h : W.isEq x y = some b) : x.dat = true ∧ y.dat = true ∧ min x.depth y.depth ≤ 64 ∧ b = W.eqv x y := by
  unfold W.isEq at h
  split at h
  · rename_i hc
    rw [Bool.and_eq_true, Bool.and_eq_true, decide_eq_true_eq] at hc
    cases h
    exact ⟨hc.1.1, hc.1.2, hc.2, rfl⟩
  · cases h
theorem eq_ok (hu : X.A.units + 64 < cLine) : OpR X (compareOp .Eq) (rOp X.K X.mg (cmpW .Eq)) := by
  intro pins st σ H x y v u Q I rx ry h
  obtain ⟨G, wx, wy, s, sub, tx, ty, e, q⟩ := h
  obtain ⟨b, e1, rfl⟩ := Option.map_eq_some_iff.mp e
  obtain ⟨h1, h2, h3, rfl⟩ := isEq_of (show W.isEq wx wy = some b from e1)
  obtain ⟨as, r1⟩ := Dp.reads I _ x v (tx.dp sub h1) rx
  obtain ⟨bs, r2⟩ := Dp.reads I _ y u (ty.dp sub h2) ry
  refine SeqAt.compareEq_reads r1 r2 (W.lay _ h1) (W.lay _ h2) (by rw [W.dep _ h1, W.dep _ h2]; omega) ⟨.bl _, H, I, rfl, ?_⟩
  rw [W.eqv_py _ _ h1 h2]
  exact q _ G H (.refl sub) (.bl _)
theorem ne_ok (hu : X.A.units + 64 < cLine) : OpR X (compareOp .NotEq) (rOp X.K X.mg (cmpW .NotEq)) := by
  intro pins st σ H x y v u Q I rx ry h
  obtain ⟨G, wx, wy, s, sub, tx, ty, e, q⟩ := h
  obtain ⟨b, e1, rfl⟩ := Option.map_eq_some_iff.mp e
  obtain ⟨c, e2, rfl⟩ := Option.map_eq_some_iff.mp (show (W.isEq wx wy).map (!·) = some b from e1)
  obtain ⟨h1, h2, h3, rfl⟩ := isEq_of e2
  obtain ⟨as, r1⟩ := Dp.reads I _ x v (tx.dp sub h1) rx
  obtain ⟨bs, r2⟩ := Dp.reads I _ y u (ty.dp sub h2) ry
  refine SeqAt.compareNe_reads r1 r2 (W.lay _ h1) (W.lay _ h2) (by rw [W.dep _ h1, W.dep _ h2]; omega) ⟨.bl _, H, I, rfl, ?_⟩
  rw [W.eqv_py _ _ h1 h2]
  exact q _ G H (.refl sub) (.bl _)
theorem lt_ok : OpR X (compareOp .Lt) (rOp X.K X.mg (cmpW .Lt)) := by
  intro pins st σ H x y v u Q I rx ry h
  obtain ⟨G, wx, wy, s, sub, tx, ty, e, q⟩ := h
  obtain ⟨b, e1, rfl⟩ := Option.map_eq_some_iff.mp e
  replace e1 : W.lt wx wy = some b := e1
  unfold W.lt at e1
  split at e1
  · cases e1
    cases tx.int
    cases ty.int
    exact op_lt pins st σ H _ _ v u Q I rx ry ⟨_, _, rfl, rfl, q _ G H (.refl sub) (.bl _)⟩
  · cases e1
    cases tx.str
    cases ty.str
    exact op_lt_str pins st σ H _ _ v u Q I rx ry ⟨_, _, rfl, rfl, q _ G H (.refl sub) (.bl _)⟩
  · cases e1
theorem gt_ok : OpR X (compareOp .Gt) (rOp X.K X.mg (cmpW .Gt)) := by
  intro pins st σ H x y v u Q I rx ry h
  obtain ⟨G, wx, wy, s, sub, tx, ty, e, q⟩ := h
  obtain ⟨b, e1, rfl⟩ := Option.map_eq_some_iff.mp e
  replace e1 : W.lt wy wx = some b := e1
  unfold W.lt at e1
  split at e1
  · cases e1
    cases tx.int
    cases ty.int
    exact op_gt pins st σ H _ _ v u Q I rx ry ⟨_, _, rfl, rfl, q _ G H (.refl sub) (.bl _)⟩
  · cases e1
    cases tx.str
    cases ty.str
    exact op_gt_str pins st σ H _ _ v u Q I rx ry ⟨_, _, rfl, rfl, q _ G H (.refl sub) (.bl _)⟩
  · cases e1
theorem le_ok : OpR X (compareOp .LtE) (rOp X.K X.mg (cmpW .LtE)) := by
  intro pins st σ H x y v u Q I rx ry h
  obtain ⟨G, wx, wy, s, sub, tx, ty, e, q⟩ := h
  obtain ⟨b, e1, rfl⟩ := Option.map_eq_some_iff.mp e
  replace e1 : W.le wx wy = some b := e1
  unfold W.le at e1
  split at e1
  · cases e1
    cases tx.int
    cases ty.int
    exact op_le pins st σ H _ _ v u Q I rx ry ⟨_, _, rfl, rfl, q _ G H (.refl sub) (.bl _)⟩
  · cases e1
theorem ge_ok : OpR X (compareOp .GtE) (rOp X.K X.mg (cmpW .GtE)) := by
  intro pins st σ H x y v u Q I rx ry h
  obtain ⟨G, wx, wy, s, sub, tx, ty, e, q⟩ := h
  obtain ⟨b, e1, rfl⟩ := Option.map_eq_some_iff.mp e
  replace e1 : W.le wy wx = some b := e1
  unfold W.le at e1
  split at e1
  · cases e1
    cases tx.int
    cases ty.int
    exact op_ge pins st σ H _ _ v u Q I rx ry ⟨_, _, rfl, rfl, q _ G H (.refl sub) (.bl _)⟩
  · cases e1
theorem any_py (x : W) (hx : x.dat = true) : ∀ ws : List W, W.datL ws = true → ((W.toPyL ws).any fun z => PyData.eqv z x.toPy) = ws.any fun z => W.eqv z x
  | [], _ => rfl
  | w :: ws, d => by
    have d' : (W.dat w && W.datL ws) = true := d
    rw [Bool.and_eq_true] at d'
    show (PyData.eqv w.toPy x.toPy || (W.toPyL ws).any fun z => PyData.eqv z x.toPy) = _
    rw [W.eqv_py w x d'.1 hx, any_py x hx ws d'.2]
    rfl
/-- what «in» asks -/
inductive InC : W → W → Bool → Prop
  | sign {s z : Str} {c : Nat} : s.cps.toList = [c] → InC (.str s) (.str z) (decide (c ∈ z.cps.toList))
  | lst {x : W} {ws : List W} : x.dat = true → W.datL ws = true → min x.depth (W.depthL ws) ≤ 64 → InC x (.lst ws) (ws.any fun z => W.eqv z x)
  | tup {x : W} {ws : List W} : x.dat = true → W.datL ws = true → min x.depth (W.depthL ws) ≤ 64 → InC x (.tup ws) (ws.any fun z => W.eqv z x)
  | dct {x : W} {t : Bool} {kvs : List (W × W)} : W.keyOk t x = true → InC x (.dct t kvs) (valW kvs x).isSome
theorem isIn_of {x y : W} {b : Bool} (h : W.isIn x y = some b) : InC x y b := by
  unfold W.isIn at h
  split at h
  · split at h
    · cases h
      exact .sign (by assumption)
    · cases h
  · split at h
    · rename_i hc
      rw [Bool.and_eq_true, Bool.and_eq_true, decide_eq_true_eq] at hc
      cases h
      exact .lst hc.1.1 hc.1.2 hc.2
    · cases h
  · split at h
    · rename_i hc
      rw [Bool.and_eq_true, Bool.and_eq_true, decide_eq_true_eq] at hc
      cases h
      exact .tup hc.1.1 hc.1.2 hc.2
    · cases h
  · split at h
    · rename_i hc
      cases h
      exact .dct hc
    · cases h
  · cases h
theorem sign_of {s : Str} {c : Nat} (h : s.cps.toList = [c]) : s = ⟨#[c]⟩ := by
  obtain ⟨a⟩ := s
  have : a = #[c] := by
    rw [← Array.toArray_toList (xs := a), show a.toList = [c] from h]
  rw [this]
theorem in_ok (hu : X.A.units + 65 < cLine) : OpR X (compareOp .In) (rOp X.K X.mg (cmpW .In)) := by
  intro pins st σ H x y v u Q I rx ry h
  obtain ⟨G, wx, wy, s, sub, tx, ty, e, q⟩ := h
  obtain ⟨b, e1, rfl⟩ := Option.map_eq_some_iff.mp e
  cases isIn_of (show W.isIn wx wy = some b from e1) with
  | sign hs =>
    rw [sign_of hs] at tx
    cases tx.str
    cases ty.str
    exact op_in_sign pins st σ H _ _ v u Q I rx ry ⟨_, _, rfl, rfl, q _ G H (.refl sub) (.bl _)⟩
  | lst h1 h2 h3 =>
    rename_i ws
    obtain ⟨as, r1⟩ := Dp.reads I _ x v (tx.dp sub h1) rx
    obtain ⟨bs, r2⟩ := Dp.reads I _ y u (ty.dp (w := .lst ws) sub h2) ry
    refine SeqAt.in_list_reads (xs := W.toPyL ws) r2 r1 (W.layL _ h2) (W.lay _ h1) (by rw [W.dep _ h1, W.depL _ h2]; omega) ⟨.bl _, H, I, rfl, ?_⟩
    rw [any_py _ h1 ws h2]
    exact q _ G H (.refl sub) (.bl _)
  | tup h1 h2 h3 =>
    rename_i ws
    obtain ⟨as, r1⟩ := Dp.reads I _ x v (tx.dp sub h1) rx
    obtain ⟨bs, r2⟩ := Dp.reads I _ y u (ty.dp (w := .tup ws) sub h2) ry
    refine SeqAt.in_tuple_reads (xs := W.toPyL ws) r2 r1 (W.layL _ h2) (W.lay _ h1) (by rw [W.dep _ h1, W.depL _ h2]; omega) ⟨.bl _, H, I, rfl, ?_⟩
    rw [any_py _ h1 ws h2]
    exact q _ G H (.refl sub) (.bl _)
  | dct hk =>
    obtain ⟨a, u0, vs, rfl, h1, d, r1⟩ := ty.dct sub
    obtain ⟨o, g, dv⟩ := dget_of h1 d r1 (key_at sub hk tx)
    refine op_in_dct (by omega) pins st σ H _ _ v u Q I rx ry ⟨a, o, rfl, g, ?_⟩
    rw [dval_some dv]
    exact q _ G H (.refl sub) (.bl _)
theorem notIn_ok (hu : X.A.units + 65 < cLine) : OpR X (compareOp .NotIn) (rOp X.K X.mg (cmpW .NotIn)) := by
  intro pins st σ H x y v u Q I rx ry h
  obtain ⟨G, wx, wy, s, sub, tx, ty, e, q⟩ := h
  obtain ⟨b, e1, rfl⟩ := Option.map_eq_some_iff.mp e
  obtain ⟨c, e2, rfl⟩ := Option.map_eq_some_iff.mp (show (W.isIn wx wy).map (!·) = some b from e1)
  cases isIn_of e2 with
  | sign hs =>
    rw [sign_of hs] at tx
    cases tx.str
    cases ty.str
    exact op_notIn_sign pins st σ H _ _ v u Q I rx ry ⟨_, _, rfl, rfl, q _ G H (.refl sub) (.bl _)⟩
  | lst h1 h2 h3 =>
    rename_i ws
    obtain ⟨as, r1⟩ := Dp.reads I _ x v (tx.dp sub h1) rx
    obtain ⟨bs, r2⟩ := Dp.reads I _ y u (ty.dp (w := .lst ws) sub h2) ry
    refine SeqAt.notIn_list_reads (xs := W.toPyL ws) r2 r1 (W.layL _ h2) (W.lay _ h1) (by rw [W.dep _ h1, W.depL _ h2]; omega) ⟨.bl _, H, I, rfl, ?_⟩
    rw [any_py _ h1 ws h2]
    exact q _ G H (.refl sub) (.bl _)
  | tup h1 h2 h3 =>
    rename_i ws
    obtain ⟨as, r1⟩ := Dp.reads I _ x v (tx.dp sub h1) rx
    obtain ⟨bs, r2⟩ := Dp.reads I _ y u (ty.dp (w := .tup ws) sub h2) ry
    refine SeqAt.notIn_tuple_reads (xs := W.toPyL ws) r2 r1 (W.layL _ h2) (W.lay _ h1) (by rw [W.dep _ h1, W.depL _ h2]; omega) ⟨.bl _, H, I, rfl, ?_⟩
    rw [any_py _ h1 ws h2]
    exact q _ G H (.refl sub) (.bl _)
  | dct hk =>
    obtain ⟨a, u0, vs, rfl, h1, d, r1⟩ := ty.dct sub
    obtain ⟨o, g, dv⟩ := dget_of h1 d r1 (key_at sub hk tx)
    refine op_notIn_dct (by omega) pins st σ H _ _ v u Q I rx ry ⟨a, o, rfl, g, ?_⟩
    rw [dval_some dv]
    exact q _ G H (.refl sub) (.bl _)
theorem isNon_of {G H : Hp} {K : PySem.W.Frag} {mg : Str → Option Value} {v : V} {w : W} (h : Top K mg G H v w) : decide (v = .non) = w.isNon := by
  cases w with
  | non =>
    cases h.non
    rfl
  | _ =>
    rcases h with h | ⟨a, rfl, h⟩
    · cases h <;> rfl
    · rfl
theorem is_ok : OpR X (compareOp .Is) (rOp X.K X.mg (cmpW .Is)) := by
  intro pins st σ H x y v u Q I rx ry h
  obtain ⟨G, wx, wy, s, sub, tx, ty, e, q⟩ := h
  obtain ⟨b, e1, rfl⟩ := Option.map_eq_some_iff.mp e
  cases wy <;> first | cases e1 | skip
  cases ty.non
  refine op_isN pins st σ H _ _ v u Q I rx ry ⟨rfl, ?_⟩
  rw [isNon_of tx]
  exact q _ G H (.refl sub) (.bl _)
theorem isNot_ok : OpR X (compareOp .IsNot) (rOp X.K X.mg (cmpW .IsNot)) := by
  intro pins st σ H x y v u Q I rx ry h
  obtain ⟨G, wx, wy, s, sub, tx, ty, e, q⟩ := h
  obtain ⟨b, e1, rfl⟩ := Option.map_eq_some_iff.mp e
  cases wy <;> first | cases e1 | skip
  cases ty.non
  refine op_notN pins st σ H _ _ v u Q I rx ry ⟨rfl, ?_⟩
  rw [isNon_of tx]
  exact q _ G H (.refl sub) (.bl _)
theorem cmp_ok (hu : X.A.units + 65 < cLine) (op : CmpOp) : OpR X (compareOp op) (rOp X.K X.mg (cmpW op)) := by
  have hu' : X.A.units + 64 < cLine := by omega
  cases op <;> first | exact eq_ok hu' | exact ne_ok hu' | exact lt_ok | exact gt_ok | exact le_ok | exact ge_ok | exact in_ok hu | exact notIn_ok hu | exact is_ok | exact isNot_ok

/-! ### subscripts, slices -/
theorem ixN_eq (n : Nat) (i : Int) : L2.ixN n i = ixOf n i := rfl
theorem atI_rep {K : PySem.W.Frag} {mg : Str → Option Value} {G : Hp} {vs : List V} {ws : List W} {i : Int} {w : W} (r : RepL K mg G vs ws) (h : ((ixOf ws.length i).bind fun j => ws[j]?) = some w) : ∃ v, atI vs i = some v ∧ Rep K mg G v w := by
  obtain ⟨j, e1, e2⟩ := Option.bind_eq_some_iff.mp h
  obtain ⟨v, e3, q⟩ := r.get e2
  refine ⟨v, ?_, q⟩
  unfold atI
  rw [r.length, ixN_eq, e1]
  exact e3
def rItem (K : PySem.W.Frag) (mg : Str → Option Value) : R2 := rOp K mg itemW
theorem item_ok (hu : X.A.units + 65 < cLine) : IxR X (rItem X.K X.mg) := by
  intro value slice pins st σ H x y v u Q I rx ry h hs
  obtain ⟨G, wx, wy, s, sub, tx, ty, e, q⟩ := h
  obtain ⟨w, e1, rfl⟩ := Option.map_eq_some_iff.mp (show (W.item wx wy).map Sl.d = some s from e)
  unfold W.item at e1
  split at e1
  · obtain ⟨a, vs, rfl, h1, r1, t1⟩ := tx.tup sub
    cases ty.int
    obtain ⟨z, e2, q2⟩ := atI_rep r1 e1
    exact ix_tup value slice pins st σ H _ _ v u Q I rx ry ⟨a, vs, _, z, rfl, rfl, SqT.of h1, e2, q _ G H (.refl sub) q2⟩ hs
  · obtain ⟨a, vs, rfl, h1, r1⟩ := tx.lst sub
    cases ty.int
    obtain ⟨z, e2, q2⟩ := atI_rep r1 e1
    exact ix_list value slice pins st σ H _ _ v u Q I rx ry ⟨a, vs, _, z, rfl, rfl, SqL.of h1, e2, q _ G H (.refl sub) q2⟩ hs
  · obtain ⟨a, rfl, h1⟩ := tx.scr sub
    cases ty.int
    obtain ⟨n, e2, rfl⟩ := Option.map_eq_some_iff.mp e1
    refine ix_list value slice pins st σ H _ _ v u Q I rx ry ⟨a, _, _, .int n, rfl, rfl, h1, ?_, q _ G H (.refl sub) (.int n)⟩ hs
    unfold atI
    rw [List.length_map, ixN_eq]
    obtain ⟨j, e3, e4⟩ := Option.bind_eq_some_iff.mp e2
    rw [e3]
    show (List.map V.int _)[j]? = _
    rw [List.getElem?_map, e4]
    rfl
  · split at e1
    · rename_i hl
      cases tx.str
      cases ty.int
      obtain ⟨c, e2, rfl⟩ := Option.map_eq_some_iff.mp e1
      exact ix_str value slice pins st σ H _ _ v u Q I rx ry ⟨_, _, c, rfl, rfl, hl, e2, q _ G H (.refl sub) (.str _)⟩ hs
    · cases e1
  · split at e1
    · rename_i hk
      obtain ⟨a, u0, vs, rfl, h1, d, r1⟩ := tx.dct sub
      obtain ⟨o, g, dv⟩ := dget_of h1 d r1 (key_at sub hk ty)
      rw [e1] at dv
      obtain ⟨z, rfl, q2⟩ := dv
      exact ix_dict (by omega) value slice pins st σ H _ _ v u Q I rx ry ⟨a, z, rfl, g, q _ G H (.refl sub) q2⟩ hs
    · cases e1
  · cases e1
theorem cutV_eq (vs : List V) (lo hi : Option Int) : cutV vs lo hi = cutL vs lo hi := rfl
theorem RepL.cut {K : PySem.W.Frag} {mg : Str → Option Value} {G : Hp} {vs : List V} {ws : List W} (r : RepL K mg G vs ws) (lo hi : Option Int) : RepL K mg G (cutV vs lo hi) (cutL ws lo hi) := by
  unfold cutV cutL
  rw [r.length]
  exact (r.drop _).take _
def rSlice (K : PySem.W.Frag) (mg : Str → Option Value) : V → Option Int → Option Int → Hp → VK → Prop := fun x lo hi H Q => ∃ G wx s, Sub G H ∧ Top K mg G H x wx ∧ W.slice wx lo hi = some s ∧
  ∀ v G' H', Grow G H G' H' → SlNew K mg H G' H' v s → Q v H'
theorem cutL_whole {ws : List W} {lo hi : Option Int} (h : HT.sIx ws.length 0 lo = 0 ∧ HT.sIx ws.length ws.length hi = ws.length) : cutL ws lo hi = ws := by
  unfold cutL
  rw [h.1, h.2, List.drop_zero, Nat.sub_zero, List.take_length]
theorem slice_ok : SlR X (rSlice X.K X.mg) := by
  intro pins st σ H x v vl vu lo hi sl Q I rx hs pl pu h
  obtain ⟨G, wx, s, sub, tx, e, q⟩ := h
  unfold W.slice at e
  split at e
  · cases e
    obtain ⟨a, vs, rfl, h1, r1, t1⟩ := tx.tup sub
    refine sl_tupA pins st σ H _ v vl vu _ _ sl Q I rx hs pl pu ⟨a, vs, rfl, SqT.of h1, fun z => ?_, fun z p hp => ?_⟩
    · rw [r1.length] at z
      rw [cutL_whole z] at q
      exact q _ G H (.refl sub) t1
    · have hg : G p = none := by
        cases z : G p with
        | none => rfl
        | some o => rw [sub _ _ z] at hp; cases hp
      exact q _ _ _ (.frozen sub hp) (.tup upd_same ((r1.cut _ _).mono (.upd hg)))
  · cases e
    obtain ⟨a, vs, rfl, h1, r1⟩ := tx.lst sub
    refine sl_list pins st σ H _ v vl vu _ _ sl Q I rx hs pl pu ⟨a, vs, rfl, SqL.of h1, fun p hp => ?_⟩
    refine q _ G _ (.alloc sub hp) ⟨p, rfl, hp, ?_, _, upd_same, r1.cut _ _⟩
    cases z : G p with
    | none => rfl
    | some o => rw [sub _ _ z] at hp; cases hp
  · split at e
    · rename_i hz
      cases e
      cases tx.str
      exact sl_str pins st σ H _ v vl vu _ _ sl Q I rx hs pl pu ⟨_, rfl, hz, q _ G H (.refl sub) (.str _)⟩
    · cases e
  · cases e
end Pf

-- PfCalls
/-! Pf: calls of built-ins on plain values. -/
namespace Pf
open PySem PySem.Spec PyProof.Rows L2
variable {X : Cx}
abbrev TopL (K : PySem.W.Frag) (mg : Str → Option Value) (G H : Hp) : List V → List W → Prop := Paired (Top K mg G H)
/-- a call on plain values, as a reading -/
def rCall (K : PySem.W.Frag) (mg : Str → Option Value) (f : List W → Option Sl) : List V → Hp → VK → Prop := fun xs H Q => ∃ G ws s, Sub G H ∧ TopL K mg G H xs ws ∧ f ws = some s ∧
  ∀ v G' H', Grow G H G' H' → SlNew K mg H G' H' v s → Q v H'
theorem topL1 {K : PySem.W.Frag} {mg : Str → Option Value} {G H : Hp} {xs : List V} {w : W} (h : TopL K mg G H xs [w]) : ∃ x, xs = [x] ∧ Top K mg G H x w := by
  cases h with
  | cons h r =>
    cases r
    exact ⟨_, rfl, h⟩
theorem topL2 {K : PySem.W.Frag} {mg : Str → Option Value} {G H : Hp} {xs : List V} {w z : W} (h : TopL K mg G H xs [w, z]) : ∃ x y, xs = [x, y] ∧ Top K mg G H x w ∧ Top K mg G H y z := by
  cases h with
  | cons h r =>
    cases r with
    | cons h2 r =>
      cases r
      exact ⟨_, _, rfl, h, h2⟩
theorem gnone {G H : Hp} (s : Sub G H) {p : Addr} (h : H p = none) : G p = none := by
  cases z : G p with
  | none => rfl
  | some o => rw [s _ _ z] at h; cases h
theorem kitB_all : ∀ a ∈ ["NoneType", "bool", "int", "str", "tuple", "list", "dict"], ∀ T ∈ ["int", "bool", "str", "tuple", "list"], kitB a T = some (isSub a T) := by decide +kernel
theorem tyName_mem {w : W} {a : String} (h : w.tyName = some a) : a ∈ ["NoneType", "bool", "int", "str", "tuple", "list", "dict"] := by
  cases w <;> cases h <;> decide
theorem tyX_of {K : PySem.W.Frag} {mg : Str → Option Value} {G H : Hp} (s : Sub G H) {v : V} {w : W} {a : String} (h : Top K mg G H v w) (e : w.tyName = some a) : TyX K H v (.type a) := by
  cases w with
  | non => cases e; cases h.non; exact .base .non
  | bl b => cases e; cases h.bl; exact .base (.bl _)
  | int b => cases e; cases h.int; exact .base (.int _)
  | str b => cases e; cases h.str; exact .base (.str _)
  | tup ws =>
    cases e
    obtain ⟨a, vs, rfl, h1, _⟩ := h.tup s
    exact .base (.tup h1)
  | lst ws =>
    cases e
    obtain ⟨a, vs, rfl, h1, _⟩ := h.lst s
    exact .base (.lst h1)
  | dct _ _ => cases e
  | set _ => cases e
  | scr _ => cases e
  | fn _ => cases e
  | ty _ => cases e
  | exn _ => cases e
theorem isi_ok : CallR X (.builtin "isinstance") (rCall X.K X.mg fun ws => match ws with
    | [x, t] => (W.isInst x t).map fun b => .d (.bl b)
    | _ => none) := by
  intro pins st σ H xs us Q I r h
  obtain ⟨G, ws, s, sub, tx, e, q⟩ := h
  dsimp only at e
  split at e
  · obtain ⟨b, e1, rfl⟩ := Option.map_eq_some_iff.mp e
    obtain ⟨x, t, rfl, t1, t2⟩ := topL2 tx
    unfold W.isInst at e1
    split at e1
    · split at e1
      · rename_i hT
        obtain ⟨a, e2, rfl⟩ := Option.map_eq_some_iff.mp e1
        cases t2.ty
        exact call_isi pins st σ H _ us Q I r ⟨x, _, _, _, _, rfl, .ty _, tyX_of sub t1 e2, kit_ty (kitB_all a (tyName_mem e2) _ hT), q _ G H (.refl sub) (.bl _)⟩
      · cases e1
    · split at e1
      · rename_i hT
        obtain ⟨a, e2, rfl⟩ := Option.map_eq_some_iff.mp e1
        obtain ⟨p, vs, rfl, h1, r1, _⟩ := t2.tup sub
        cases r1 with
        | cons g1 r1 =>
          cases r1 with
          | cons g2 r1 =>
            cases r1
            cases g1
            cases g2
            refine call_isiT pins st σ H _ us Q I r ⟨x, p, _, _, _, _, rfl, h1, .cons (.ty _) (.cons (.ty _) .nil), tyX_of sub t1 e2, ?_, q _ G H (.refl sub) (.bl _)⟩
            refine kitAny_cons (kit_ty (kitB_all a (tyName_mem e2) _ hT.1)) (fun z => ?_) (fun z => by rw [z]; rfl)
            rw [z, Bool.false_or]
            refine kitAny_cons (kit_ty (kitB_all a (tyName_mem e2) _ hT.2)) (fun z => ?_) (fun z => z)
            rw [z]
            exact kitAny_nil
      · cases e1
    · cases e1
  · cases e
theorem len_ok : CallR X (.builtin "len") (rCall X.K X.mg fun ws => match ws with
    | [x] => x.len.map fun (n : Nat) => .d (.int n)
    | _ => none) := by
  intro pins st σ H xs us Q I r h
  obtain ⟨G, ws, s, sub, tx, e, q⟩ := h
  dsimp only at e
  split at e
  · obtain ⟨n, e1, rfl⟩ := Option.map_eq_some_iff.mp e
    obtain ⟨x, rfl, t1⟩ := topL1 tx
    unfold W.len at e1
    split at e1
    · cases e1
      obtain ⟨a, vs, rfl, h1, r1, _⟩ := t1.tup sub
      refine call_len_seq pins st σ H _ us Q I r ⟨a, vs, rfl, .inr (SqT.of h1), ?_⟩
      rw [r1.length]
      exact q _ G H (.refl sub) (.int _)
    · cases e1
      obtain ⟨a, vs, rfl, h1, r1⟩ := t1.lst sub
      refine call_len_seq pins st σ H _ us Q I r ⟨a, vs, rfl, .inl (SqL.of h1), ?_⟩
      rw [r1.length]
      exact q _ G H (.refl sub) (.int _)
    · cases e1
      obtain ⟨a, rfl, h1⟩ := t1.scr sub
      refine call_len_seq pins st σ H _ us Q I r ⟨a, _, rfl, .inl h1, ?_⟩
      rw [List.length_map]
      exact q _ G H (.refl sub) (.int _)
    · split at e1
      · rename_i hl
        cases e1
        cases t1.str
        exact call_len_str pins st σ H _ us Q I r ⟨_, rfl, hl, q _ G H (.refl sub) (.int _)⟩
      · cases e1
    · cases e1
      obtain ⟨a, u0, vs, rfl, h1, d, r1⟩ := t1.dct sub
      refine call_len_dct pins st σ H _ us Q I r ⟨a, u0, _, _, vs, rfl, h1, d, ?_⟩
      rw [List.length_map]
      exact q _ G H (.refl sub) (.int _)
    · cases e1
  · cases e
theorem all_ok (hc : X.calm = true) : CallR X (.builtin "all") (rCall X.K X.mg fun ws => match ws with
    | [.lst xs] => (bools xs).map fun bs => .d (.bl (bs.all id))
    | _ => none) := by
  intro pins st σ H xs us Q I r h
  obtain ⟨G, ws, s, sub, tx, e, q⟩ := h
  dsimp only at e
  split at e
  · obtain ⟨bs, e1, rfl⟩ := Option.map_eq_some_iff.mp e
    obtain ⟨x, rfl, t1⟩ := topL1 tx
    obtain ⟨a, vs, rfl, h1, r1⟩ := t1.lst sub
    rw [r1.bools e1] at h1
    exact cr_all hc pins st σ H _ us Q I r ⟨a, bs, rfl, SqL.of h1, q _ G H (.refl sub) (.bl _)⟩
  · cases e
theorem any_ok (hc : X.calm = true) : CallR X (.builtin "any") (rCall X.K X.mg fun ws => match ws with
    | [.lst xs] => (bools xs).map fun bs => .d (.bl (bs.any id))
    | _ => none) := by
  intro pins st σ H xs us Q I r h
  obtain ⟨G, ws, s, sub, tx, e, q⟩ := h
  dsimp only at e
  split at e
  · obtain ⟨bs, e1, rfl⟩ := Option.map_eq_some_iff.mp e
    obtain ⟨x, rfl, t1⟩ := topL1 tx
    obtain ⟨a, vs, rfl, h1, r1⟩ := t1.lst sub
    rw [r1.bools e1] at h1
    exact cr_any hc pins st σ H _ us Q I r ⟨a, bs, rfl, SqL.of h1, q _ G H (.refl sub) (.bl _)⟩
  · cases e
theorem ints_rep {K : PySem.W.Frag} {mg : Str → Option Value} {G : Hp} : ∀ {vs : List V} {ws : List W} {ns : List Int}, RepL K mg G vs ws → intsOf ws = some ns → vs = ns.map V.int
  | _, _, ns, .nil, e => by
    cases e
    rfl
  | _, w :: ws, ns, .cons h r, e => by
    cases w <;> simp [intsOf] at e
    obtain ⟨zs, e1, e2⟩ := e
    cases h
    rw [← e2, List.map_cons, ints_rep r e1]
theorem int_ok : CallR X (.type "int") (rCall X.K X.mg fun ws => match ws with
    | [.int i] => some (.d (.int i))
    | [.bl b] => some (.d (.int (if b then 1 else 0)))
    | [.str a] => if a.length ≤ 640 then (PySem.intText? a).map fun n => .d (.int n) else none
    | _ => none) := by
  intro pins st σ H xs us Q I r h
  obtain ⟨G, ws, s, sub, tx, e, q⟩ := h
  dsimp only at e
  split at e
  · cases e
    obtain ⟨x, rfl, t1⟩ := topL1 tx
    cases t1.int
    exact call_int1 pins st σ H _ us Q I r (.inl ⟨_, rfl, q _ G H (.refl sub) (.int _)⟩)
  · cases e
    obtain ⟨x, rfl, t1⟩ := topL1 tx
    cases t1.bl
    exact call_int1 pins st σ H _ us Q I r (.inr ⟨_, rfl, q _ G H (.refl sub) (.int _)⟩)
  · split at e
    · rename_i hl
      obtain ⟨n, e1, rfl⟩ := Option.map_eq_some_iff.mp e
      obtain ⟨x, rfl, t1⟩ := topL1 tx
      cases t1.str
      exact call_int_str pins st σ H _ us Q I r ⟨_, n, rfl, e1, hl, q _ G H (.refl sub) (.int _)⟩
    · cases e
  · cases e
theorem max_ok (hc : X.calm = true) : CallR X (.builtin "max") (rCall X.K X.mg fun ws => match ws with
    | [.int i, .int j] => some (.d (.int (if j > i then j else i)))
    | [.lst xs] => (intsOf xs).bind fun ns => (maxOf ns).map fun m => .d (.int m)
    | _ => none) := by
  intro pins st σ H xs us Q I r h
  obtain ⟨G, ws, s, sub, tx, e, q⟩ := h
  dsimp only at e
  split at e
  · cases e
    obtain ⟨x, y, rfl, t1, t2⟩ := topL2 tx
    cases t1.int
    cases t2.int
    exact call_max2 hc pins st σ H _ us Q I r ⟨_, _, rfl, q _ G H (.refl sub) (.int _)⟩
  · obtain ⟨ns, e1, e2⟩ := Option.bind_eq_some_iff.mp e
    obtain ⟨m0, e3, rfl⟩ := Option.map_eq_some_iff.mp e2
    obtain ⟨x, rfl, t1⟩ := topL1 tx
    obtain ⟨a, vs, rfl, h1, r1⟩ := t1.lst sub
    have ev := ints_rep r1 e1
    subst ev
    have k1 : m0 ∈ ns := List.mem_of_find?_eq_some e3
    have k2 := List.find?_some e3
    have k3 : ∀ y, y ∈ ns → y ≤ m0 := fun y hy => of_decide_eq_true (List.all_eq_true.mp k2 y hy)
    refine cr_max hc pins st σ H _ us Q I r ⟨a, ns, rfl, SqL.of h1, List.length_pos_of_mem k1, fun m hm h => ?_⟩
    have : m = m0 := Int.le_antisymm (k3 m hm) (h m0 k1)
    subst this
    exact q _ G H (.refl sub) (.int _)
  · cases e
theorem min_ok (hc : X.calm = true) : CallR X (.builtin "min") (rCall X.K X.mg fun ws => match ws with
    | [.int i, .int j] => some (.d (.int (if j < i then j else i)))
    | [.lst xs] => (intsOf xs).bind fun ns => (minOf ns).map fun m => .d (.int m)
    | _ => none) := by
  intro pins st σ H xs us Q I r h
  obtain ⟨G, ws, s, sub, tx, e, q⟩ := h
  dsimp only at e
  split at e
  · cases e
    obtain ⟨x, y, rfl, t1, t2⟩ := topL2 tx
    cases t1.int
    cases t2.int
    exact call_min2 hc pins st σ H _ us Q I r ⟨_, _, rfl, q _ G H (.refl sub) (.int _)⟩
  · obtain ⟨ns, e1, e2⟩ := Option.bind_eq_some_iff.mp e
    obtain ⟨m0, e3, rfl⟩ := Option.map_eq_some_iff.mp e2
    obtain ⟨x, rfl, t1⟩ := topL1 tx
    obtain ⟨a, vs, rfl, h1, r1⟩ := t1.lst sub
    have ev := ints_rep r1 e1
    subst ev
    have k1 : m0 ∈ ns := List.mem_of_find?_eq_some e3
    have k2 := List.find?_some e3
    have k3 : ∀ y, y ∈ ns → m0 ≤ y := fun y hy => of_decide_eq_true (List.all_eq_true.mp k2 y hy)
    refine cr_min hc pins st σ H _ us Q I r ⟨a, ns, rfl, SqL.of h1, List.length_pos_of_mem k1, fun m hm h => ?_⟩
    have : m = m0 := Int.le_antisymm (h m0 k1) (k3 m hm)
    subst this
    exact q _ G H (.refl sub) (.int _)
  · cases e
theorem pairedR {A B : Type} {R : A → B → Prop} : ∀ {xs : List A} {ys : List B}, Paired R xs ys → ∀ {b}, b ∈ ys → ∃ a, a ∈ xs ∧ R a b
  | _, _, .nil, b, h => nomatch h
  | _, _, .cons r t, b, h => by
    rcases List.mem_cons.mp h with rfl | h
    · exact ⟨_, List.mem_cons_self, r⟩
    · obtain ⟨a, h1, h2⟩ := pairedR t h
      exact ⟨a, List.mem_cons_of_mem _ h1, h2⟩
open Classical in
/-- the keys of a dict, frozen -/
noncomputable def withKeys (G H : Hp) (bs : List Addr) : Hp := fun a => if a ∈ bs then H a else G a
theorem withKeys_le {G H : Hp} (s : Sub G H) (bs : List Addr) : Sub G (withKeys G H bs) := fun a o e => by
  unfold withKeys
  split
  · exact s _ _ e
  · exact e
theorem withKeys_grow {G H : Hp} (s : Sub G H) {kvs : List (List Key × V)} {bs : List Addr} (k : IsKeys H kvs bs) {p : Addr} {o : HO} (hp : H p = none) : Grow G H (withKeys G H bs) (upd H p o) := by
  refine ⟨.upd hp, withKeys_le s bs, fun a u e => ?_, fun a u e => ?_⟩
  · refine Sub.upd hp a u ?_
    unfold withKeys at e
    split at e
    · exact e
    · exact s _ _ e
  · unfold withKeys at e
    split at e
    · rename_i hm
      obtain ⟨q, _, h2⟩ := pairedR k hm
      rw [h2] at e
      cases e
      exact .inr (.inr ⟨_, rfl⟩)
    · exact .inl e
theorem withKeys_rep {K : PySem.W.Frag} {mg : Str → Option Value} {G H : Hp} {kvs : List (List Key × V)} {bs : List Addr} (k : IsKeys H kvs bs) : RepL K mg (withKeys G H bs) (bs.map V.ref) (kvs.map fun p => ktW p.1) := by
  have go : ∀ {kvs : List (List Key × V)} {cs : List Addr}, Paired (fun (p : List Key × V) b => H b = some (.tup (p.1.map kV))) kvs cs → (∀ b ∈ cs, b ∈ bs) → RepL K mg (withKeys G H bs) (cs.map V.ref) (kvs.map fun p => ktW p.1) := by
    intro kvs cs k
    induction k with
    | nil => exact fun _ => .nil
    | cons h t ih =>
      intro hm
      refine .cons (.tup ?_ (kWs_rep _)) (ih fun b hb => hm b (List.mem_cons_of_mem _ hb))
      unfold withKeys
      rw [if_pos (hm _ List.mem_cons_self)]
      exact h
  exact go k fun _ h => h
theorem list_ok (hc : X.calm = true) : CallR X (.type "list") (rCall X.K X.mg fun ws => match ws with
    | [.lst xs] => some (.o (.lst xs))
    | [.tup xs] => some (.o (.lst xs))
    | [.dct _ kvs] => some (.o (.lst (kvs.map (·.1))))
    | _ => none) := by
  intro pins st σ H xs us Q I r h
  obtain ⟨G, ws, s, sub, tx, e, q⟩ := h
  dsimp only at e
  split at e
  · cases e
    obtain ⟨x, rfl, t1⟩ := topL1 tx
    obtain ⟨a, vs, rfl, h1, r1⟩ := t1.lst sub
    exact call_list_of pins st σ H _ us Q I r ⟨a, vs, rfl, .inl (SqL.of h1), fun p hp => q _ G _ (.alloc sub hp) ⟨p, rfl, hp, gnone sub hp, _, upd_same, r1⟩⟩
  · cases e
    obtain ⟨x, rfl, t1⟩ := topL1 tx
    obtain ⟨a, vs, rfl, h1, r1, _⟩ := t1.tup sub
    exact call_list_of pins st σ H _ us Q I r ⟨a, vs, rfl, .inr (SqT.of h1), fun p hp => q _ G _ (.alloc sub hp) ⟨p, rfl, hp, gnone sub hp, _, upd_same, r1⟩⟩
  · cases e
    obtain ⟨x, rfl, t1⟩ := topL1 tx
    obtain ⟨a, u0, vs, rfl, h1, d, r1⟩ := t1.dct sub
    rename_i kvs
    generalize e0 : kvs.map (·.1) = ks at d q
    cases d with
    | k kvs0 =>
      refine call_list_dKR hc pins st σ H _ us Q I r ⟨a, kvs0, rfl, h1, fun p hp => q _ G _ (.alloc sub hp) ⟨p, rfl, hp, gnone sub hp, _, upd_same, ?_⟩⟩
      have := kWs_rep (K := X.K) (mg := X.mg) (G := G) (kvs0.map (·.1))
      rw [List.map_map, List.map_map] at this
      exact this
    | t kvs0 =>
      refine call_list_dT hc pins st σ H _ us Q I r ⟨a, kvs0, rfl, h1, fun p bs hp hk => q _ _ _ (withKeys_grow sub hk hp) ⟨p, rfl, hp, ?_, _, upd_same, withKeys_rep hk⟩⟩
      unfold withKeys
      split
      · exact hp
      · exact gnone sub hp
  · cases e
theorem tuple_ok : CallR X (.type "tuple") (rCall X.K X.mg fun ws => match ws with
    | [.lst xs] => some (.d (.tup xs))
    | [.tup xs] => some (.d (.tup xs))
    | _ => none) := by
  intro pins st σ H xs us Q I r h
  obtain ⟨G, ws, s, sub, tx, e, q⟩ := h
  dsimp only at e
  split at e
  · cases e
    obtain ⟨x, rfl, t1⟩ := topL1 tx
    obtain ⟨a, vs, rfl, h1, r1⟩ := t1.lst sub
    exact call_tuple_of pins st σ H _ us Q I r ⟨a, vs, rfl, .inl ⟨SqL.of h1, fun p hp => q _ _ _ (.frozen sub hp) (.tup upd_same (r1.mono (.upd (gnone sub hp))))⟩⟩
  · cases e
    obtain ⟨x, rfl, t1⟩ := topL1 tx
    obtain ⟨a, vs, rfl, h1, r1, t⟩ := t1.tup sub
    exact call_tuple_of pins st σ H _ us Q I r ⟨a, vs, rfl, .inr ⟨SqT.of h1, q _ G H (.refl sub) t⟩⟩
  · cases e
theorem callImp {f : Value} {r r' : List V → Hp → VK → Prop} (h : CallR X f r) (i : ∀ xs H Q, r' xs H Q → r xs H Q) : CallR X f r' := fun pins s σ H xs us Q I rx q => h pins s σ H xs us Q I rx (i _ _ _ q)
theorem rCall_imp {K : PySem.W.Frag} {mg : Str → Option Value} {f g : List W → Option Sl} (h : ∀ ws, f ws = g ws) : ∀ xs H Q, rCall K mg f xs H Q → rCall K mg g xs H Q := fun xs H Q ⟨G, ws, s, a, b, c, d⟩ => ⟨G, ws, s, a, b, (h ws).symm.trans c, d⟩
end Pf

-- PfSort
/-! Pf: sorted(xs), data of one kind. -/
namespace Pf
open PySem PySem.Spec PyProof.Rows L2
variable {X : Cx}
theorem eachRep {K : PySem.W.Frag} {mg : Str → Option Value} {G : Hp} : ∀ {vs : List V} {us : List Value} {ws : List W}, Vals vs us → RepL K mg G vs ws → PySem.W.EachIs (fun u b => ∃ v, RelV v u ∧ Rep K mg G v b) us ws
  | _, _, _, .nil, .nil => .nil
  | _, _, _, .cons h t, .cons q r => .cons ⟨_, h, q⟩ (eachRep t r)
theorem eachBack {K : PySem.W.Frag} {mg : Str → Option Value} {G : Hp} : ∀ {us : List Value} {ws : List W}, PySem.W.EachIs (fun u b => ∃ v, RelV v u ∧ Rep K mg G v b) us ws → ∃ vs, Vals vs us ∧ RepL K mg G vs ws
  | _, _, .nil => ⟨[], .nil, .nil⟩
  | _, _, .cons ⟨v, h, q⟩ t => by
    obtain ⟨vs, h1, h2⟩ := eachBack t
    exact ⟨v :: vs, .cons h h1, .cons q h2⟩
theorem srtOk_of {ws : List W} (h : W.srtOk ws = true) : (∀ x ∈ ws, x.dat = true ∧ x.depth ≤ 60) ∧ PySem.W.AllAlike (ws.map W.toPy) ∧ PySem.W.Sortable (ws.map W.toPy) := by
  unfold W.srtOk at h
  simp only [Bool.and_eq_true, List.all_eq_true, decide_eq_true_eq] at h
  obtain ⟨h1, h2, h3⟩ := h
  refine ⟨h1, fun d hd d' hd' => ?_, ?_⟩
  · obtain ⟨b, hb, rfl⟩ := List.mem_map.mp hd
    obtain ⟨b', hb', rfl⟩ := List.mem_map.mp hd'
    exact h2 b hb b' hb'
  · rw [Bool.or_eq_true, List.all_eq_true, List.all_eq_true] at h3
    rcases h3 with h3 | h3
    · refine .inl fun d hd => ?_
      obtain ⟨b, hb, rfl⟩ := List.mem_map.mp hd
      have := h3 b hb
      cases b <;> first | (cases this; done) | skip
      rename_i l
      cases l with
      | nil => cases this
      | cons x r => exact ⟨_, _, rfl⟩
    · refine .inr fun d hd => ?_
      obtain ⟨b, hb, rfl⟩ := List.mem_map.mp hd
      have := h3 b hb
      have hdt := (h1 b hb).1
      cases b <;> first | (cases this; done) | (cases hdt; done) | exact ⟨(fun z => nomatch z), (fun _ z => nomatch z)⟩
theorem sorted_ok (hu : X.A.units + 65 < cLine) : CallR X (.builtin "sorted") (rCall X.K X.mg W.srtd) := by
  intro pins st σ H xs us Q I r h
  obtain ⟨G, ws, s, sub, tx, e, q⟩ := h
  unfold W.srtd at e
  split at e
  · rename_i ws
    split at e
    · rename_i ho
      cases e
      obtain ⟨x, rfl, t1⟩ := topL1 tx
      obtain ⟨a, vs, rfl, h1, r1⟩ := t1.lst sub
      obtain ⟨its, rv, hl, hz⟩ := I.list (SqL.of h1)
      obtain ⟨o1, o2, o3⟩ := srtOk_of ho
      rw [Vals.ref1 r]
      refine PySem.W.sorted_data (bs := ws) (enc := W.toPy) (R := fun u b => ∃ v, RelV v u ∧ Rep X.K X.mg G v b) hl.isList (eachRep rv r1) ?_ o2 o3 (by rw [← r1.length]; exact hz) (fun b hb => ?_) fun out hlen hR => ?_
      · have go : ∀ {vs : List V} {us : List Value} {ws : List W}, Vals vs us → RepL X.K X.mg G vs ws → (∀ x ∈ ws, x.dat = true) → PySem.W.EachIs (fun u b => ∃ as, Reads st.heap u (W.toPy b) as) us ws := by
          intro vs us ws hv
          induction hv generalizing ws with
          | nil => intro hr _; cases hr; exact .nil
          | cons h t ih =>
            intro hr hd
            cases hr with
            | cons q r => exact .cons (Dp.reads I _ _ _ ((q.mono sub).dp (hd _ List.mem_cons_self)) h) (ih r fun x hx => hd x (List.mem_cons_of_mem _ hx))
        exact go rv r1 fun x hx => (o1 x hx).1
      · rw [W.dep b (o1 b hb).1]
        have := (o1 b hb).2
        omega
      · obtain ⟨vs', v1, v2⟩ := eachBack hR
        obtain ⟨ep, he'⟩ := PyProof.Rows.sortedAll_at st.heap its out.toArray
        have hl2 : vs'.length ≤ sizeLine := by
          rw [v1.length, hlen, ← r1.length]
          exact hz
        exact ⟨.ref _, upd H (st.heap.objs.size + 1) (.lst vs'), I.laid (t' := st.toks) (fun _ _ => PyProof.Rows.sortedAll_old) (Nat.le_succ _) ⟨hl2, out, ep, v1, he'⟩, rfl,
          q _ G _ (.alloc sub (I.hok.fresh (Nat.le_succ _))) ⟨_, rfl, I.hok.fresh (Nat.le_succ _), gnone sub (I.hok.fresh (Nat.le_succ _)), _, upd_same, v2⟩⟩
    · cases e
  · cases e
theorem sum_ok (hc : X.calm = true) : CallR X (.builtin "sum") (rCall X.K X.mg W.sumd) := by
  intro pins st σ H xs us Q I r h
  obtain ⟨G, ws, s, sub, tx, e, q⟩ := h
  unfold W.sumd at e
  split at e
  · obtain ⟨ns, e1, rfl⟩ := Option.map_eq_some_iff.mp e
    obtain ⟨x, rfl, t1⟩ := topL1 tx
    obtain ⟨a, vs, rfl, h1, r1⟩ := t1.lst sub
    have ev := ints_rep r1 e1
    subst ev
    exact cr_sum hc pins st σ H _ us Q I r ⟨a, ns, rfl, SqL.of h1, q _ G H (.refl sub) (.int _)⟩
  · cases e
theorem str_ok : CallR X (.type "str") (rCall X.K X.mg W.strd) := by
  intro pins st σ H xs us Q I r h
  obtain ⟨G, ws, s, sub, tx, e, q⟩ := h
  unfold W.strd at e
  split at e
  · split at e
    · rename_i hl
      cases e
      obtain ⟨x, rfl, t1⟩ := topL1 tx
      cases t1.int
      exact call_str_int pins st σ H _ us Q I r ⟨_, rfl, hl, q _ G H (.refl sub) (.str _)⟩
    · cases e
  · cases e
    obtain ⟨x, rfl, t1⟩ := topL1 tx
    cases t1.str
    exact SkE.call_str_str pins st σ H _ us Q I r ⟨_, rfl, q _ G H (.refl sub) (.str _)⟩
  · cases e
variable {p pos : Pos} {e : Expr} {es : List Expr} {t : TA}
/-- a built-in's call -/
theorem pe_blt {f : Str} (hf : isBlt f = true) (hu : X.A.units + 65 < cLine) (hc : X.calm = true) (hg : Gl X f) (hm : X.mg f = none) (ha : PA X (e :: es) t)
    (he : starEach (e :: es) X.env = (false, eval e X.env) :: starEach es X.env) (hpl : (backTo pos (starEach es X.env)).any (·.1) = false) :
    PE X (.Call (.Name f p) (e :: es) [] pos) (tCB (rCall X.K X.mg (W.call f)) t) := by
  have hf' : f ∈ bltL := of_decide_eq_true hf
  simp only [bltL, List.mem_cons, List.not_mem_nil, or_false] at hf'
  rcases hf' with rfl | rfl | rfl | rfl | rfl | rfl | rfl | rfl | rfl | rfl | rfl | rfl
  · exact pe_callB (id := "isinstance") (callImp isi_ok (rCall_imp fun _ => rfl)) hg hm (by decide +kernel) ha (by decide) (by decide) he hpl
  · exact pe_callB (id := "len") (callImp len_ok (rCall_imp fun _ => rfl)) hg hm (by decide +kernel) ha (by decide) (by decide) he hpl
  · exact pe_callB (id := "all") (callImp (all_ok hc) (rCall_imp fun _ => rfl)) hg hm (by decide +kernel) ha (by decide) (by decide) he hpl
  · exact pe_callB (id := "any") (callImp (any_ok hc) (rCall_imp fun _ => rfl)) hg hm (by decide +kernel) ha (by decide) (by decide) he hpl
  · exact pe_callTy (T := "int") (callImp int_ok (rCall_imp fun _ => rfl)) hg hm (by decide +kernel) ha (by decide) (by decide) he hpl
  · exact pe_callB (id := "max") (callImp (max_ok hc) (rCall_imp fun _ => rfl)) hg hm (by decide +kernel) ha (by decide) (by decide) he hpl
  · exact pe_callB (id := "min") (callImp (min_ok hc) (rCall_imp fun _ => rfl)) hg hm (by decide +kernel) ha (by decide) (by decide) he hpl
  · exact pe_callTy (T := "list") (callImp (list_ok hc) (rCall_imp fun _ => rfl)) hg hm (by decide +kernel) ha (by decide) (by decide) he hpl
  · exact pe_callTy (T := "tuple") (callImp tuple_ok (rCall_imp fun _ => rfl)) hg hm (by decide +kernel) ha (by decide) (by decide) he hpl
  · exact pe_callB (id := "sorted") (callImp (sorted_ok hu) (rCall_imp fun _ => rfl)) hg hm (by decide +kernel) ha (by decide) (by decide) he hpl
  · exact pe_callB (id := "sum") (callImp (sum_ok hc) (rCall_imp fun _ => rfl)) hg hm (by decide +kernel) ha (by decide) (by decide) he hpl
  · exact pe_callTy (T := "str") (callImp str_ok (rCall_imp fun _ => rfl)) hg hm (by decide +kernel) ha (by decide) (by decide) he hpl
end Pf

-- PfSound
/-! Pf: the terms of PfCore are what the model does. -/
namespace Pf
open PySem PySem.Spec PyProof.Rows L2

/-- the wish about exceptions, by the classes' names -/
abbrev exW (mg : Str → Option Value) (W : WX) (C : Str) (σ : L2.St) (H : Hp) : Prop := ∀ c, mg C = some (.ref c) → W (.ref c) none σ H
section
variable (X : Cx) (F : Fr0) (U : WX) {α β : Type} (P : Hp → Hp → L2.St → Env → β → α → Prop)
def post (G : Hp) (σ : L2.St) (o : Out α) (Q : β → Hp → Prop) : Prop := match o with
  | .ok a ρ' => ∀ v G' H', Sub G G' → Rel X.K X.mg F G' H' σ ρ' → P G' H' σ ρ' v a → Q v H'
  | .exc C ρ' => ∀ G' H', Sub G G' → Rel X.K X.mg F G' H' σ ρ' → exW X.mg U C σ H'
  | .bad => False
/-- m as a reading -/
def tG (m : M α) : L2.St → Hp → (β → Hp → Prop) → Prop := fun σ H Q => ∃ G ρ, Rel X.K X.mg F G H σ ρ ∧ post X F U P G σ (m ρ) Q
abbrev pSl : Hp → Hp → L2.St → Env → V → Sl → Prop := fun G H σ ρ v s => SlRep X.K X.mg F G H σ ρ v s
abbrev pW : Hp → Hp → L2.St → Env → V → W → Prop := fun G _ _ _ v w => Rep X.K X.mg G v w
def PlRep (G : Hp) (σ : L2.St) (v : V) : Pl → Prop
  | .sl i => σ[i]? = some (some v)
  | .tm w => Rep X.K X.mg G v w
abbrev pPl : Hp → Hp → L2.St → Env → V → Pl → Prop := fun G _ σ _ v p => PlRep X G σ v p
abbrev pB : Hp → Hp → L2.St → Env → Bool → Bool → Prop := fun _ _ _ _ c b => c = b
abbrev pWs : Hp → Hp → L2.St → Env → List V → List W → Prop := fun G _ _ _ vs ws => RepL X.K X.mg G vs ws
abbrev pPls : Hp → Hp → L2.St → Env → List V → List Pl → Prop := fun G _ σ _ vs ps => Paired (PlRep X G σ) vs ps
abbrev tE (m : M Sl) : TE := tG X F U (pSl X F) m
abbrev tD (m : M Pf.W) : TE := tG X F U (pW X) m
abbrev tP (m : M Pl) : TE := tG X F U (pPl X) m
abbrev tB (m : M Bool) : TT := tG X F U pB m
abbrev tDs (m : M (List Pf.W)) : TA := tG X F U (pWs X) m
abbrev tPs (m : M (List Pl)) : TA := tG X F U (pPls X) m
end
variable {X : Cx} {F : Fr0} {U : WX} {α β γ δ : Type} {P : Hp → Hp → L2.St → Env → β → α → Prop} {P' : Hp → Hp → L2.St → Env → δ → γ → Prop} {G G1 H H1 : Hp} {σ : L2.St} {ρ ρ1 : Env}
theorem post.le {o : Out α} {Q : β → Hp → Prop} (s : Sub G G1) (h : post X F U P G σ o Q) : post X F U P G1 σ o Q := by
  cases o with
  | ok a ρ' => exact fun v G' H' s' r p => h v G' H' (s.trans s') r p
  | exc C ρ' => exact fun G' H' s' r => h G' H' (s.trans s') r
  | bad => exact h
theorem post.bind {m : M α} {f : α → M γ} {Q : δ → Hp → Prop} (h : post X F U P' G σ (M.bind m f ρ) Q) :
    post X F U P G σ (m ρ) (fun v H1 => ∃ G1 ρ1 a, Sub G G1 ∧ Rel X.K X.mg F G1 H1 σ ρ1 ∧ P G1 H1 σ ρ1 v a ∧ post X F U P' G1 σ (f a ρ1) Q) := by
  unfold M.bind at h
  cases e : m ρ with
  | ok a ρ' =>
    rw [e] at h
    exact fun v G' H' s r p => ⟨G', ρ', a, s, r, p, h.le s⟩
  | exc C ρ' =>
    rw [e] at h
    exact h
  | bad =>
    rw [e] at h
    exact h
theorem tG.run {m : M α} {Q : β → Hp → Prop} (r : Rel X.K X.mg F G H σ ρ) (h : post X F U P G σ (m ρ) Q) : tG X F U P m σ H Q := ⟨G, ρ, r, h⟩
theorem _root_.L2.PE.imp {e : Expr} {t t' : TE} (h : PE X e t) (i : ∀ σ H Q, t' σ H Q → t σ H Q) : PE X e t' := ⟨fun pins s σ H Q I q => h.run pins s σ H Q I (i _ _ _ q)⟩
theorem _root_.L2.PT.imp {e : Expr} {t t' : TT} (h : PT X e t) (i : ∀ σ H Q, t' σ H Q → t σ H Q) : PT X e t' := ⟨fun pins s σ H Q I q => h.run pins s σ H Q I (i _ _ _ q)⟩
theorem _root_.L2.PW.imp {e : Expr} {t t' : TT} (h : PW X e t) (i : ∀ σ H Q, t' σ H Q → t σ H Q) : PW X e t' := ⟨fun wh pins s σ H Q I q => h.run wh pins s σ H Q I (i _ _ _ q)⟩
theorem _root_.L2.PA.imp {es : List Expr} {t t' : TA} (h : PA X es t) (i : ∀ σ H Q, t' σ H Q → t σ H Q) : PA X es t' := ⟨fun pos pins s σ H Q I q => h.run pos pins s σ H Q I (i _ _ _ q)⟩
theorem pe_bad {e : Expr} : PE X e (tE X F U M.bad) := ⟨fun _ _ _ _ _ _ ⟨_, _, _, h⟩ => h.elim⟩
theorem pt_bad {e : Expr} : PT X e (tB X F U M.bad) := ⟨fun _ _ _ _ _ _ ⟨_, _, _, h⟩ => h.elim⟩
/-- the end of a term that is a value's operation -/
theorem post.ofNew {o : Option Sl} {Q : VK} (r : Rel X.K X.mg F G H σ ρ) (h : post X F U (pSl X F) G σ (M.of o ρ) Q) : ∃ s, o = some s ∧ ∀ v G' H', Grow G H G' H' → SlNew X.K X.mg H G' H' v s → Q v H' := by
  cases o with
  | none => exact h.elim
  | some s => exact ⟨s, rfl, fun v G' H' g q => h v G' H' g.le (r.grow g) (r.slNew g q)⟩
theorem post.ret {a : α} {v : β} {Q : β → Hp → Prop} (r : Rel X.K X.mg F G H σ ρ) (h : post X F U P G σ (M.ret a ρ) Q) (p : P G H σ ρ v a) : Q v H := h v G H (.refl _) r p
/-- constants -/
theorem pe_cst {e : Expr} {v : V} {w : Pf.W} (h : PE X e (tC v)) (q : ∀ G, Rep X.K X.mg G v w) : PE X e (tE X F U (cst w)) := h.imp fun σ H Q ⟨G, ρ, r, p⟩ => post.ret (P := pSl X F) (v := v) r p (q G)
/-- a thing may be locked behind an expression -/
theorem pe_lock {e : Expr} {t : TE} (h : PE X e t) : PE X e (fun σ H Q => t σ H (LkQ Q)) := ⟨fun pins s σ H Q I q => thn (h.run pins s σ H _ I q) fun u s1 ⟨v, H1, I1, rv, q1⟩ => by
  rcases q1 with q1 | ⟨d, u0, t0, ks, vs, e, dk, q1⟩
  · exact ⟨v, H1, I1, rv, q1⟩
  · obtain ⟨od, I2⟩ := I1.lock e (dkv_mut dk)
    exact ⟨v, _, I2, rv, q1 od⟩⟩
/-- a slot's value, frozen -/
theorem pe_nameE {i : Nat} {e : Expr} (h : PE X e (tVar i)) : PE X e (tE X F U (nameE i)) := (pe_lock h).imp fun σ H Q ⟨G, ρ, r, p⟩ => by
  unfold nameE M.bind rdD at p
  cases e1 : ρ[i]? with
  | none =>
    rw [e1] at p
    exact p.elim
  | some s =>
    rw [e1] at p
    cases s with
    | e => exact p.elim
    | d w =>
      obtain ⟨v, h1, h2⟩ := r.dat i w e1
      exact ⟨v, h1, .inl (p v G H (.refl _) r h2)⟩
    | o w =>
      obtain ⟨a, u, h1, h2, h3, h4⟩ := r.freezeAt e1
      exact ⟨_, h1, LkQ.of h2 h3 fun o f => p _ _ _ (h4 o f).1 (h4 o f).2.2 (h4 o f).2.1⟩
theorem pe_plName {i : Nat} {e : Expr} (h : PE X e (tVar i)) : PE X e (tP X F U (plName i)) := h.imp fun σ H Q ⟨G, ρ, r, p⟩ => by
  unfold plName at p
  split at p
  · rename_i w e1
    obtain ⟨v, h1, _⟩ := r.view e1
    exact ⟨v, h1, p v G H (.refl _) r h1⟩
  · exact p.elim
/-- frozen -/
theorem pe_dat {e : Expr} {m : M Sl} (h : PE X e (tE X F U m)) : PE X e (tD X F U (dat m)) := (pe_lock h).imp fun σ H Q ⟨G, ρ, r, p⟩ => by
  refine ⟨G, ρ, r, ?_⟩
  have p1 := post.bind (P := pSl X F) p
  cases e1 : m ρ with
  | bad => rw [e1] at p1; exact p1
  | exc C ρ' => rw [e1] at p1; exact p1
  | ok s ρ' =>
    rw [e1] at p1
    intro v G' H' s1 r1 q1
    obtain ⟨G2, ρ2, s2, s3, r2, q2, p2⟩ := p1 v G' H' s1 r1 q1
    cases e2 : s2.view with
    | none =>
      rw [e2] at p2
      exact p2.elim
    | some w =>
      rw [e2] at p2
      rcases r2.slFreeze q2 e2 with h | ⟨a, u, h1, h2, h3⟩
      · exact .inl (p2 v G2 H' (.refl _) r2 h)
      · exact LkQ.of h1 h2 fun o f => p2 v _ _ (h3 o f).1 (h3 o f).2.2 (h3 o f).2.1
theorem pe_plE {e : Expr} {m : M Sl} (h : PE X e (tE X F U m)) : PE X e (tP X F U (plE m)) := (pe_dat h).imp fun σ H Q ⟨G, ρ, r, p⟩ => by
  refine ⟨G, ρ, r, ?_⟩
  have p1 := post.bind (P := pW X) p
  cases e1 : dat m ρ with
  | bad => rw [e1] at p1; exact p1
  | exc C ρ' => rw [e1] at p1; exact p1
  | ok w ρ' =>
    rw [e1] at p1
    intro v G' H' s1 r1 q1
    obtain ⟨G2, ρ2, w2, s2, r2, q2, p2⟩ := p1 v G' H' s1 r1 q1
    exact p2 v G2 H' (.refl _) r2 q2
theorem pe_dE {e : Expr} {m : M Pf.W} (h : PE X e (tD X F U m)) : PE X e (tE X F U (dE m)) := h.imp fun σ H Q ⟨G, ρ, r, p⟩ => by
  refine ⟨G, ρ, r, ?_⟩
  have p1 := post.bind (P := pW X) p
  cases e1 : m ρ with
  | bad => rw [e1] at p1; exact p1
  | exc C ρ' => rw [e1] at p1; exact p1
  | ok w ρ' =>
    rw [e1] at p1
    intro v G' H' s1 r1 q1
    obtain ⟨G2, ρ2, w2, s2, r2, q2, p2⟩ := p1 v G' H' s1 r1 q1
    exact p2 v G2 H' (.refl _) r2 q2
/-- the use of a value that is read -/
theorem post.vw {p : Pl} {f : Pf.W → M γ} {v : V} {Q : δ → Hp → Prop} (r : Rel X.K X.mg F G H σ ρ) (pr : PlRep X G σ v p) (h : post X F U P' G σ (M.bind (vw p) f ρ) Q) : ∃ w, p.view ρ = some w ∧ Top X.K X.mg G H v w ∧ post X F U P' G σ (f w ρ) Q := by
  unfold M.bind Pf.vw at h
  cases e : p.view ρ with
  | none =>
    rw [e] at h
    exact h.elim
  | some w =>
    rw [e] at h
    refine ⟨w, rfl, ?_, h⟩
    cases p with
    | sl i =>
      obtain ⟨v', h1, h2⟩ := r.view (show (ρ[i]?).bind Sl.view = some w from e)
      rw [show σ[i]? = some (some v) from pr] at h1
      cases h1
      exact h2
    | tm w' =>
      cases e
      exact .inl pr
theorem PlRep.le {p : Pl} {v : V} (s : Sub G G1) (h : PlRep X G σ v p) : PlRep X G1 σ v p := by
  cases p with
  | sl i => exact h
  | tm w => exact Rep.mono s h
theorem plsLe {ps : List Pl} {vs : List V} (s : Sub G G1) (h : Paired (PlRep X G σ) vs ps) : Paired (PlRep X G1 σ) vs ps := Paired.mapP h fun _ _ q => q.le s
theorem post.vwL {f : List Pf.W → M γ} {Q : δ → Hp → Prop} (r : Rel X.K X.mg F G H σ ρ) : ∀ {ps : List Pl} {vs : List V}, Paired (PlRep X G σ) vs ps → ∀ {f : List Pf.W → M γ}, post X F U P' G σ (M.bind (vwL ps) f ρ) Q → ∃ ws, TopL X.K X.mg G H vs ws ∧ post X F U P' G σ (f ws ρ) Q
  | _, _, .nil, f, h => ⟨[], .nil, h⟩
  | p :: ps, v :: vs, .cons q qs, f, h => by
    have h' : post X F U P' G σ (M.bind (Pf.vw p) (fun w => M.bind (Pf.vwL ps) fun ws => f (w :: ws)) ρ) Q := by
      have e : M.bind (Pf.vwL (p :: ps)) f ρ = M.bind (Pf.vw p) (fun w => M.bind (Pf.vwL ps) fun ws => f (w :: ws)) ρ := by
        show M.bind (M.bind (Pf.vw p) fun w => M.bind (Pf.vwL ps) fun ws => M.ret (w :: ws)) f ρ = _
        unfold M.bind M.ret
        cases Pf.vw p ρ with
        | ok w ρ' => dsimp only; cases Pf.vwL ps ρ' <;> rfl
        | exc C ρ' => rfl
        | bad => rfl
      rw [← e]
      exact h
    obtain ⟨w, _, t, h2⟩ := post.vw r q h'
    obtain ⟨ws, ts, h3⟩ := post.vwL (f := f) r qs h2
    exact ⟨w :: ws, .cons t ts, h3⟩
/-- two operands, then an operation -/
theorem run_bin {ma mb : M Pl} {f : Pf.W → Pf.W → Option Sl} {Q : VK} (h : tE X F U (binE f ma mb) σ H Q) : tP X F U ma σ H fun x H1 => tP X F U mb σ H1 fun y H2 => rOp X.K X.mg f x y H2 Q := by
  obtain ⟨G, ρ, r, p⟩ := h
  refine ⟨G, ρ, r, ?_⟩
  have p1 := post.bind (P := pPl X) p
  cases e1 : ma ρ with
  | bad => rw [e1] at p1; exact p1
  | exc C ρ' => rw [e1] at p1; exact p1
  | ok pa ρ' =>
    rw [e1] at p1
    intro x G' H' s1 r1 q1
    obtain ⟨G2, ρ2, a2, s2, r2, q2, p2⟩ := p1 x G' H' s1 r1 q1
    refine ⟨G2, ρ2, r2, ?_⟩
    have p3 := post.bind (P := pPl X) p2
    cases e2 : mb ρ2 with
    | bad => rw [e2] at p3; exact p3
    | exc C ρ' => rw [e2] at p3; exact p3
    | ok pb ρ3 =>
      rw [e2] at p3
      intro y G3 H3 s3 r3 q3
      obtain ⟨G4, ρ4, b4, s4, r4, q4, p4⟩ := p3 y G3 H3 s3 r3 q3
      obtain ⟨wx, _, tx, p5⟩ := post.vw r4 (q2.le s4) p4
      obtain ⟨wy, _, ty, p6⟩ := post.vw r4 q4 p5
      obtain ⟨s, e, k⟩ := post.ofNew r4 p6
      exact ⟨G4, wx, wy, s, r4.sub, tx, ty, e, k⟩
theorem pe_binE {a b : Expr} {pos : Pos} {op : Operator} {ma mb : M Pl} (ha : PE X a (tP X F U ma)) (hb : PE X b (tP X F U mb)) : PE X (.BinOp a op b pos) (tE X F U (binE (W.bin op) ma mb)) :=
  (pe_op (bin_ok op) ha hb).imp fun _ _ _ h => run_bin h
theorem pe_cmpE {a b : Expr} {pos : Pos} {op : CmpOp} {ma mb : M Pl} (hu : X.A.units + 65 < cLine) (ha : PE X a (tP X F U ma)) (hb : PE X b (tP X F U mb)) (hm : behindInMarks op b = false) : PE X (.Compare a [op] [b] pos) (tE X F U (cmpE op ma mb)) :=
  (pe_cmpR (cmp_ok hu op) ha hb hm).imp fun _ _ _ h => run_bin h
theorem pe_itemE {a b : Expr} {pos : Pos} {ma mb : M Pl} (hu : X.A.units + 65 < cLine) (ha : PE X a (tP X F U ma)) (hb : PE X b (tP X F U mb)) (hs : PlainIx b) : PE X (.Subscript a b pos) (tE X F U (binE itemW ma mb)) :=
  (pe_ix (item_ok hu) ha hb hs).imp fun _ _ _ h => run_bin h
/-- one operand -/
theorem run_un {ma : M Pl} {f : Pf.W → Option Sl} {Q : VK} (h : tE X F U (unE f ma) σ H Q) : tP X F U ma σ H fun x H1 => ∃ G w s, Sub G H1 ∧ Top X.K X.mg G H1 x w ∧ f w = some s ∧ ∀ v G' H', Grow G H1 G' H' → SlNew X.K X.mg H1 G' H' v s → Q v H' := by
  obtain ⟨G, ρ, r, p⟩ := h
  refine ⟨G, ρ, r, ?_⟩
  have p1 := post.bind (P := pPl X) p
  cases e1 : ma ρ with
  | bad => rw [e1] at p1; exact p1
  | exc C ρ' => rw [e1] at p1; exact p1
  | ok pa ρ' =>
    rw [e1] at p1
    intro x G' H' s1 r1 q1
    obtain ⟨G2, ρ2, a2, s2, r2, q2, p2⟩ := p1 x G' H' s1 r1 q1
    obtain ⟨wx, _, tx, p5⟩ := post.vw r2 q2 p2
    obtain ⟨s, e, k⟩ := post.ofNew r2 p5
    exact ⟨G2, wx, s, r2.sub, tx, e, k⟩
theorem pe_negE {a : Expr} {pos : Pos} {ma : M Pl} (ha : PE X a (tP X F U ma)) : PE X (.UnaryOp .USub a pos) (tE X F U (unE negW ma)) :=
  (pe_un un_neg ha).imp fun σ H Q h => by
    obtain ⟨G, ρ, r, p⟩ := run_un h
    refine ⟨G, ρ, r, ?_⟩
    cases e1 : ma ρ with
    | bad => rw [e1] at p; exact p
    | exc C ρ' => rw [e1] at p; exact p
    | ok pa ρ' =>
      rw [e1] at p
      intro x G' H' s1 r1 q1
      obtain ⟨G2, w, s, sub, t, e, k⟩ := p x G' H' s1 r1 q1
      unfold negW at e
      split at e
      · cases e
        cases t.int
        exact ⟨_, rfl, k _ G2 H' (.refl sub) (.int _)⟩
      · cases e
theorem pe_revE {a : Expr} {k : Nat} {p1 p2 p3 pos : Pos} {ma : M Pl} (ha : PE X a (tP X F U ma)) : PE X (.Subscript a (.Slice none none (some (.UnaryOp .USub (.Constant (.int 1) k p1) p2)) p3) pos) (tE X F U (unE revW ma)) :=
  (pe_revL ha).imp fun σ H Q h => by
    obtain ⟨G, ρ, r, p⟩ := run_un h
    refine ⟨G, ρ, r, ?_⟩
    cases e1 : ma ρ with
    | bad => rw [e1] at p; exact p
    | exc C ρ' => rw [e1] at p; exact p
    | ok pa ρ' =>
      rw [e1] at p
      intro x G' H' s1 r1 q1
      obtain ⟨G2, w, s, sub, t, e, k⟩ := p x G' H' s1 r1 q1
      unfold revW at e
      split at e
      · cases e
        obtain ⟨a, vs, rfl, h1, r1⟩ := t.lst sub
        exact ⟨a, vs, rfl, SqL.of h1, fun p hp => k _ G2 _ (.alloc sub hp) ⟨p, rfl, hp, gnone sub hp, _, upd_same, r1.reverse⟩⟩
      · cases e
/-- a op b op' c -/
theorem run_chain {op op' : CmpOp} {ma mb mc : M Pl} {Q : VK} (h : tE X F U (chainE op op' ma mb mc) σ H Q) : tChain (rOp X.K X.mg (cmpW op)) (rOp X.K X.mg (cmpW op')) (tP X F U ma) (tP X F U mb) (tP X F U mc) σ H Q := by
  obtain ⟨G, ρ, r, p⟩ := h
  refine ⟨G, ρ, r, ?_⟩
  have p1 := post.bind (P := pPl X) p
  cases e1 : ma ρ with
  | bad => rw [e1] at p1; exact p1
  | exc C ρ' => rw [e1] at p1; exact p1
  | ok pa ρ' =>
    rw [e1] at p1
    intro x G' H' s1 r1 q1
    obtain ⟨G2, ρ2, a2, s2, r2, q2, p2⟩ := p1 x G' H' s1 r1 q1
    refine ⟨G2, ρ2, r2, ?_⟩
    have p3 := post.bind (P := pPl X) p2
    cases e2 : mb ρ2 with
    | bad => rw [e2] at p3; exact p3
    | exc C ρ' => rw [e2] at p3; exact p3
    | ok pb ρ3 =>
      rw [e2] at p3
      intro y G3 H3 s3 r3 q3
      obtain ⟨G4, ρ4, b4, s4, r4, q4, p4⟩ := p3 y G3 H3 s3 r3 q3
      obtain ⟨wx, _, tx, p5⟩ := post.vw r4 (q2.le s4) p4
      obtain ⟨wy, _, ty, p6⟩ := post.vw r4 q4 p5
      cases e3 : W.cmp op wx wy with
      | none =>
        rw [e3] at p6
        exact p6.elim
      | some k =>
        rw [e3] at p6
        refine ⟨G4, wx, wy, .d (.bl k), r4.sub, tx, ty, by show (W.cmp op wx wy).map _ = _; rw [e3]; rfl, fun v G5 H5 g n => ?_⟩
        have e5 : v = .bl k := by
          cases (show Rep X.K X.mg G5 v (.bl k) from n)
          rfl
        have r5 := r4.grow g
        replace p6 : post X F U (pSl X F) G4 σ ((if k = true then M.bind mc fun r => M.bind (vw b4) fun y' => M.bind (vw r) fun z => M.of ((W.cmp op' y' z).map fun b => .d (.bl b)) else cst (.bl false)) ρ4) Q := p6
        refine ⟨k, e5, ?_⟩
        cases k with
        | false => exact p6 _ G5 H5 g.le r5 (.bl _)
        | true =>
          refine ⟨G5, ρ4, r5, ?_⟩
          have p7 := post.bind (P := pPl X) (p6.le g.le)
          cases e6 : mc ρ4 with
          | bad => rw [e6] at p7; exact p7
          | exc C ρ' => rw [e6] at p7; exact p7
          | ok pc ρ6 =>
            rw [e6] at p7
            intro z G6 H6 s6 r6 q6
            obtain ⟨G7, ρ7, c7, s7, r7, q7, p8⟩ := p7 z G6 H6 s6 r6 q6
            obtain ⟨wy', _, ty', p9⟩ := post.vw r7 ((q4.le g.le).le s7) p8
            obtain ⟨wz, _, tz, p10⟩ := post.vw r7 q7 p9
            obtain ⟨s, e, k⟩ := post.ofNew r7 p10
            exact ⟨G7, wy', wz, s, r7.sub, ty', tz, e, k⟩

theorem pe_chainE {a b c : Expr} {pos : Pos} {op op' : CmpOp} {ma mb mc : M Pl} (hu : X.A.units + 65 < cLine) (ha : PE X a (tP X F U ma)) (hb : PE X b (tP X F U mb)) (hc : PE X c (tP X F U mc)) (hm : lastMarks [op, op'] [b, c] = false) :
    PE X (.Compare a [op, op'] [b, c] pos) (tE X F U (chainE op op' ma mb mc)) := (pe_chain (cmp_ok hu op) (cmp_ok hu op') ha hb hc hm).imp fun σ H Q h => run_chain h

/-! ### lists of expressions -/
theorem pa_evS : ∀ {es : List Expr} {ms : List (M Pf.W)}, es.all plainX = true → Paired (fun e m => PE X e (tD X F U m)) es ms → PA X es (tDs X F U (evS ms))
  | _, _, _, .nil => pa_nil.imp fun σ H Q ⟨G, ρ, r, p⟩ => p [] G H (.refl _) r .nil
  | e :: es, m :: ms, hp, .cons h hs => by
    rw [List.all_cons, Bool.and_eq_true] at hp
    have hst : starEach (e :: es) X.env = (false, eval e X.env) :: starEach es X.env := by
      cases e <;> first | rfl | (cases hp.1)
    refine (pa_cons h (pa_evS hp.2 hs) hst).imp fun σ H Q ⟨G, ρ, r, p⟩ => ⟨G, ρ, r, ?_⟩
    have p1 := post.bind (P := pW X) p
    cases e1 : m ρ with
    | bad => rw [e1] at p1; exact p1
    | exc C ρ' => rw [e1] at p1; exact p1
    | ok pa ρ' =>
      rw [e1] at p1
      intro x G' H' s1 r1 q1
      obtain ⟨G2, ρ2, w, s2, r2, q2, p2⟩ := p1 x G' H' s1 r1 q1
      refine ⟨G2, ρ2, r2, ?_⟩
      have p3 := post.bind (P := pWs X) p2
      cases e2 : evS ms ρ2 with
      | bad => rw [e2] at p3; exact p3
      | exc C ρ' => rw [e2] at p3; exact p3
      | ok ws ρ3 =>
        rw [e2] at p3
        intro ys G3 H3 s3 r3 q3
        obtain ⟨G4, ρ4, b4, s4, r4, q4, p4⟩ := p3 ys G3 H3 s3 r3 q3
        exact p4 (x :: ys) G4 H3 (.refl _) r4 (.cons (q2.mono s4) q4)
theorem pa_plS : ∀ {es : List Expr} {ms : List (M Pl)}, es.all plainX = true → Paired (fun e m => PE X e (tP X F U m)) es ms → PA X es (tPs X F U (plS ms))
  | _, _, _, .nil => pa_nil.imp fun σ H Q ⟨G, ρ, r, p⟩ => p [] G H (.refl _) r .nil
  | e :: es, m :: ms, hp, .cons h hs => by
    rw [List.all_cons, Bool.and_eq_true] at hp
    have hst : starEach (e :: es) X.env = (false, eval e X.env) :: starEach es X.env := by
      cases e <;> first | rfl | (cases hp.1)
    refine (pa_cons h (pa_plS hp.2 hs) hst).imp fun σ H Q ⟨G, ρ, r, p⟩ => ⟨G, ρ, r, ?_⟩
    have p1 := post.bind (P := pPl X) p
    cases e1 : m ρ with
    | bad => rw [e1] at p1; exact p1
    | exc C ρ' => rw [e1] at p1; exact p1
    | ok pa ρ' =>
      rw [e1] at p1
      intro x G' H' s1 r1 q1
      obtain ⟨G2, ρ2, w, s2, r2, q2, p2⟩ := p1 x G' H' s1 r1 q1
      refine ⟨G2, ρ2, r2, ?_⟩
      have p3 := post.bind (P := pPls X) p2
      cases e2 : plS ms ρ2 with
      | bad => rw [e2] at p3; exact p3
      | exc C ρ' => rw [e2] at p3; exact p3
      | ok ws ρ3 =>
        rw [e2] at p3
        intro ys G3 H3 s3 r3 q3
        obtain ⟨G4, ρ4, b4, s4, r4, q4, p4⟩ := p3 ys G3 H3 s3 r3 q3
        exact p4 (x :: ys) G4 H3 (.refl _) r4 (.cons (q2.le s4) q4)
theorem pe_lstE {es : List Expr} {pos : Pos} {m : M (List Pf.W)} (h : PA X es (tDs X F U m)) : PE X (.List es pos) (tE X F U (lstE m)) := (L2.pe_lst h).imp fun σ H Q ⟨G, ρ, r, p⟩ => by
  refine ⟨G, ρ, r, ?_⟩
  have p1 := post.bind (P := pWs X) p
  cases e1 : m ρ with
  | bad => rw [e1] at p1; exact p1
  | exc C ρ' => rw [e1] at p1; exact p1
  | ok pa ρ' =>
    rw [e1] at p1
    intro xs G' H' s1 r1 q1
    obtain ⟨G2, ρ2, ws, s2, r2, q2, p2⟩ := p1 xs G' H' s1 r1 q1
    obtain ⟨s, e, k⟩ := post.ofNew r2 p2
    split at e
    · rename_i hl
      cases e
      refine ⟨by rw [q2.length]; exact hl, fun p hp => ?_⟩
      exact k _ G2 _ (.alloc r2.sub hp) ⟨p, rfl, hp, gnone r2.sub hp, _, upd_same, q2⟩
    · cases e
theorem pe_tupE {es : List Expr} {pos : Pos} {n : Nat} {m : M (List Pf.W)} (h : PA X es (tDs X F U m)) : PE X (.Tuple es n pos) (tE X F U (tupE m)) := (L2.pe_tup h).imp fun σ H Q ⟨G, ρ, r, p⟩ => by
  refine ⟨G, ρ, r, ?_⟩
  have p1 := post.bind (P := pWs X) p
  cases e1 : m ρ with
  | bad => rw [e1] at p1; exact p1
  | exc C ρ' => rw [e1] at p1; exact p1
  | ok pa ρ' =>
    rw [e1] at p1
    intro xs G' H' s1 r1 q1
    obtain ⟨G2, ρ2, ws, s2, r2, q2, p2⟩ := p1 xs G' H' s1 r1 q1
    obtain ⟨s, e, k⟩ := post.ofNew r2 p2
    split at e
    · rename_i hl
      cases e
      refine ⟨by rw [q2.length]; exact hl, fun p hp => ?_⟩
      exact k _ _ _ (.frozen r2.sub hp) (.tup upd_same (q2.mono (.upd (gnone r2.sub hp))))
    · cases e
/-- a call of a built-in -/
theorem pe_callE {f : Str} {e : Expr} {es : List Expr} {p pos : Pos} {m : M (List Pl)} (hf : isBlt f = true) (hu : X.A.units + 65 < cLine) (hc : X.calm = true) (hg : Gl X f) (hm : X.mg f = none) (hp : (e :: es).all plainX = true) (ha : PA X (e :: es) (tPs X F U m)) :
    PE X (.Call (.Name f p) (e :: es) [] pos) (tE X F U (callE f m)) := by
  have plain : ∀ l : List Expr, l.all plainX = true → (backTo pos (starEach l X.env)).any (·.1) = false := by
    intro l
    induction l with
    | nil => intro _; rfl
    | cons a l ih =>
      intro h
      rw [List.all_cons, Bool.and_eq_true] at h
      have hst : starEach (a :: l) X.env = (false, eval a X.env) :: starEach l X.env := by
        cases a <;> first | rfl | (cases h.1)
      rw [hst]
      show (false || (backTo pos (starEach l X.env)).any (·.1)) = false
      rw [ih h.2]
      rfl
  have hp' := hp
  rw [List.all_cons, Bool.and_eq_true] at hp'
  have hst : starEach (e :: es) X.env = (false, eval e X.env) :: starEach es X.env := by
    cases e <;> first | rfl | (cases hp'.1)
  refine (pe_blt hf hu hc hg hm ha hst (plain es hp'.2)).imp fun σ H Q ⟨G, ρ, r, p⟩ => ⟨G, ρ, r, ?_⟩
  have p1 := post.bind (P := pPls X) p
  cases e1 : m ρ with
  | bad => rw [e1] at p1; exact p1
  | exc C ρ' => rw [e1] at p1; exact p1
  | ok pa ρ' =>
    rw [e1] at p1
    intro xs G' H' s1 r1 q1
    obtain ⟨G2, ρ2, ws, s2, r2, q2, p2⟩ := p1 xs G' H' s1 r1 q1
    obtain ⟨zs, ts, p3⟩ := post.vwL (f := fun ws => M.of (Pf.W.call f ws)) r2 q2 p2
    obtain ⟨s, e, k⟩ := post.ofNew r2 p3
    exact ⟨G2, zs, s, r2.sub, ts, e, k⟩

/-! ### tests -/
theorem tru_top {G H : Hp} (s : Sub G H) {v : V} {w : Pf.W} {k : Bool} (t : Top X.K X.mg G H v w) (e : w.tru = some k) : TruV X.K v H k := by
  cases w with
  | non => cases e; cases t.non; exact rfl
  | bl b => cases e; cases t.bl; exact rfl
  | int i => cases e; cases t.int; exact rfl
  | str z =>
    replace e : (if z.length ≤ sizeLine then some (z.length != 0) else none) = some k := e
    split at e
    · rename_i hl
      cases e
      cases t.str
      refine ⟨hl, ?_⟩
      cases h : (z.length != 0) with
      | true =>
        have h' : z.length ≠ 0 := by simpa using h
        have h2 : (z.length : Int) ≠ 0 := by omega
        exact (bne_iff_ne.mpr h2).symm
      | false =>
        have h' : z.length = 0 := by simpa using h
        rw [h']
        rfl
    · cases e
  | tup ws =>
    cases e
    obtain ⟨a, vs, rfl, h1, r1, _⟩ := t.tup s
    refine .inr (.inl ⟨vs, SqT.of h1, ?_⟩)
    have := r1.length
    cases vs <;> cases ws <;> first | rfl | simp at this
  | lst ws =>
    cases e
    obtain ⟨a, vs, rfl, h1, r1⟩ := t.lst s
    refine .inl ⟨vs, SqL.of h1, ?_⟩
    have := r1.length
    cases vs <;> cases ws <;> first | rfl | simp at this
  | dct _ _ => cases e
  | set _ => cases e
  | scr _ => cases e
  | fn _ => cases e
  | ty _ => cases e
  | exn _ => cases e
theorem run_tru {ma : M Pl} {Q : Bool → Hp → Prop} (h : tB X F U (truE ma) σ H Q) : tP X F U ma σ H fun x H1 => ∃ k, TruV X.K x H1 k ∧ Q k H1 := by
  obtain ⟨G, ρ, r, p⟩ := h
  refine ⟨G, ρ, r, ?_⟩
  have p1 := post.bind (P := pPl X) p
  cases e1 : ma ρ with
  | bad => rw [e1] at p1; exact p1
  | exc C ρ' => rw [e1] at p1; exact p1
  | ok pa ρ' =>
    rw [e1] at p1
    intro x G' H' s1 r1 q1
    obtain ⟨G2, ρ2, a2, s2, r2, q2, p2⟩ := p1 x G' H' s1 r1 q1
    obtain ⟨w, _, t, p3⟩ := post.vw r2 q2 p2
    cases e2 : w.tru with
    | none =>
      rw [e2] at p3
      exact p3.elim
    | some k =>
      rw [e2] at p3
      exact ⟨k, tru_top r2.sub t e2, p3 k G2 H' (.refl _) r2 rfl⟩
theorem pt_truE {e : Expr} {ma : M Pl} (h : PE X e (tP X F U ma)) (he : plainT e = true) : PT X e (tB X F U (truE ma)) := by
  refine (pt_truth h ?_).imp fun σ H Q h => run_tru h
  intro whole
  cases e <;> first | rfl | (cases he; done) | skip
  rename_i op a pos
  cases op <;> first | rfl | (cases he; done)
theorem pt_notT {e : Expr} {pos : Pos} {m : M Bool} (h : PT X e (tB X F U m)) : PT X (.UnaryOp .Not e pos) (tB X F U (notT m)) := (L2.pt_not h).imp fun σ H Q ⟨G, ρ, r, p⟩ => by
  refine ⟨G, ρ, r, ?_⟩
  have p1 := post.bind (P := pB) p
  cases e1 : m ρ with
  | bad => rw [e1] at p1; exact p1
  | exc C ρ' => rw [e1] at p1; exact p1
  | ok pa ρ' =>
    rw [e1] at p1
    intro x G' H' s1 r1 q1
    obtain ⟨G2, ρ2, a2, s2, r2, q2, p2⟩ := p1 x G' H' s1 r1 q1
    cases q2
    exact p2 _ G2 H' (.refl _) r2 rfl
theorem pw_andT : ∀ {e : Expr} {es : List Expr} {pos : Pos} {m : M Bool} {ms : List (M Bool)}, Paired (fun e m => PT X e (tB X F U m)) (e :: es) (m :: ms) → PW X (.BoolOp .And (e :: es) pos) (tB X F U (andT (m :: ms)))
  | e, [], pos, m, [], .cons h .nil => (L2.pw_and1 h).imp fun _ _ _ q => q
  | e, e' :: es, pos, m, m' :: ms, .cons h hs => (L2.pw_and h (pw_andT hs)).imp fun σ H Q ⟨G, ρ, r, p⟩ => by
    refine ⟨G, ρ, r, ?_⟩
    have p1 := post.bind (P := pB) p
    cases e1 : m ρ with
    | bad => rw [e1] at p1; exact p1
    | exc C ρ' => rw [e1] at p1; exact p1
    | ok pa ρ' =>
      rw [e1] at p1
      intro x G' H' s1 r1 q1
      obtain ⟨G2, ρ2, a2, s2, r2, q2, p2⟩ := p1 x G' H' s1 r1 q1
      cases q2
      cases x with
      | true => exact ⟨G2, ρ2, r2, p2⟩
      | false => exact p2 _ G2 H' (.refl _) r2 rfl
theorem pw_orT : ∀ {e : Expr} {es : List Expr} {pos : Pos} {m : M Bool} {ms : List (M Bool)}, Paired (fun e m => PT X e (tB X F U m)) (e :: es) (m :: ms) → PW X (.BoolOp .Or (e :: es) pos) (tB X F U (orT (m :: ms)))
  | e, [], pos, m, [], .cons h .nil => (L2.pw_or1 h).imp fun _ _ _ q => q
  | e, e' :: es, pos, m, m' :: ms, .cons h hs => (L2.pw_or h (pw_orT hs)).imp fun σ H Q ⟨G, ρ, r, p⟩ => by
    refine ⟨G, ρ, r, ?_⟩
    have p1 := post.bind (P := pB) p
    cases e1 : m ρ with
    | bad => rw [e1] at p1; exact p1
    | exc C ρ' => rw [e1] at p1; exact p1
    | ok pa ρ' =>
      rw [e1] at p1
      intro x G' H' s1 r1 q1
      obtain ⟨G2, ρ2, a2, s2, r2, q2, p2⟩ := p1 x G' H' s1 r1 q1
      cases q2
      cases x with
      | false => exact ⟨G2, ρ2, r2, p2⟩
      | true => exact p2 _ G2 H' (.refl _) r2 rfl
/-- an expression that gives a truth, as a test -/
theorem run_tst {m : M Sl} {Q : Bool → Hp → Prop} (h : tB X F U (tstE m) σ H Q) : tE X F U m σ H fun x H1 => ∃ k, x = .bl k ∧ Q k H1 := by
  obtain ⟨G, ρ, r, p⟩ := h
  refine ⟨G, ρ, r, ?_⟩
  have p1 := post.bind (P := pSl X F) p
  cases e1 : m ρ with
  | bad => rw [e1] at p1; exact p1
  | exc C ρ' => rw [e1] at p1; exact p1
  | ok pa ρ' =>
    rw [e1] at p1
    intro x G' H' s1 r1 q1
    obtain ⟨G2, ρ2, s, s2, r2, q2, p2⟩ := p1 x G' H' s1 r1 q1
    cases s with
    | e => exact q2.elim
    | d w =>
      cases w <;> first | exact p2.elim | skip
      cases (show Rep X.K X.mg G2 x (.bl _) from q2)
      exact ⟨_, rfl, p2 _ G2 H' (.refl _) r2 rfl⟩
    | o w =>
      cases w <;> first | exact p2.elim | skip
      obtain ⟨a, _, _, h, _⟩ := q2
      exact h.elim
theorem pt_cmpE {a b : Expr} {pos : Pos} {op : CmpOp} {ma mb : M Pl} (hu : X.A.units + 65 < cLine) (ha : PE X a (tP X F U ma)) (hb : PE X b (tP X F U mb)) (hm : behindInMarks op b = false) : PT X (.Compare a [op] [b] pos) (tB X F U (tstE (cmpE op ma mb))) :=
  (pt_cmpR (cmp_ok hu op) ha hb hm).imp fun σ H Q h => run_bin (run_tst h)
theorem pe_boolE {e : Expr} {m : M Bool} {t : TT} (h : PE X e fun σ H Q => t σ H fun b H1 => Q (.bl b) H1) (i : ∀ σ H Q, tB X F U m σ H Q → t σ H Q) : PE X e (tE X F U (boolE m)) := h.imp fun σ H Q ⟨G, ρ, r, p⟩ => by
  refine i _ _ _ ⟨G, ρ, r, ?_⟩
  have p1 := post.bind (P := pB) p
  cases e1 : m ρ with
  | bad => rw [e1] at p1; exact p1
  | exc C ρ' => rw [e1] at p1; exact p1
  | ok pa ρ' =>
    rw [e1] at p1
    intro x G' H' s1 r1 q1
    obtain ⟨G2, ρ2, a2, s2, r2, q2, p2⟩ := p1 x G' H' s1 r1 q1
    cases q2
    exact p2 _ G2 H' (.refl _) r2 (.bl _)
theorem pe_notE {e : Expr} {pos : Pos} {ma : M Pl} (h : PE X e (tP X F U ma)) : PE X (.UnaryOp .Not e pos) (tE X F U (boolE (notT (truE ma)))) := (L2.pe_notT h).imp fun σ H Q ⟨G, ρ, r, p⟩ => by
  have q : tB X F U (truE ma) σ H fun b H1 => Q (.bl (!b)) H1 := by
    refine ⟨G, ρ, r, ?_⟩
    have p1 := post.bind (P := pB) p
    unfold notT at p1
    cases e1 : truE ma ρ with
    | bad => rw [show M.bind (truE ma) (fun b => M.ret (!b)) ρ = .bad by unfold M.bind; rw [e1]] at p1; exact p1
    | exc C ρ' => rw [show M.bind (truE ma) (fun b => M.ret (!b)) ρ = .exc C ρ' by unfold M.bind; rw [e1]] at p1; exact p1
    | ok b ρ' =>
      rw [show M.bind (truE ma) (fun b => M.ret (!b)) ρ = .ok (!b) ρ' by unfold M.bind; rw [e1]; rfl] at p1
      intro x G' H' s1 r1 q1
      obtain ⟨G2, ρ2, a2, s2, r2, q2, p2⟩ := p1 (!b) G' H' s1 r1 rfl
      cases q1
      cases q2
      exact p2 _ G2 H' (.refl _) r2 (.bl _)
  exact run_tru q
theorem pe_ifE {c a b : Expr} {pos : Pos} {mc : M Bool} {ma mb : M Sl} (hc : PT X c (tB X F U mc)) (ha : PE X a (tE X F U ma)) (hb : PE X b (tE X F U mb)) : PE X (.IfExp c a b pos) (tE X F U (ifE mc ma mb)) := (L2.pe_ifExp hc ha hb).imp fun σ H Q ⟨G, ρ, r, p⟩ => by
  refine ⟨G, ρ, r, ?_⟩
  have p1 := post.bind (P := pB) p
  cases e1 : mc ρ with
  | bad => rw [e1] at p1; exact p1
  | exc C ρ' => rw [e1] at p1; exact p1
  | ok pa ρ' =>
    rw [e1] at p1
    intro x G' H' s1 r1 q1
    obtain ⟨G2, ρ2, a2, s2, r2, q2, p2⟩ := p1 x G' H' s1 r1 q1
    cases q2
    cases x with
    | true => exact ⟨G2, ρ2, r2, p2⟩
    | false => exact ⟨G2, ρ2, r2, p2⟩
theorem pe_andV : ∀ {e : Expr} {es : List Expr} {pos : Pos} {m : M Pf.W} {ms : List (M Pf.W)}, Paired (fun e m => PE X e (tD X F U m)) (e :: es) (m :: ms) → PE X (.BoolOp .And (e :: es) pos) (tD X F U (andV (m :: ms)))
  | e, [], pos, m, [], .cons h .nil => (L2.pe_one h).imp fun _ _ _ q => q
  | e, e' :: es, pos, m, m' :: ms, .cons h hs => (L2.pe_andT h (pe_andV hs)).imp fun σ H Q ⟨G, ρ, r, p⟩ => by
    refine ⟨G, ρ, r, ?_⟩
    have p1 := post.bind (P := pW X) p
    cases e1 : m ρ with
    | bad => rw [e1] at p1; exact p1
    | exc C ρ' => rw [e1] at p1; exact p1
    | ok pa ρ' =>
      rw [e1] at p1
      intro x G' H' s1 r1 q1
      obtain ⟨G2, ρ2, w, s2, r2, q2, p2⟩ := p1 x G' H' s1 r1 q1
      cases e2 : w.tru with
      | none =>
        rw [e2] at p2
        exact p2.elim
      | some k =>
        rw [e2] at p2
        refine ⟨k, tru_top r2.sub (.inl q2) e2, ?_⟩
        cases k with
        | true => exact ⟨G2, ρ2, r2, p2⟩
        | false => exact p2 _ G2 H' (.refl _) r2 q2
theorem pe_orV : ∀ {e : Expr} {es : List Expr} {pos : Pos} {m : M Pf.W} {ms : List (M Pf.W)}, Paired (fun e m => PE X e (tD X F U m)) (e :: es) (m :: ms) → PE X (.BoolOp .Or (e :: es) pos) (tD X F U (orV (m :: ms)))
  | e, [], pos, m, [], .cons h .nil => (L2.pe_one h).imp fun _ _ _ q => q
  | e, e' :: es, pos, m, m' :: ms, .cons h hs => (L2.pe_orT h (pe_orV hs)).imp fun σ H Q ⟨G, ρ, r, p⟩ => by
    refine ⟨G, ρ, r, ?_⟩
    have p1 := post.bind (P := pW X) p
    cases e1 : m ρ with
    | bad => rw [e1] at p1; exact p1
    | exc C ρ' => rw [e1] at p1; exact p1
    | ok pa ρ' =>
      rw [e1] at p1
      intro x G' H' s1 r1 q1
      obtain ⟨G2, ρ2, w, s2, r2, q2, p2⟩ := p1 x G' H' s1 r1 q1
      cases e2 : w.tru with
      | none =>
        rw [e2] at p2
        exact p2.elim
      | some k =>
        rw [e2] at p2
        refine ⟨k, tru_top r2.sub (.inl q2) e2, ?_⟩
        cases k with
        | false => exact ⟨G2, ρ2, r2, p2⟩
        | true => exact p2 _ G2 H' (.refl _) r2 q2
end Pf

-- PfSound2
/-! Pf: slices, methods, calls of the text's own defs. -/
namespace Pf
open PySem PySem.Spec PyProof.Rows L2
variable {X : Cx} {F : Fr0} {U : WX} {α β γ δ : Type} {P : Hp → Hp → L2.St → Env → β → α → Prop} {P' : Hp → Hp → L2.St → Env → δ → γ → Prop} {G G1 H H1 : Hp} {σ : L2.St} {ρ ρ1 : Env}
abbrev pO : Hp → Hp → L2.St → Env → Option Int → Option Int → Prop := fun _ _ _ _ c b => c = b
/-- a slice's part -/
def partM (o : Option (M Pl)) : M (Option Int) := match o with
    | none => M.ret none
    | some m => M.bind m fun p => M.bind (vw p) fun w => match w with
      | .int i => M.ret (some i)
      | _ => M.bad
theorem sliceE_eq (a : M Pl) (lo hi : Option (M Pl)) : sliceE a lo hi = M.bind a fun p => M.bind (partM lo) fun l => M.bind (partM hi) fun h => M.bind (vw p) fun x => M.of (W.slice x l h) := rfl
inductive PartOk (X : Cx) (F : Fr0) (U : WX) : Option Expr → Option (M Pl) → Prop
  | none : PartOk X F U none none
  | some {e : Expr} {m : M Pl} : PE X e (tP X F U m) → PartOk X F U (some e) (some m)
theorem PO.imp {e : Option Expr} {t t' : TO} (h : PO X e t) (i : ∀ σ H Q, t' σ H Q → t σ H Q) : PO X e t' := ⟨fun pins s σ H Q I q => h.run pins s σ H Q I (i _ _ _ q)⟩
theorem po_part {e : Option Expr} {o : Option (M Pl)} (h : PartOk X F U e o) : PO X e (tG X F U pO (partM o)) := by
  cases h with
  | none => exact PO.imp po_none fun σ H Q ⟨G, ρ, r, p⟩ => p none G H (.refl _) r rfl
  | some h =>
    rename_i _ m
    refine PO.imp (po_some h) fun σ H Q ⟨G, ρ, r, p⟩ => ⟨G, ρ, r, ?_⟩
    have p1 := post.bind (P := pPl X) p
    cases e1 : m ρ with
    | bad => rw [e1] at p1; exact p1
    | exc C ρ' => rw [e1] at p1; exact p1
    | ok pa ρ' =>
      rw [e1] at p1
      intro x G' H' s1 r1 q1
      obtain ⟨G2, ρ2, a2, s2, r2, q2, p2⟩ := p1 x G' H' s1 r1 q1
      obtain ⟨w, _, t, p3⟩ := post.vw r2 q2 p2
      cases w <;> first | exact p3.elim | skip
      cases t.int
      exact ⟨_, rfl, p3 _ G2 H' (.refl _) r2 rfl⟩
theorem pe_sliceE {e : Expr} {lo hi : Option Expr} {p2 pos : Pos} {ma : M Pl} {l h : Option (M Pl)} (ha : PE X e (tP X F U ma)) (hl : PartOk X F U lo l) (hh : PartOk X F U hi h) : PE X (.Subscript e (.Slice lo hi none p2) pos) (tE X F U (sliceE ma l h)) :=
  (pe_slice slice_ok ha (po_part hl) (po_part hh)).imp fun σ H Q ⟨G, ρ, r, p⟩ => ⟨G, ρ, r, by
    rw [sliceE_eq] at p
    have p1 := post.bind (P := pPl X) p
    cases e1 : ma ρ with
    | bad => rw [e1] at p1; exact p1
    | exc C ρ' => rw [e1] at p1; exact p1
    | ok pa ρ' =>
      rw [e1] at p1
      intro x G' H' s1 r1 q1
      obtain ⟨G2, ρ2, a2, s2, r2, q2, p2⟩ := p1 x G' H' s1 r1 q1
      refine ⟨G2, ρ2, r2, ?_⟩
      have p3 := post.bind (P := pO) p2
      cases e2 : partM l ρ2 with
      | bad => rw [e2] at p3; exact p3
      | exc C ρ' => rw [e2] at p3; exact p3
      | ok o ρ3 =>
        rw [e2] at p3
        intro y G3 H3 s3 r3 q3
        obtain ⟨G4, ρ4, b4, s4, r4, q4, p4⟩ := p3 y G3 H3 s3 r3 q3
        cases q4
        refine ⟨G4, ρ4, r4, ?_⟩
        have p5 := post.bind (P := pO) p4
        cases e3 : partM h ρ4 with
        | bad => rw [e3] at p5; exact p5
        | exc C ρ' => rw [e3] at p5; exact p5
        | ok o' ρ5 =>
          rw [e3] at p5
          intro z G5 H5 s5 r5 q5
          obtain ⟨G6, ρ6, b6, s6, r6, q6, p6⟩ := p5 z G5 H5 s5 r5 q5
          cases q6
          obtain ⟨w, _, t, p7⟩ := post.vw r6 ((q2.le s4).le s6) p6
          obtain ⟨s, e, k⟩ := post.ofNew r6 p7
          exact ⟨G6, w, s, r6.sub, t, e, k⟩⟩

/-! ### methods -/
theorem baseOk {o : Expr} {m : Str} {env : PySem.Env} (h : baseX o = true) : attributeBase o m env (eval o env) = eval o env := by
  cases o <;> first | rfl | (cases h)
theorem plainAll (env : PySem.Env) (pos : Pos) : ∀ l : List Expr, l.all plainX = true → (backTo pos (starEach l env)).any (·.1) = false ∧ (backTo pos (starEach l env)).all (fun x => !x.1) = true := by
  intro l
  induction l with
  | nil => intro _; exact ⟨rfl, rfl⟩
  | cons a l ih =>
    intro h
    rw [List.all_cons, Bool.and_eq_true] at h
    have hst : starEach (a :: l) env = (false, eval a env) :: starEach l env := by
      cases a <;> first | rfl | (cases h.1)
    rw [hst]
    obtain ⟨h1, h2⟩ := ih h.2
    refine ⟨?_, ?_⟩
    · show (false || (backTo pos (starEach l env)).any (·.1)) = false
      rw [h1]
      rfl
    · show (true && (backTo pos (starEach l env)).all (fun x => !x.1)) = true
      rw [h2]
      rfl
theorem Rel.ownL {K : PySem.W.Frag} {mg : Str → Option Value} (r : Rel K mg F G H σ ρ) {i : Nat} {ws : List Pf.W} (e : ρ[i]? = some (.o (.lst ws))) : ∃ a vs, σ[i]? = some (some (.ref a)) ∧ H a = some (.lst vs) ∧ RepL K mg G vs ws := by
  obtain ⟨a, h1, h2, ⟨vs, h3, h4⟩, _⟩ := r.own i _ e
  exact ⟨a, vs, h1, h3, h4⟩
theorem post.needO {i : Nat} {f : Unit → M γ} {Q : δ → Hp → Prop} (h : post X F U P' G σ (M.bind (needO i) f ρ) Q) : ∃ ws, ρ[i]? = some (.o (.lst ws)) ∧ post X F U P' G σ (f () ρ) Q := by
  unfold M.bind Pf.needO at h
  split at h
  · rename_i a ρ' e
    split at e
    · rename_i ws e1
      cases e
      exact ⟨ws, e1, h⟩
    · cases e
  · rename_i C ρ' e
    split at e <;> cases e
  · exact h.elim
theorem post.mutO {A : Type} {i : Nat} {f : Pf.W → Option (A × Pf.W)} {g : A → M γ} {Q : δ → Hp → Prop} (h : post X F U P' G σ (M.bind (mutO i f) g ρ) Q) : ∃ w a w', ρ[i]? = some (.o w) ∧ f w = some (a, w') ∧ post X F U P' G σ (g a (ρ.set i (.o w'))) Q := by
  unfold M.bind Pf.mutO at h
  split at h
  · rename_i a ρ' e
    split at e
    · rename_i w e1
      split at e
      · rename_i a' w' e2
        cases e
        exact ⟨w, a, w', e1, e2, h⟩
      · cases e
    · cases e
  · rename_i C ρ' e
    split at e
    · split at e <;> cases e
    · cases e
  · exact h.elim
theorem few_of {env : PySem.Env} {pos : Pos} {es : List Expr} (hp : es.all plainX = true) (hl : es.length < 20) :
    ((backTo pos (starEach es env)).all (fun x => !x.1) && (backToKw pos (keywordEach [] env)).all (fun x => x.1.isSome) && decide (es.length + ([] : List Keyword).length + (if ([] : List Keyword).isEmpty then 0 else 1) < 30)) = true := by
  rw [(plainAll env pos es hp).2, Bool.true_and, Bool.and_eq_true]
  refine ⟨rfl, decide_eq_true ?_⟩
  show es.length + 0 + 0 < 30
  omega
theorem star_of {env : PySem.Env} {e : Expr} {es : List Expr} (h : plainX e = true) : starEach (e :: es) env = (false, eval e env) :: starEach es env := by
  cases e <;> first | rfl | (cases h)
theorem tyL {H : Hp} {a : Addr} {vs : List V} (h : H a = some (.lst vs)) : tyV X.K "list" (.ref a) H := .inl ⟨rfl, vs, SqL.of h⟩
theorem pe_appE {x : Str} {p apos pos : Pos} {e : Expr} {i : Nat} {m : M Pf.W} (hx : PE X (.Name x p) (tVar i)) (he : PE X e (tD X F U m)) (hp : plainX e = true) (hl : (apos.endLine == pos.line) = true) :
    PE X (.Call (.Attribute (.Name x p) "append" apos) [e] [] pos) (tE X F U (appE i m)) := by
  have hp' : [e].all plainX = true := by simp [hp]
  refine (pe_bm PySem.F.plainAttrs_list PySem.F.slot_list_append PySem.F.type_list_append mt_append hx (pa_cons he pa_nil (star_of hp)) rfl (few_of hp' (by simp)) hl (star_of hp) rfl).imp fun σ H Q ⟨G, ρ, r, p⟩ => ?_
  obtain ⟨ws, e1, p⟩ := post.needO p
  obtain ⟨a, vs, h1, h2, _⟩ := r.ownL e1
  refine ⟨.ref a, h1, tyL h2, G, ρ, r, ?_⟩
  have p1 := post.bind (P := pW X) p
  cases e2 : m ρ with
  | bad => rw [e2] at p1; exact p1
  | exc C ρ' => rw [e2] at p1; exact p1
  | ok pa ρ' =>
    rw [e2] at p1
    intro y G' H' s1 r1 q1
    obtain ⟨G2, ρ2, w, s2, r2, q2, p2⟩ := p1 y G' H' s1 r1 q1
    obtain ⟨w', _, w'', e3, e4, p3⟩ := post.mutO p2
    split at e4
    · rename_i ws'
      split at e4
      · rename_i hz
        cases e4
        obtain ⟨b, us, k1, k2, k3⟩ := r2.ownL e3
        rw [h1] at k1
        cases k1
        refine ⟨a, us, y, rfl, rfl, k2, by rw [k3.length]; exact hz, ?_⟩
        exact p3 .non G2 _ (.refl _) (r2.change e3 h1 (k3.append (.cons q2 .nil))) .non
      · cases e4
    · cases e4
theorem pe_insE {x : Str} {p apos pos : Pos} {k e : Expr} {i : Nat} {ma : M Pl} {m : M Pf.W} (hx : PE X (.Name x p) (tVar i)) (hk : PE X k (tP X F U ma)) (he : PE X e (tD X F U m)) (hpk : plainX k = true) (hp : plainX e = true) (hl : (apos.endLine == pos.line) = true) :
    PE X (.Call (.Attribute (.Name x p) "insert" apos) [k, e] [] pos) (tE X F U (insE i ma m)) := by
  have hp' : [k, e].all plainX = true := by simp [hp, hpk]
  refine (pe_bm PySem.F.plainAttrs_list PySem.F.slot_list_insert PySem.F.type_list_insert mt_insert hx (pa_cons hk (pa_cons he pa_nil (star_of hp)) (star_of hpk)) rfl (few_of hp' (by simp)) hl (star_of hpk) (plainAll X.env pos [e] (by simp [hp])).1).imp fun σ H Q ⟨G, ρ, r, p⟩ => ?_
  obtain ⟨ws, e1, p⟩ := post.needO p
  obtain ⟨a, vs, h1, h2, _⟩ := r.ownL e1
  refine ⟨.ref a, h1, tyL h2, G, ρ, r, ?_⟩
  have p1 := post.bind (P := pPl X) p
  cases e2 : ma ρ with
  | bad => rw [e2] at p1; exact p1
  | exc C ρ' => rw [e2] at p1; exact p1
  | ok pa ρ' =>
    rw [e2] at p1
    intro z G' H' s1 r1 q1
    obtain ⟨G2, ρ2, kp, s2, r2, q2, p2⟩ := p1 z G' H' s1 r1 q1
    refine ⟨G2, ρ2, r2, ?_⟩
    have p3 := post.bind (P := pW X) p2
    cases e3 : m ρ2 with
    | bad => rw [e3] at p3; exact p3
    | exc C ρ' => rw [e3] at p3; exact p3
    | ok pb ρ3 =>
      rw [e3] at p3
      intro y G3 H3 s3 r3 q3
      obtain ⟨G4, ρ4, w, s4, r4, q4, p4⟩ := p3 y G3 H3 s3 r3 q3
      obtain ⟨kw, -, tk, p5⟩ := post.vw r4 (q2.le s4) p4
      obtain ⟨w', _, w'', e5, e6, p6⟩ := post.mutO p5
      split at e6
      · rename_i ws' k'
        split at e6
        · rename_i hz
          cases e6
          cases tk.int
          obtain ⟨b, us, k1, k2, k3⟩ := r4.ownL e5
          rw [h1] at k1
          cases k1
          refine ⟨a, us, _, y, rfl, rfl, k2, by rw [k3.length]; exact hz.1, hz.2.1, by omega, ?_⟩
          have hr : RepL X.K X.mg G4 (us.take k'.toNat ++ [y] ++ us.drop k'.toNat) (ws'.take k'.toNat ++ w :: ws'.drop k'.toNat) := by
            rw [List.append_assoc]
            exact (k3.take _).append (.cons q4 (k3.drop _))
          exact p6 .non G4 _ (.refl _) (r4.change e5 h1 hr) .non
        · cases e6
      · cases e6
theorem pe_popE {x : Str} {p apos pos : Pos} {i : Nat} (hx : PE X (.Name x p) (tVar i)) (hl : (apos.endLine == pos.line) = true) :
    PE X (.Call (.Attribute (.Name x p) "pop" apos) [] [] pos) (tE X F U (popE i)) := by
  refine (pe_bm0 PySem.F.plainAttrs_list PySem.F.slot_list_pop PySem.F.type_list_pop mt_pop hx rfl hl).imp fun σ H Q ⟨G, ρ, r, p⟩ => ?_
  obtain ⟨ws, e1, p⟩ := post.needO p
  obtain ⟨a, vs, h1, h2, h3⟩ := r.ownL e1
  refine ⟨.ref a, h1, tyL h2, ?_⟩
  obtain ⟨w', z, w'', e3, e4, p3⟩ := post.mutO p
  rw [e1] at e3
  cases e3
  obtain ⟨w, e5, e6⟩ := Option.map_eq_some_iff.mp e4
  cases e6
  obtain ⟨v, k1, k2⟩ := h3.get e5
  refine ⟨a, vs, v, rfl, rfl, h2, by rw [h3.length]; exact k1, ?_⟩
  exact p3 v G _ (.refl _) (r.change e1 h1 h3.dropLast) k2
theorem seqIndex_of {n j : Nat} {i : Int} (h : ixOf n i = some j) : seqIndex? i n = some j := by
  unfold ixOf at h
  unfold seqIndex?
  split at h
  · rename_i h1
    split at h
    · rename_i h2
      cases h
      have e1 : (if i < 0 then i + (n : Int) else i) = i := if_neg (by omega)
      simp only [e1]
      rw [if_pos]
      rw [Bool.and_eq_true, decide_eq_true_eq, decide_eq_true_eq]
      omega
    · cases h
  · rename_i h1
    split at h
    · rename_i h2
      cases h
      have e1 : (if i < 0 then i + (n : Int) else i) = i + n := if_pos (by omega)
      simp only [e1]
      rw [if_pos]
      rw [Bool.and_eq_true, decide_eq_true_eq, decide_eq_true_eq]
      omega
    · cases h
theorem pe_popAtE {x : Str} {p apos pos : Pos} {k : Expr} {i : Nat} {ma : M Pl} (hx : PE X (.Name x p) (tVar i)) (hk : PE X k (tP X F U ma)) (hpk : plainX k = true) (hl : (apos.endLine == pos.line) = true) :
    PE X (.Call (.Attribute (.Name x p) "pop" apos) [k] [] pos) (tE X F U (popAtE i ma)) := by
  have hp' : [k].all plainX = true := by simp [hpk]
  refine (pe_bm PySem.F.plainAttrs_list PySem.F.slot_list_pop PySem.F.type_list_pop mt_popAt hx (pa_cons hk pa_nil (star_of hpk)) rfl (few_of hp' (by simp)) hl (star_of hpk) rfl).imp fun σ H Q ⟨G, ρ, r, p⟩ => ?_
  obtain ⟨ws, e1, p⟩ := post.needO p
  obtain ⟨a, vs, h1, h2, _⟩ := r.ownL e1
  refine ⟨.ref a, h1, tyL h2, G, ρ, r, ?_⟩
  have p1 := post.bind (P := pPl X) p
  cases e2 : ma ρ with
  | bad => rw [e2] at p1; exact p1
  | exc C ρ' => rw [e2] at p1; exact p1
  | ok pa ρ' =>
    rw [e2] at p1
    intro z G' H' s1 r1 q1
    obtain ⟨G2, ρ2, kp, s2, r2, q2, p2⟩ := p1 z G' H' s1 r1 q1
    obtain ⟨kw, -, tk, p5⟩ := post.vw r2 q2 p2
    obtain ⟨w', z', w'', e5, e6, p6⟩ := post.mutO p5
    split at e6
    · rename_i ws' k'
      split at e6
      · rename_i hz
        cases tk.int
        obtain ⟨j, e7, e8⟩ := Option.bind_eq_some_iff.mp e6
        obtain ⟨w, e9, e10⟩ := Option.map_eq_some_iff.mp e8
        cases e10
        obtain ⟨b, us, k1, k2, k3⟩ := r2.ownL e5
        rw [h1] at k1
        cases k1
        obtain ⟨v, m1, m2⟩ := k3.get e9
        refine ⟨a, us, _, j, v, rfl, rfl, k2, by omega, by omega, by rw [k3.length]; exact seqIndex_of e7, m1, ?_⟩
        exact p6 v G2 _ (.refl _) (r2.change e5 h1 (k3.erase j)) m2
      · cases e6
    · cases e6
/-- a text's method -/
theorem pe_methG {o e : Expr} {m : Str} {apos pos : Pos} {ma : M Pl} {me : M (List Pl)} {id : String} {rl : V → List V → Hp → VK → Prop} (sl : Slot "str" m id) (ty : typeOf (.builtin id) = pure (.type "method_descriptor")) (rule : MtR X id rl) (ho : PE X o (tP X F U ma)) (hbs : attributeBase o m X.env (eval o X.env) = eval o X.env)
    (he : PA X [e] (tPs X F U me)) (hp : plainX e = true) (hl : (apos.endLine == pos.line) = true)
    (hw : ∀ (G H : Hp) (z : Str) (ws : List Pf.W) (vs : List V) (s : Sl) (Q : VK), Sub G H → TopL X.K X.mg G H vs ws → Pf.W.meth (.str z) m ws = some s → (∀ v G' H', Grow G H G' H' → SlNew X.K X.mg H G' H' v s → Q v H') → rl (.str z) vs H Q) :
    PE X (.Call (.Attribute o m apos) [e] [] pos) (tE X F U (methE ma m me)) := by
  have ht : PE X (.Call (.Attribute o m apos) [e] [] pos) (fun σ H Q => tP X F U ma σ H fun x H1 => (∃ a, x = .str a) ∧ tPs X F U me σ H1 fun ys H2 => rl x ys H2 Q) := by
    refine ⟨fun pins s σ H Q I h => ?_⟩
    refine PySem.Call_method1 hbs (by rw [star_of hp]; rfl) hl (thn (ho.run pins s σ H _ I h) fun v s1 ⟨x, H1, I1, r1, q1⟩ => ?_)
    obtain ⟨⟨a, rfl⟩, q1⟩ := q1
    obtain ⟨t, rfl⟩ := _root_.id r1
    refine ⟨"str", _, PySem.F.plainAttrs_str, sl, ty, typeIs_str _ _ _, (fun _ e => nomatch e), Calls.callWith_builtin rfl (Calls.evalArgs_plain ?_)⟩
    have hA := he.run pos pins s1 σ H1 _ I1 q1
    rw [star_of hp] at hA
    exact thn hA fun us s2 ⟨vs, H2, I2, r2, q2⟩ => rule pins s2 σ H2 _ vs _ us Q I2 r1 r2 q2
  refine ht.imp fun σ H Q ⟨G, ρ, r, p⟩ => ⟨G, ρ, r, ?_⟩
  have p1 := post.bind (P := pPl X) p
  cases e1 : ma ρ with
  | bad => rw [e1] at p1; exact p1
  | exc C ρ' => rw [e1] at p1; exact p1
  | ok pa ρ' =>
    rw [e1] at p1
    intro x G' H' s1 r1 q1
    obtain ⟨G2, ρ2, a2, s2, r2, q2, p2⟩ := p1 x G' H' s1 r1 q1
    obtain ⟨w, -, t, p3⟩ := post.vw r2 q2 p2
    cases w <;> first | exact p3.elim | skip
    rename_i z
    cases t.str
    refine ⟨⟨_, rfl⟩, G2, ρ2, r2, ?_⟩
    have p4 := post.bind (P := pPls X) p3
    cases e2 : me ρ2 with
    | bad => rw [e2] at p4; exact p4
    | exc C ρ' => rw [e2] at p4; exact p4
    | ok ps ρ3 =>
      rw [e2] at p4
      intro ys G3 H3 s3 r3 q3
      obtain ⟨G4, ρ4, b4, s4, r4, q4, p5⟩ := p4 ys G3 H3 s3 r3 q3
      obtain ⟨zs, ts, p6⟩ := post.vwL (f := fun ws => M.of (Pf.W.meth (.str z) m ws)) r4 q4 p5
      obtain ⟨s, e, k⟩ := post.ofNew r4 p6
      exact hw G4 H3 z zs ys s Q r4.sub ts e k
theorem strs_repl {K : PySem.W.Frag} {mg : Str → Option Value} {G : Hp} : ∀ ys : List Str, RepL K mg G (ys.map V.str) (ys.map Pf.W.str)
  | [] => .nil
  | y :: ys => .cons (.str y) (strs_repl ys)
theorem pe_methE {o e : Expr} {m : Str} {apos pos : Pos} {ma : M Pl} {me : M (List Pl)} (hm : isStrM m 1 = true) (ho : PE X o (tP X F U ma)) (hb : baseX o = true) (he : PA X [e] (tPs X F U me)) (hp : plainX e = true) (hl : (apos.endLine == pos.line) = true) :
    PE X (.Call (.Attribute o m apos) [e] [] pos) (tE X F U (methE ma m me)) := by
  unfold isStrM at hm
  simp only [Bool.and_eq_true, Bool.or_eq_true, decide_eq_true_eq] at hm
  obtain ⟨(rfl | rfl) | rfl, _⟩ := hm
  · refine pe_methG PySem.F.slot_str_join PySem.F.type_str_join mt_join ho (baseOk hb) he hp hl fun G H z ws vs s Q sub ts e k => ?_
    unfold Pf.W.meth at e
    rw [if_pos rfl] at e
    split at e
    · rename_i s' xs' hz
      cases hz
      obtain ⟨zs, e3, e4⟩ := Option.bind_eq_some_iff.mp e
      split at e4
      · rename_i hlen
        cases e4
        obtain ⟨y, rfl, t1⟩ := topL1 ts
        obtain ⟨b, vs, rfl, h1, r1⟩ := t1.lst sub
        rw [r1.strs e3] at h1
        exact ⟨z, b, zs, rfl, rfl, .inl (SqL.of h1), hlen, k _ G H (.refl sub) (.str _)⟩
      · cases e4
    · cases e
  · refine pe_methG PySem.F.slot_str_split PySem.F.type_str_split mt_split ho (baseOk hb) he hp hl fun G H z ws vs s Q sub ts e k => ?_
    unfold Pf.W.meth at e
    rw [if_neg (by decide +kernel), if_pos rfl] at e
    split at e
    · rename_i s' b' hz
      cases hz
      split at e
      · rename_i hc
        cases e
        obtain ⟨y, rfl, t1⟩ := topL1 ts
        cases t1.str
        exact ⟨z, b', rfl, rfl, by simpa using hc.1, hc.2, fun p hp => k _ G _ (.alloc sub hp) ⟨p, rfl, hp, gnone sub hp, _, upd_same, strs_repl _⟩⟩
      · cases e
    · cases e
  · refine pe_methG PySem.F.slot_str_count PySem.F.type_str_count mt_count ho (baseOk hb) he hp hl fun G H z ws vs s Q sub ts e k => ?_
    unfold Pf.W.meth at e
    rw [if_neg (by decide +kernel), if_neg (by decide +kernel), if_pos rfl] at e
    split at e
    · rename_i s' b' hz
      cases hz
      cases e
      obtain ⟨y, rfl, t1⟩ := topL1 ts
      cases t1.str
      exact ⟨z, b', rfl, rfl, k _ G H (.refl sub) (.int _)⟩
    · cases e
end Pf

-- PfKey
/-! Pf: sorted(xs, key=f), f a def that gives its argument's first item. -/
namespace Pf
open PySem PySem.Spec PyProof.Rows L2
/-- the def at f, called with a tuple, gives its first item and changes nothing -/
def KeyFn (P : Program) (w : World) (K : PySem.W.Frag) (f : Addr) : Prop :=
  ∀ (A : Around) (s : Shared) (E : Value → Shared → Prop) (t : Addr) (its : Array Value) (u : Value), K.In s.heap → s.heap.NoLimit → A.depth < recursionLimit → IsTup s.heap t its → its.size ≤ sizeLine → its[0]? = some u →
    wpAny (model P w) A (call (.ref f) [.ref t]) (fun v s' => v = u ∧ ∃ h' tk, s' = { s with heap := h', toks := tk } ∧ ∀ b o, s.heap.get? b = some o → h'.get? b = some o) E s
/-- the text of such a def -/
def isFirstD (st : Stmt) (ps : List Str) : Bool := match defBody st, ps with
  | [.Return (some (.Subscript (.Name x _) (.Constant (.int i) _ _) _)) _], [y] =>
    decide (x = y) && decide (i = 0) && decide ((defScope st).names.lookup y = some .local) && !(x == ("__debug__" : Str))
  | _, _ => false
theorem firstD_of {st : Stmt} {ps : List Str} (h : isFirstD st ps = true) : ∃ (y : Str) (j2 : Nat) (p3 p4 p5 p6 : Pos), defBody st = [.Return (some (.Subscript (.Name y p3) (.Constant (.int 0) j2 p4) p5)) p6] ∧ ps = [y] ∧
    (defScope st).names.lookup y = some .local ∧ (y == ("__debug__" : Str)) = false := by
  unfold isFirstD at h
  split at h
  · rename_i e1
    simp only [Bool.and_eq_true, decide_eq_true_eq, Bool.not_eq_true'] at h
    obtain ⟨⟨⟨h1, h2⟩, h3⟩, h4⟩ := h
    subst h1
    subst h2
    exact ⟨_, _, _, _, _, _, e1, rfl, h3, h4⟩
  · cases h
theorem keyFn_of {P : Program} {w : World} {K : PySem.W.Frag} {x : Str} {st : Stmt} {f : Addr} {fd : FuncData} {N ps : List Str} (F : Fun K x x st f fd) (S : FnScope N ps (defScope st)) (hb : ∀ (s : Shared) (us : List Value), us.length = ps.length → BindsTo s fd ⟨us, []⟩ (ps.zip us)) (h : isFirstD st ps = true) : KeyFn P w K f := by
  obtain ⟨y, j2, p3, p4, p5, p6, eb, rfl, hy, hdb⟩ := firstD_of h
  obtain ⟨oc, od, kV, doc, pm, an, cdv, ct, osl, rfl, lk, hcd⟩ := F.ex
  intro A s E t its u KX lim hdep ht hsz hu
  have hkind : ∀ z ∈ [y].zip [Value.ref t], (defScope st).names.lookup z.1 = some .local ∨ ((defScope st).names.lookup z.1 = some .cell ∧ ((cellsFrom (s.heap.objs.size + 1) (defScope st).names []).lookup z.1).isSome = true) := fun z hz => by
    have e : z = (y, Value.ref t) := by simpa using hz
    rw [e]
    exact .inl hy
  refine wpAny_call (codeAny_call_function hdep (KX _ _ lk) rfl S.co S.gen rfl (PySem.W.codeRec_of KX hcd) (hb s [.ref t] rfl _ _ _ _ ?_))
  refine wpAny_newFunctionEnv_cells S.kind hkind fun env he s1 c => ?_
  subst he
  refine ⟨lim.keeps c.toInCall.keep, codeAny_func ?_⟩
  obtain ⟨h1, tk, rfl, hk⟩ := c.done
  have hl : (newEnv (defScope st) s.heap.objs.size mainGlobals (cellsFrom (s.heap.objs.size + 1) (defScope st).names []) (x ++ ".<locals>.") (some f) cdv none builtinsNs).kindOf y = some .local := hy
  show wpAny _ _ (execs (defBody st) _) _ _ _
  rw [eb]
  refine wpAny_execs_cons (wpAny_Return_some (Subscript_ (wpAny_Name (wpAny_loadName_local (m := bindL _ [(y, Value.ref t)] fun _ => none) S.kind hl c.toInCall.ns (v := .ref t) ?_ (wpAny_Constant_int ?_)) hdb)))
  · show bindL _ [(y, Value.ref t)] (fun _ => none) y = some (.ref t)
    unfold bindL
    rw [hl]
    simp [bindL]
  · have ht' : IsTup h1 t its := by
      obtain ⟨o, e1, e2⟩ := ht
      exact ⟨o, hk _ _ e1, e2⟩
    have hlt : 0 < its.size := by
      rcases Nat.eq_zero_or_pos its.size with z | z
      · rw [Array.getElem?_eq_none (by omega)] at hu
        cases hu
      · exact z
    refine subscriptTail_builtinR (x := u) (T := "tuple") ht'.typeIs PySem.F.slot_tuple_getitem.lookup (getItem_tuple (j := 0) (x := u) ht' (by decide) (by decide) ?_ hu ⟨rfl, ?_⟩) rfl
    · unfold seqIndex?
      simp [hlt]
    · exact ⟨rfl, _, _, rfl, hk⟩
/-! ### the sort -/
variable {X : Cx} {F : Fr0} {U : WX}
theorem hasKey_rep {K : PySem.W.Frag} {mg : Str → Option Value} {G : Hp} {v : V} {w : W} (h : Rep K mg G v w) (k : hasKey w = true) : ∃ a vs, v = .ref a ∧ G a = some (.tup (.int (keyI w) :: vs)) := by
  unfold hasKey at k
  split at k
  · cases h with
    | tup h r =>
      cases r with
      | cons q r =>
        cases q
        exact ⟨_, _, rfl, h⟩
  · cases k
theorem all_mem {α : Type} {f : α → Bool} {l : List α} (h : l.all f = true) {x : α} (m : x ∈ l) : f x = true := List.all_eq_true.mp h x m
/-- sorted(xs, key=f) -/
theorem sortKey_ok {f : Addr} (hf : KeyFn X.prog X.w X.K f) (hd : X.A.depth + 2 < recursionLimit) (hu : X.A.units + 65 < cLine) :
    CallRK X (.builtin "sorted") [Str.ofString "key"] (fun vs zs H Q => zs = [.ref f] ∧ ∃ x G w s, vs = [x] ∧ Sub G H ∧ Top X.K X.mg G H x w ∧ W.srtKey w = some s ∧ ∀ v G' H', Grow G H G' H' → SlNew X.K X.mg H G' H' v s → Q v H') := by
  intro pins st σ H xs zs us ws Q I r rz h
  obtain ⟨rfl, x, G, w, s, rfl, sub, tx, e, q⟩ := h
  unfold W.srtKey at e
  split at e
  · rename_i bs
    split at e
    · rename_i ho
      cases e
      obtain ⟨a, vs, rfl, h1, r1⟩ := tx.lst sub
      obtain ⟨its, rv, hl, hz⟩ := I.list (SqL.of h1)
      rw [Vals.ref1 r]
      have ez : ws = [Value.ref f] := Vals.ref1 rz
      subst ez
      show wpAny _ X.A (call (.builtin "sorted") [.ref a] [(Str.ofString "key", .ref f)]) _ _ st
      refine PySem.W.sorted_key_data (b := false) (R := fun u b => ∃ v, RelV v u ∧ Rep X.K X.mg G v b) (bs := bs) (fun b => .int (keyI b)) hl.isList (eachRep rv r1) ?_ ?_ (by rw [← r1.length]; exact hz) (fun b hb => ?_) (ksk_s1 _ _) (fun _ => ksk_l1 _ _) (fun _ => ksk_t1 _ _)
        (fun v b ⟨v', hv, hr⟩ hb h tk kp => ?_) fun out c h' tk kp hn hD hlen hR => ?_
      · intro d hd d' hd'
        obtain ⟨b, _, rfl⟩ := List.mem_map.mp hd
        obtain ⟨b', _, rfl⟩ := List.mem_map.mp hd'
        rfl
      · exact .inr fun d hd => by
          obtain ⟨b, _, rfl⟩ := List.mem_map.mp hd
          exact ⟨(fun z => nomatch z), (fun _ z => nomatch z)⟩
      · show X.A.units + 2 + 0 < cLine
        omega
      · obtain ⟨t, ts, rfl, hg⟩ := hasKey_rep hr (all_mem ho hb)
        have ev : v = Value.ref t := hv
        subst ev
        obtain ⟨its', rv', p', hz'⟩ := I.tuple (SqT.of (sub _ _ hg))
        have p2 : IsTup h t its'.toArray := by
          obtain ⟨o, e1, e2⟩ := p'
          exact ⟨o, kp _ _ e1, e2⟩
        cases rv' with
        | cons q1 q2 =>
          obtain ⟨tk1, rfl⟩ := q1
          refine wpAny_mono (hf X.A.in1.in1 { st with heap := h, toks := tk } _ t _ _ (I.kIn.keeps kp) (I.nolimit.keeps kp) ?_ p2 ?_ rfl) (fun v' s' ⟨e1, h2, tk2, e2, k2⟩ => ?_) fun _ _ z => z
          · show X.A.depth < recursionLimit
            omega
          · have l2 := q2.length
            have hz2 : (V.int (keyI b) :: ts).length ≤ sizeLine := hz'
            simp only [List.size_toArray, List.length_cons] at hz2 ⊢
            omega
          · subst e1
            exact ⟨h2, tk2, e2, k2, .int _ _⟩
      · obtain ⟨vs', v1, v2⟩ := eachBack hR
        have hl2 : vs'.length ≤ sizeLine := by
          rw [v1.length, hlen, ← r1.length]
          exact hz
        have nf : H (st.heap.objs.size + 1) = none := I.hok.fresh (Nat.le_succ _)
        refine ⟨.ref _, upd H (st.heap.objs.size + 1) (.lst vs'), I.laid (t' := tk) kp (Nat.le_succ _) ⟨hl2, out, c, v1, hD⟩, rfl, ?_⟩
        rw [PySem.W.dataLe_int] at v2
        exact q _ G _ (.alloc sub nf) ⟨_, rfl, nf, gnone sub nf, _, upd_same, v2⟩
    · cases e
  · cases e
theorem pe_srtKE {f : Str} {a : Expr} {p pk pf pos : Pos} {c : Addr} {ma : M Pl} (hf : KeyFn X.prog X.w X.K c) (hd : X.A.depth + 2 < recursionLimit) (hu : X.A.units + 65 < cLine) (hg : Gl X "sorted") (hm : X.mg "sorted" = none) (hgf : Gl X f) (hmf : X.mg f = some (.ref c)) (hdf : (f == ("__debug__" : Str)) = false)
    (hp : plainX a = true) (ha : PE X a (tP X F U ma)) : PE X (.Call (.Name "sorted" p) [a] [⟨some "key", .Name f pf, pk⟩] pos) (tE X F U (srtKE ma)) := by
  refine (pe_callBK (x := "sorted") (id := "sorted") (ks := [Str.ofString "key"]) (sortKey_ok hf hd hu) hg hm (by decide +kernel) (pa_cons ha pa_nil (star_of hp)) (pk_cons (nm := some "key") (pe_glob (v := .ref c) hgf hmf rfl hdf) pk_nil) (by decide) (by decide) (by rw [star_of hp]; rfl) (plainAll X.env pos [a] (by simp [hp])).1).imp fun σ H Q h => ?_
  obtain ⟨G, ρ, r, p1⟩ := run_un h
  refine ⟨G, ρ, r, ?_⟩
  cases e1 : ma ρ with
  | bad => rw [e1] at p1; exact p1
  | exc C ρ' => rw [e1] at p1; exact p1
  | ok pa ρ' =>
    rw [e1] at p1
    intro x G' H' s1 r1 q1
    obtain ⟨G2, w, s, sub, t, e, k⟩ := p1 x G' H' s1 r1 q1
    exact ⟨rfl, x, G2, w, s, rfl, sub, t, e, k⟩
end Pf

-- PfHot
set_option maxHeartbeats 2000000
/-! Pf: zip's end while an exception is handled. -/
namespace Pf
open PySem PySem.Spec PyProof.Rows L2 HotX
section
variable {prog : Program} {w : World} {A : Around} {E : Value → Shared → Prop} {s : Shared}
theorem hotOf {x1 : Addr} {h h' : Heap} {A' : Around} (x : HotAt A x1 h) (e : A'.handled = A.handled) (k : ∀ o, h.get? x1 = some o → h'.get? x1 = some o) : HotAt A' x1 h' := by
  obtain ⟨h1, o, vs, h2, h3⟩ := x
  exact ⟨e.trans h1, o, vs, k _ h2, h3⟩
theorem hotLt {x1 : Addr} {h : Heap} (x : HotAt A x1 h) : x1 < h.objs.size := by
  obtain ⟨_, _, _, h2, _⟩ := x
  exact Heap.lt_size h2
theorem nextOf_end_hot {x1 it l : Addr} {i : Nat} {items : Array Value} {Q : Value → Shared → Prop} (hot : HotAt A x1 s.heap) (hne : x1 ≠ it)
    (hit : s.heap.IsListIter it l i) (hl : s.heap.IsList l items) (hx : items[i]? = none)
    (hE : ∀ h' e, Heap.ExtBut it s.heap h' → (∃ o, h'.get? e = some o ∧ o.cls = .type "StopIteration") → E (.ref e) { s with heap := h' }) :
    wpAny (model prog w) A (Builtin.SmallTypes.nextOf (.ref it)) Q E s := by
  obtain ⟨o, ho, hc, hd⟩ := id hit
  obtain ⟨ol, hol, _, nl, hdl⟩ := hl
  unfold Builtin.SmallTypes.nextOf
  refine wpAny_bind (wpAny_callSpecial?_slot (name := Str.ofString "__next__") hit.typeIs slot_listiter_next (wpAny_call_entry slot_listiter_next hit.typeIs entry_listiter_next ?_ (args_listiter_next _)))
  refine show wpAny _ _ (field (.ref it) 0 >>= _) _ _ s from wpAny_bind (wpAny_field ho hd (x := .ref l) rfl ?_)
  show wpAny _ _ (if (Value.ref l == Value.none) = true then _ else _) _ _ s
  rw [if_neg (show ¬ ((Value.ref l == Value.none) = true) from Bool.false_ne_true)]
  refine show wpAny _ _ (field (.ref it) 1 >>= _) _ _ s from wpAny_bind (wpAny_field ho hd (x := .int i 0) rfl ?_)
  refine show wpAny _ _ (seqItems? (.ref l) >>= _) _ _ s from wpAny_bind (wpAny_seqItems hol hdl ?_)
  simp only [Int.toNat_natCast, hx]
  refine wpAny_bind (wpAny_rule (wpAny_bind (wpAny_setField ho hd (by simp) ?_)))
  refine show wpAny _ _ (newExc (.type "StopIteration") [] >>= _) _ _ _ from wpAny_bind ?_
  simp only [newExc, newTuple]
  refine wpAny_bind (wpAny_newObj_type ?_ (by size_fits))
  refine wpAny_bind (m := firstArgMember _ _) (wpAny_of_eq (a := Value.none) (by first | rfl | (simp only [firstArgMember]; rfl)) (wpAny_newObj_type ?_ (by size_fits)))
  have kx : ∀ {h : Heap} {f : Obj → Obj} (b : Addr) (u : Obj), b ≠ it → h.get? b = some u → (h.update it f).get? b = some u := fun {h f} b u hb e => (Heap.get?_update_ne _ _ _ _ hb).trans e
  refine raiseNew_hot (x1 := x1) (hotOf hot rfl fun u e => Heap.get?_push_of_some _ (Heap.get?_push_of_some _ (kx _ _ hne e))) ?_ (Heap.get?_push_size _ rfl) rfl (by first | (simp; done) | (simp; omega) | (simp only [Array.size_append]; simp; omega)) ?_
  · refine Nat.ne_of_lt (Nat.lt_of_lt_of_le (hotLt hot) ?_)
    simp only [Heap.size_push, Heap.size_update]
    omega
  · refine hE _ _ (fun b u hb e => ?_) ⟨_, Heap.get?_update_self _ (Heap.get?_push_size _ rfl) rfl, rfl⟩
    rw [Heap.get?_update_other _ _ (Nat.ne_of_gt (Nat.lt_of_lt_of_le (Heap.lt_size e) (by simp only [Heap.size_push, Heap.size_update]; omega)))]
    exact Heap.get?_push_of_some _ (Heap.get?_push_of_some _ (kx _ _ hb e))
theorem zip_end_hot {x1 z TI TO i1 i2 l1 l2 : Addr} {k1 k2 : Nat} {xs ys : Array Value} {a b : Value} {Q : PySem.Fin → Shared → Prop} (hot : HotAt A x1 s.heap) (n1 : x1 ≠ z) (n2 : x1 ≠ TO) (n3 : x1 ≠ i1) (n4 : x1 ≠ i2) (D : ZipApart z TI TO i1 i2 l1 l2)
    (hz : IsZip s.heap z TI TO .none) (hTI : IsPair s.heap TI (.ref i1) (.ref i2)) (hTO : IsPair s.heap TO a b)
    (h1 : s.heap.IsListIter i1 l1 k1) (h2 : s.heap.IsListIter i2 l2 k2) (hl1 : s.heap.IsList l1 xs) (hl2 : s.heap.IsList l2 ys) (hend : xs[k1]? = none ∨ ys[k2]? = none)
    (hE : ∀ h' e, (∀ c o, c ≠ z → c ≠ TO → c ≠ i1 → c ≠ i2 → s.heap.get? c = some o → h'.get? c = some o) → (∃ o, h'.get? e = some o ∧ o.cls = .type "StopIteration") → E (.ref e) { s with heap := h' }) :
    wpAny (model prog w) A (Builtin.«zip.__next__» ⟨[.ref z], []⟩) Q E s := by
  refine show wpAny _ _ (field (.ref z) 2 >>= _) _ _ _ from wpAny_bind (wpAny_field hz rfl (x := .bool false) rfl ?_)
  refine show wpAny _ _ (field (.ref z) 3 >>= _) _ _ _ from wpAny_bind (wpAny_field hz rfl (x := .ref TI) rfl ?_)
  refine wpAny_bind (wpAny_seqItems hTI rfl ?_)
  refine show wpAny _ _ (Builtin.SmallTypes.ownedTupleIsFree (.ref z) >>= _) _ _ _ from wpAny_bind ?_
  unfold Builtin.SmallTypes.ownedTupleIsFree
  refine wpAny_bind (wpAny_field hz rfl (x := .none) rfl (wpAny_pure ?_))
  simp only [if_true]
  refine wpAny_bind (wpAny_rule (wpAny_bind (wpAny_field hz rfl (x := .ref TO) rfl ?_)))
  refine wpAny_bind (wpAny_setField_rec hz (by simp) fun g1 hz1 s1 => ?_)
  replace hz1 : IsZip g1 z TI TO .ellipsis := hz1
  have hot1 : HotAt A x1 g1 := hotOf hot rfl fun o e => s1.extBut _ _ n1 e
  refine wpAny_bind ?_
  simp only [List.zipIdx_cons, List.zipIdx_nil, List.forIn_cons, List.forIn_nil]
  refine wpAny_bind (wpAny_bind (wpAny_onRaise (show wpAny _ _ (Builtin.SmallTypes.nextOf (.ref i1) >>= _) _ _ _ from ?_)))
  cases hx : xs[k1]? with
  | none =>
    refine wpAny_bind (nextOf_end_hot (x1 := x1) hot1 n3 (h1.extBut s1.extBut D.i1z) (hl1.extBut s1.extBut D.l1z) hx fun g2 e s2 he => ?_)
    obtain ⟨oe, hoe, hce⟩ := he
    have hz2 : IsZip g2 z TI TO .ellipsis := s2 _ _ D.i1z.symm hz1
    have hez : e ≠ z := fun q => by subst q; rw [hz2] at hoe; cases hoe; simp at hce
    exact wpAny_setField_rec hz2 (by simp) fun g3 _ s3 => hE g3 e (fun c o c1 _ c3 _ q => s3.extBut _ _ c1 (s2 _ _ c3 (s1.extBut _ _ c1 q))) ⟨oe, s3.extBut _ _ hez hoe, hce⟩
  | some x =>
    have hy : ys[k2]? = none := hend.resolve_left (by rw [hx]; exact fun q => nomatch q)
    refine wpAny_bind (wpAny_nextOf_list_item (h1.extBut s1.extBut D.i1z) (hl1.extBut s1.extBut D.l1z) hx fun g2 h1' s2 => wpAny_pure ?_)
    have hTO2 : IsPair g2 TO a b := s2.extBut _ _ D.TOi1 (s1.extBut _ _ D.TOz hTO)
    refine wpAny_bind (wpAny_seqItems hTO2 rfl (wpAny_bind (wpAny_updateSeq_pair hTO2 fun g3 hTO3 s3 => wpAny_bind (wpAny_letGo (wpAny_pure ?_)))))
    have hot3 : HotAt A x1 g3 := hotOf hot1 rfl fun o e => s3.extBut _ _ n2 (s2.extBut _ _ n3 e)
    refine wpAny_bind (wpAny_bind (wpAny_onRaise (show wpAny _ _ (Builtin.SmallTypes.nextOf (.ref i2) >>= _) _ _ _ from ?_)))
    refine wpAny_bind (nextOf_end_hot (x1 := x1) hot3 n4 (((h2.extBut s1.extBut D.i2z).extBut s2.extBut D.i12.symm).extBut s3.extBut D.TOi2.symm)
      (((hl2.extBut s1.extBut D.l2z).extBut s2.extBut D.l2i1).extBut s3.extBut D.l2TO) hy fun g4 e s4 he => ?_)
    obtain ⟨oe, hoe, hce⟩ := he
    have hz4 : IsZip g4 z TI TO .ellipsis := s4 _ _ D.i2z.symm (s3.extBut _ _ D.TOz.symm (s2.extBut _ _ D.i1z.symm hz1))
    have hez : e ≠ z := fun q => by subst q; rw [hz4] at hoe; cases hoe; simp at hce
    exact wpAny_setField_rec hz4 (by simp) fun g5 _ s5 => hE g5 e (fun c o c1 c2 c3 c4 q => s5.extBut _ _ c1 (s4 _ _ c4 (s3.extBut _ _ c2 (s2.extBut _ _ c3 (s1.extBut _ _ c1 q))))) ⟨oe, s5.extBut _ _ hez hoe, hce⟩
theorem next_zip_end_hot {x1 z TI TO i1 i2 l1 l2 : Addr} {k1 k2 : Nat} {xs ys : Array Value} {a b : Value} {Q : Option Value → Shared → Prop} (hot : HotAt A x1 s.heap) (n1 : x1 ≠ z) (n2 : x1 ≠ TO) (n3 : x1 ≠ i1) (n4 : x1 ≠ i2) (D : ZipApart z TI TO i1 i2 l1 l2)
    (hz : IsZip s.heap z TI TO .none) (hTI : IsPair s.heap TI (.ref i1) (.ref i2)) (hTO : IsPair s.heap TO a b)
    (h1 : s.heap.IsListIter i1 l1 k1) (h2 : s.heap.IsListIter i2 l2 k2) (hl1 : s.heap.IsList l1 xs) (hl2 : s.heap.IsList l2 ys) (hend : xs[k1]? = none ∨ ys[k2]? = none)
    (hQ : ∀ h', (∀ c o, c ≠ z → c ≠ TO → c ≠ i1 → c ≠ i2 → s.heap.get? c = some o → h'.get? c = some o) → Q none { s with heap := h' }) : wpAny (model prog w) A (pyNext (.ref z)) Q E s := by
  have hT : s.TypeIs (.ref z) "zip" := ⟨_, hz, rfl⟩
  unfold pyNext
  refine wpAny_bind (wpAny_attempt (wpAny_callSpecial?_slot (name := Str.ofString "__next__") hT PySem.F.slot_zip_next (wpAny_call_entry PySem.F.slot_zip_next hT PySem.F.entry_zip_next
    (zip_end_hot (x1 := x1) (hotOf hot rfl fun _ e => e) n1 n2 n3 n4 D hz hTI hTO h1 h2 hl1 hl2 hend fun h' e hk he => ?_) (PySem.F.args_zip_next_1 _))))
  obtain ⟨o, ho, hc⟩ := he
  exact wpAny_bind (wpAny_isInstance (T := "StopIteration") (b := true) ⟨o, ho, hc⟩ isSubtype_stop (wpAny_pure (hQ _ hk)))
end
end Pf

-- PfHot2
set_option maxHeartbeats 4000000
/-! Pf: unpacking, and comprehensions over a zip, while an exception is handled. -/
namespace Pf
open PySem PySem.Spec PyProof.Rows L2 HotX
open L2H (Hot1 RoomH PinOk)
section
variable {prog : Program} {w : World} {A : Around} {E : Value → Shared → Prop} {s : Shared}
theorem tupEndHot {x1 it t : Addr} {i : Nat} {us : Array Value} {Q : Option Value → Shared → Prop} (hot : HotAt A x1 s.heap) (hne : x1 ≠ it)
    (hi : IsTupIter s.heap it t i) (hu : IsTup s.heap t us) (hx : us[i]? = none)
    (hq : ∀ g, Heap.ExtBut it s.heap g → Q none { s with heap := g }) : wpAny (model prog w) A (pyNext (.ref it)) Q E s := by
  obtain ⟨oi, gi, ci, di⟩ := id hi
  obtain ⟨ou, gu, _, nu, du⟩ := hu
  unfold pyNext
  refine wpAny_bind (wpAny_attempt (wpAny_callSpecial?_slot (name := Str.ofString "__next__") hi.typeIs slot_tupleiter_next (wpAny_call_entry slot_tupleiter_next hi.typeIs entry_tupleiter_next ?_ (args_tupleiter_next _))))
  refine show wpAny _ _ (field (.ref it) 0 >>= _) _ _ s from wpAny_bind (wpAny_field gi di (x := .ref t) rfl ?_)
  refine show wpAny _ _ (if (Value.ref t == Value.none) = true then _ else _) _ _ s from ?_
  rw [if_neg (show ¬(Value.ref t == Value.none) = true from Bool.false_ne_true)]
  refine show wpAny _ _ (field (.ref it) 1 >>= _) _ _ s from wpAny_bind (wpAny_field gi di (x := .int i 0) rfl ?_)
  refine show wpAny _ _ (seqItems? (.ref t) >>= _) _ _ s from wpAny_bind (wpAny_seqItems gu du ?_)
  simp only [hx, Int.toNat_natCast]
  refine wpAny_bind (wpAny_rule (wpAny_bind (wpAny_setField gi di (by simp) ?_)))
  refine show wpAny _ _ (newExc (.type "StopIteration") [] >>= _) _ _ _ from wpAny_bind ?_
  simp only [newTuple, newExc]
  refine wpAny_bind (wpAny_newObj_type (wpAny_bind (m := firstArgMember _ _) (wpAny_of_eq (a := Value.none) (by first | rfl | (simp only [firstArgMember]; rfl)) (wpAny_newObj_type ?_ (by size_fits)))) (by size_fits))
  have kx : ∀ {h : Heap} {f : Obj → Obj} (b : Addr) (u : Obj), b ≠ it → h.get? b = some u → (h.update it f).get? b = some u := fun {h f} b u hb e => (Heap.get?_update_ne _ _ _ _ hb).trans e
  refine raiseNew_hot (x1 := x1) (hotOf hot rfl fun u e => Heap.get?_push_of_some _ (Heap.get?_push_of_some _ (kx _ _ hne e))) ?_ (Heap.get?_push_size _ rfl) rfl (by first | (simp; done) | (simp; omega) | (simp only [Array.size_append]; simp; omega)) ?_
  · refine Nat.ne_of_lt (Nat.lt_of_lt_of_le (hotLt hot) ?_)
    simp only [Heap.size_update, Heap.size_push]
    omega
  · refine wpAny_bind (wpAny_isInstance (T := "StopIteration") (b := true) ⟨_, Heap.get?_update_self _ (Heap.get?_push_size _ rfl) rfl, rfl⟩ isSubtype_stop (wpAny_pure (hq _ fun b u hb e => ?_)))
    rw [Heap.get?_update_other _ _ (Nat.ne_of_gt (Nat.lt_of_lt_of_le (Heap.lt_size e) (by simp only [Heap.size_update, Heap.size_push]; omega)))]
    exact Heap.get?_push_of_some _ (Heap.get?_push_of_some _ (kx _ _ hb e))
theorem asgTupHot {x1 : Addr} {env : PySem.Env} {es : List Expr} {k : Nat} {pos : Pos} {t : Addr} {us : Array Value} {Q : Unit → Shared → Prop} (hot : HotAt A x1 s.heap) (hu : IsTup s.heap t us)
    (hn : (assignEach es env).length = us.size) (hst : (assignEach es env).findIdx? (·.1) = none)
    (h : ∀ g, Heap.ExtBut s.heap.objs.size s.heap g → wpAny (model prog w) A (assignInOrder ((assignEach es env).map (·.2)) us.toList) Q E { s with heap := g }) :
    wpAny (model prog w) A (assign (.Tuple es k pos) env (.ref t)) Q E s := by
  have nt : t ≠ s.heap.objs.size := by obtain ⟨_, g, _⟩ := hu; exact Nat.ne_of_lt (Heap.lt_size g)
  rw [assign_Tuple]
  refine wpAny_bind (wpAny_standAt ?_)
  unfold unpack
  rw [hn, hst]
  refine wpAny_bind (wpAny_holding ?_)
  unfold unpackItems
  refine wpAny_bind ?_
  unfold notIterableAtAll
  refine wpAny_bind (wpAny_specialOf hu.typeIs slot_tuple_iter.lookup (wpAny_pure ?_))
  simp only [Bool.false_eq_true, if_false]
  refine wpAny_bind (wpAny_holding (iter_tuple hu (wpAny_bind (wpAny_holding (draw_tuple nt us.size 0 _ _ ⟨_, Heap.get?_push_size _ rfl, rfl, rfl⟩ (hu.push _) (by omega) fun g1 i1 s1 => ?_)))))
  have e1 : List.take us.size (List.drop 0 us.toList) = us.toList := by rw [List.drop_zero]; exact List.take_of_length_le (by simp)
  rw [e1, if_neg (by simp)]
  have u1 : IsTup g1 t us := (hu.push _).extBut s1.extBut nt
  have hot1 : HotAt A x1 g1 := hotOf hot rfl fun o e => s1.extBut _ _ (Nat.ne_of_lt (hotLt hot)) (Heap.get?_push_of_some _ e)
  refine wpAny_bind (wpAny_holding (tupEndHot (x1 := x1) hot1 (Nat.ne_of_lt (hotLt hot)) i1 u1 (by simp) fun g2 x2 => ?_))
  simp only [Bool.false_eq_true, if_false, Option.isSome_none]
  exact wpAny_pure (h g2 fun b o hb e => x2 b o hb (s1.extBut b o hb (Heap.get?_push_of_some _ e)))
end
/-- p's object is handled where X stands, and keeps standing -/
structure HotP (X : Cx) (p : Addr × Obj) : Prop where
  one : Hot1 X.A p
  ok : ∀ {pins : List (Addr × Obj)} {σ : L2.St} {H : Hp} {s : Shared}, Inv X pins σ H s → s.heap.get? p.1 = some p.2 ∧ H p.1 = none
theorem HotP.at {X : Cx} {p : Addr × Obj} (c : HotP X p) {pins : List (Addr × Obj)} {σ : L2.St} {H : Hp} {s : Shared} (I : Inv X pins σ H s) : HotAt X.A p.1 s.heap := by
  obtain ⟨h1, vs, h2, h3⟩ := c.one
  exact ⟨h1, p.2, vs, (c.ok I).1, h2, h3⟩
theorem hotP_pn {X : Cx} {p : Addr × Obj} (h : Hot1 X.A p) (hp : p ∈ X.pn) : HotP X p := ⟨h, fun I => by
  have q := I.pin p (List.mem_append_left _ hp)
  exact ⟨q.1, q.2.1⟩⟩
theorem hotP_blk {X : Cx} {p : Addr × Obj} (h : Hot1 X.A p) (hp : p ∈ X.pn) {pins : List (Addr × Obj)} {σ : L2.St} {H : Hp} {s : Shared} (I : Inv X pins σ H s) {scope : Scope} {ce : PySem.Env} {fp : List Addr} (hf : ∀ b ∈ fp, FpOk X pins H b) : HotP (X.blk s H scope ce fp) p := by
  have q := I.pin p (List.mem_append_left _ hp)
  have nf : p.1 ∉ fp := fun z => (hf _ z).2.2.2.2.2 p (List.mem_append_left _ hp) rfl
  have ns : p.1 ∉ frs X.stack := fun hm => (List.mem_cons.mp (I.stkSub p.1 hm)).elim q.2.2.1 q.2.2.2.1
  exact ⟨h, fun J => ⟨J.base.keep _ _ q.1 q.2.1 ns nf, J.base.free _ _ q.1 q.2.1 nf⟩⟩
/-- a, b = a pair, there -/
theorem pgTupHot {X : Cx} {p : Addr × Obj} (hp : HotP X p) {es : List Expr} {k n : Nat} {t : TGs} {pos : Pos} (h : PGs X es t) (hn : (assignEach es X.env).length = n) (hst : (assignEach es X.env).findIdx? (·.1) = none) : PG X (.Tuple es k pos) (gTup X.K n t) := by
  refine ⟨fun pins s σ H v u Q I r hw => ?_⟩
  obtain ⟨a, xs, rfl, hq, hl, hw⟩ := hw
  cases r
  obtain ⟨us, rv, ht, _⟩ := I.tuple hq
  have hl2 : us.length = n := by rw [← rv.length, hl]
  exact asgTupHot (hp.at I) ht (by simp [hn, hl2]) hst fun g hx => h.run pins _ σ H xs _ Q (I.kept (t' := s.toks) fun b o e => hx b o (Nat.ne_of_lt (Heap.lt_size e)) e) (by simpa using rv) hw
/-- an iterator's turns, there -/
structure TurnP (P : Program) (w : World) (K : PySem.W.Frag) (tg : Expr) (J : It) (fp : List Addr) (it : Addr) (tn : Nat → Heap → Prop) : Prop where
  obj : ∀ i h, tn i h → ∀ b ∈ fp, ∃ o, h.get? b = some o ∧ ∀ v, o.data ≠ .cell v
  keep : ∀ i h h', tn i h → (∀ b ∈ fp, ∀ o, h.get? b = some o → h'.get? b = some o) → tn i h'
  item : ∀ (X : Cx), X.prog = P → X.w = w → X.K = K → ∀ (i : Nat) (pins : List (Addr × Obj)) (s : Shared) (σ : L2.St) (H : Hp) (E : Value → Shared → Prop), Inv X pins σ H s → (∀ b ∈ fp, FpOk X pins H b) → tn i s.heap → J.go i H →
    wpAny (model P w) X.A (pyNext (.ref it)) (fun r t => ∃ u, r = some u ∧ wpAny (model P w) X.A (letOwnedTupleGo tg (.ref it) u) (fun _ t' => ∃ x H', Inv X pins σ H' t' ∧ RelV x u ∧ J.yld i H x H' ∧ tn (i + 1) t'.heap ∧ ∀ b ∈ fp, H' b = none) E t) E s
  done : ∀ (X : Cx) (p : Addr × Obj), X.prog = P → X.w = w → X.K = K → HotP X p → p.1 ∉ fp → ∀ (i : Nat) (pins : List (Addr × Obj)) (s : Shared) (σ : L2.St) (H : Hp) (E : Value → Shared → Prop), Inv X pins σ H s → (∀ b ∈ fp, FpOk X pins H b) → tn i s.heap → J.stop i H →
    wpAny (model P w) X.A (pyNext (.ref it)) (fun r t => r = none ∧ Inv X pins σ H t) E s
  self : ∀ (A : Around) (i : Nat) (s : Shared) (Q : Value → Shared → Prop) (E : Value → Shared → Prop), tn i s.heap → Q (.ref it) s → wpAny (model P w) A (pyIter (.ref it)) Q E s
theorem zipTurn {P : Program} {w : World} {K : PySem.W.Frag} {es : List Expr} {k : Nat} {tpos : Pos} {a b z TI TO i1 i2 : Addr} (D : ZipApart z TI TO i1 i2 a b) :
    TurnP P w K (.Tuple es k tpos) (Itz K a b) [z, TI, TO, i1, i2] z (fun i h => IsZip h z TI TO .none ∧ IsPair h TI (.ref i1) (.ref i2) ∧ (∃ x y, IsPair h TO x y) ∧ h.IsListIter i1 a i ∧ h.IsListIter i2 b i) := by
  have five : ∀ {c : Addr}, c ∈ [z, TI, TO, i1, i2] → c = z ∨ c = TI ∨ c = TO ∨ c = i1 ∨ c = i2 := fun h => by simpa using h
  have out : ∀ {c : Addr}, c ∉ [z, TI, TO, i1, i2] → c ≠ z ∧ c ≠ TI ∧ c ≠ TO ∧ c ≠ i1 ∧ c ≠ i2 := fun h => by simpa using h
  refine ⟨fun i h st c hc => ?_, fun i h h' st kk => ?_, ?_, ?_, fun A i s Q E st h => wpAny_pyIter_zip st.1 h⟩
  · obtain ⟨g1, g2, ⟨x, y, g3⟩, ⟨o1, g4, _, d1⟩, ⟨o2, g5, _, d2⟩⟩ := st
    rcases five hc with rfl | rfl | rfl | rfl | rfl
    · exact ⟨_, g1, fun v q => nomatch q⟩
    · exact ⟨_, g2, fun v q => nomatch q⟩
    · exact ⟨_, g3, fun v q => nomatch q⟩
    · exact ⟨o1, g4, fun v q => by rw [d1] at q; cases q⟩
    · exact ⟨o2, g5, fun v q => by rw [d2] at q; cases q⟩
  · obtain ⟨g1, g2, ⟨x, y, g3⟩, g4, g5⟩ := st
    exact ⟨kk z (by simp) _ g1, kk TI (by simp) _ g2, ⟨x, y, kk TO (by simp) _ g3⟩, g4.at fun o q => kk i1 (by simp) o q, g5.at fun o q => kk i2 (by simp) o q⟩
  · rintro X rfl rfl rfl i pins s σ H E I hf ⟨g1, g2, ⟨x0, y0, g3⟩, g4, g5⟩ ⟨xs, ys, x, y, qx, qy, hx, hy⟩
    obtain ⟨us1, rv1, p1, _⟩ := I.list qx
    obtain ⟨us2, rv2, p2, _⟩ := I.list qy
    obtain ⟨u1, hu1, ru1⟩ := rv1.get hx
    obtain ⟨u2, hu2, ru2⟩ := rv2.get hy
    have zl : z < s.heap.objs.size := Heap.lt_size g1
    refine wpAny_pyNext_zip_item D g1 g2 g3 g4 g5 p1.isList p2.isList (x := u1) (y := u2) (by simpa using hu1) (by simpa using hu2) fun h' z' TO' k1 k2 hT hsz hk => ?_
    refine ⟨_, rfl, wpAny_letOwnedTupleGo_zip (s := { s with heap := h' }) z' fun h2 z2 sb => ?_⟩
    have hT2 : h2.get? s.heap.objs.size = some { cls := .type "tuple", data := .seq #[u1, u2] } := (sb.2 _ (Nat.ne_of_gt zl)).trans hT
    have pr : ObjOk X.prog X.w (upd H s.heap.objs.size (.tup [x, y])) h2 s.heap.objs.size (.tup [x, y]) := ⟨show 2 ≤ sizeLine by decide, [u1, u2], .cons ru1 (.cons ru2 .nil), _, hT2, rfl, _, rfl⟩
    have J : Inv X pins σ (upd H s.heap.objs.size (.tup [x, y])) { s with heap := h2 } :=
      I.turnedNew (t' := s.toks) (ch := [z, TI, TO, i1, i2]) (fun c o hb q => by
        obtain ⟨n1, n2, n3, n4, n5⟩ := out hb
        exact (sb.2 c n1).trans (hk c o n1 n3 n4 n5 q)) hf (Nat.le_refl _) pr
    refine ⟨.ref s.heap.objs.size, _, J, rfl, ⟨_, x, y, rfl, I.hok.fresh (Nat.le_refl _), rfl, fun l hl => by rw [I.list_inj hl qx]; exact hx, fun l hl => by rw [I.list_inj hl qy]; exact hy⟩, ⟨z2, ?_, ⟨u1, u2, ?_⟩, ?_, ?_⟩, fun c hc => ?_⟩
    · exact (sb.2 _ D.TIz).trans (hk _ _ D.TIz D.TITO D.TIi1 D.TIi2 g2)
    · exact (sb.2 _ D.TOz).trans TO'
    · exact k1.at fun o q => (sb.2 _ D.i1z).trans q
    · exact k2.at fun o q => (sb.2 _ D.i2z).trans q
    · have lt : c < s.heap.objs.size := by
        obtain ⟨_, l4, _⟩ := g4
        obtain ⟨_, l5, _⟩ := g5
        rcases five hc with e | e | e | e | e
        · rw [e]; exact zl
        · rw [e]; exact Heap.lt_size g2
        · rw [e]; exact Heap.lt_size g3
        · rw [e]; exact Heap.lt_size l4
        · rw [e]; exact Heap.lt_size l5
      rw [upd_ne (Nat.ne_of_lt lt)]
      exact (hf c hc).1
  · rintro X p rfl rfl rfl hp np i pins s σ H E I hf ⟨g1, g2, ⟨x0, y0, g3⟩, g4, g5⟩ ⟨xs, ys, qx, qy, hend⟩
    obtain ⟨us1, rv1, p1, _⟩ := I.list qx
    obtain ⟨us2, rv2, p2, _⟩ := I.list qy
    have l1 := rv1.length
    have l2 := rv2.length
    have he : us1.toArray[i]? = none ∨ us2.toArray[i]? = none := hend.elim (fun q => .inl (by simp; omega)) fun q => .inr (by simp; omega)
    obtain ⟨n1, n2, n3, n4, n5⟩ := out np
    exact next_zip_end_hot (x1 := p.1) (hp.at I) n1 n3 n4 n5 D g1 g2 g3 g4 g5 p1.isList p2.isList he fun h' hk => ⟨rfl, I.turnedL (t' := s.toks) (ch := [z, TI, TO, i1, i2]) (fun c o hb q => by
      obtain ⟨n1, n2, n3, n4, n5⟩ := out hb
      exact hk c o n1 n3 n4 n5 q) hf⟩
def PIEP (X : Cx) (pins : List (Addr × Obj)) (σ : L2.St) (tg : Expr) (R : It → Hp → Prop) (itv : Value) (t : Shared) : Prop :=
  ∃ (it : Addr) (fp : List Addr) (tn : Nat → Heap → Prop) (J : It) (H' : Hp), itv = .ref it ∧ Inv X pins σ H' t ∧ TurnP X.prog X.w X.K tg J fp it tn ∧ tn 0 t.heap ∧ (∀ b ∈ fp, FpOk X pins H' b) ∧ R J H'
structure PIP (X : Cx) (tg iter : Expr) (wi : TI) : Prop where
  run : ∀ (pins : List (Addr × Obj)) (s : Shared) (σ : L2.St) (H : Hp) (R : It → Hp → Prop), Inv X pins σ H s → wi σ H R → wpAny (model X.prog X.w) X.A (eval iter X.env) (fun v t => wpAny (model X.prog X.w) X.A (pyIter v) (PIEP X pins σ tg R) X.xe t) X.xe s
theorem pipZip {X : Cx} {e e2 : Expr} {ta : TA} {q pos tpos : Pos} {es : List Expr} {k : Nat} (hg : Gl X "zip") (hm : X.mg "zip" = none) (ha : PA X [e, e2] ta)
    (hs : starEach [e, e2] X.env = (false, eval e X.env) :: starEach [e2] X.env) (hpl : (backTo pos (starEach [e2] X.env)).any (·.1) = false) :
    PIP X (.Tuple es k tpos) (.Call (.Name "zip" q) [e, e2] [] pos) (iZip X.K ta) := by
  refine ⟨fun pins s σ H R I h => Call_ (ld_blt I hg hm boot_zip (callWith_type1 (thn (ha.run pos pins s σ H _ I h) fun us t ⟨vs, H1, J, r, a, b, xs, ys, ev, qx, qy, hR⟩ => ?_) hs hpl))⟩
  subst ev
  cases r with
  | cons ra r => cases r with
    | cons rb r =>
      cases r
      cases ra
      cases rb
      obtain ⟨us1, _, p1, _⟩ := J.list qx
      obtain ⟨us2, _, p2, _⟩ := J.list qy
      refine call_zip_2 p1.isList p2.isList fun h' g1 g2 g3 g4 g5 hsz hk => wpAny_pyIter_zip g1 ?_
      refine ⟨t.heap.objs.size + 4, [t.heap.objs.size + 4, t.heap.objs.size + 2, t.heap.objs.size + 3, t.heap.objs.size, t.heap.objs.size + 1], _, _, H1, rfl, J.kept (t' := t.toks) hk, zipTurn (PySem.W.ktu_apart t.heap.objs.size a b p1.lt p2.lt), ⟨g1, g2, ⟨_, _, g3⟩, g4, g5⟩, fun c hc => ?_, hR⟩
      have le : t.heap.objs.size ≤ c := by
        have : c = t.heap.objs.size + 4 ∨ c = t.heap.objs.size + 2 ∨ c = t.heap.objs.size + 3 ∨ c = t.heap.objs.size ∨ c = t.heap.objs.size + 1 := by simpa using hc
        rcases this with e | e | e | e | e
        · rw [e]; exact Nat.le_add_right _ 4
        · rw [e]; exact Nat.le_add_right _ 2
        · rw [e]; exact Nat.le_add_right _ 3
        · rw [e]; exact Nat.le_refl _
        · rw [e]; exact Nat.le_add_right _ 1
      exact J.fpOk le (J.hok.fresh le)
end Pf

-- PfHot3
/-! Pf: a comprehension while an exception is handled. -/
namespace Pf
open PySem PySem.Spec PyProof.Rows L2 HotX
open L2H (Hot1 RoomH PinOk)
variable {X : Cx}
theorem lcHot {p : Addr × Obj} {elt tg iter : Expr} {ifs : List Expr} {scope : Scope} {own : List (Str × Nat)} {pos : Pos} {wi : TI} {g : TG} {tt : TT} {te : TE} (h1 : Hot1 X.A p) (hp : p ∈ X.pn) (hN : X.N.Nodup) (hi : PIP X tg iter wi) (bo : BlkOk X.N X.env.scope scope own)
    (hg : ∀ (s : Shared) (H : Hp) (C : Addr) (cl : List (Str × Addr)) (fp : List Addr), HotP (X.blk s H scope (compEnvC scope cl C X.env) fp) p → PG (X.blk s H scope (compEnvC scope cl C X.env) fp) tg g)
    (ht : ∀ (s : Shared) (H : Hp) (C : Addr) (cl : List (Str × Addr)) (fp : List Addr), PTs (X.blk s H scope (compEnvC scope cl C X.env) fp) ifs tt)
    (he : ∀ (s : Shared) (H : Hp) (C : Addr) (cl : List (Str × Addr)) (fp : List Addr), PE (X.blk s H scope (compEnvC scope cl C X.env) fp) elt te) (hs : ∀ x, foldedSetIterable iter X.env x = pure x) :
    PE X (.ListComp elt [⟨tg, iter, ifs, 0⟩] scope pos) (tLc wi g tt te (own.map (·.2))) := by
  refine ⟨fun pins s σ H Q I h => ?_⟩
  rw [eval_ListComp]
  have hfr : ∀ y ∈ scope.names, y.2 = .free → ∃ c, X.env.cells.lookup y.1 = some c := fun y hy e => (bo.free y hy e).elim (fun q => I.ok.has _ (.inl q)) fun q => I.ok.has _ (.inr q)
  refine wpAny_comprehension_free rfl hs (closure_ok hfr) bo.kind (fun y hy e => by rw [bo.uniq y hy, e]) (thn (hi.run pins s σ H _ I h) fun xv t1 hx => thn hx fun itv t2 q2 => ?_)
  obtain ⟨it, fp, tn, J, H2, rfl, I2, T, c2, f2, q⟩ := q2
  refine wpAny_newObj_type (newEnv_comp ?_) (Nat.zero_le _)
  generalize hD : t2.heap.objs.size = D
  obtain ⟨W, ⟨m0, w0⟩, turn⟩ := q D (I2.hok.fresh (Nat.le_of_eq hD))
  generalize ht3 : ({ t2 with heap := t2.heap.push { cls := .type "list", data := .seq ([] : List Value).toArray } } : Shared) = t3
  have J3 : Inv X pins σ (upd H2 D (.lst [])) t3 := by
    subst ht3
    refine I2.laid (t' := t2.toks) (fun b o e => Heap.get?_push_of_some _ e) (Nat.le_of_eq hD) ⟨Nat.zero_le _, [], 0, .nil, ?_⟩
    subst hD
    exact Heap.get?_push_size _ rfl
  have eh : t3.heap = t2.heap.push { cls := .type "list", data := .seq ([] : List Value).toArray } := by subst ht3; rfl
  have f3 : ∀ b ∈ fp, FpOk X pins (upd H2 D (.lst [])) b ∧ b < t3.heap.objs.size := fun b hb => by
    obtain ⟨ob, gb, _⟩ := T.obj _ _ c2 b hb
    have lt := Heap.lt_size gb
    refine ⟨⟨?_, (f2 b hb).2⟩, by rw [eh, Heap.size_push]; exact Nat.lt_succ_of_lt lt⟩
    rw [upd_ne (fun z => by rw [z, hD] at lt; exact Nat.lt_irrefl _ lt)]
    exact (f2 b hb).1
  have c3 : tn 0 t3.heap := T.keep _ _ _ c2 fun b _ o e => by rw [eh]; exact Heap.get?_push_of_some _ e
  have J4 := block_start J3 bo hN f3
  generalize hcl : cellsFrom (t3.heap.objs.size + 1) scope.names (cloFrom X.env.cells scope.names []) = cl at J4
  have pg := hg t3 (upd H2 D (.lst [])) t3.heap.objs.size cl fp
  have pt := ht t3 (upd H2 D (.lst [])) t3.heap.objs.size cl fp
  have pe := he t3 (upd H2 D (.lst [])) t3.heap.objs.size cl fp
  have hot : HotP (X.blk t3 (upd H2 D (.lst [])) scope (compEnvC scope cl t3.heap.objs.size X.env) fp) p := hotP_blk h1 hp J3 fun b hb => (f3 b hb).1
  have npf : p.1 ∉ fp := fun z => (f2 _ z).2.2.2.2.2 p (List.mem_append_left _ hp) rfl
  have nfp : ∀ b ∈ fp, (upd H2 D (.lst [])) b = none := fun b hb => (f3 b hb).1.1
  show codeAny _ _ (.compStart (.ListComp elt [⟨tg, iter, ifs, 0⟩] scope pos) 0 (.ref it) (.ref D) (compEnvC scope cl t3.heap.objs.size X.env)) (compPost (model X.prog X.w) X.A X.xe none _ (.ref D) t3.heap.objs.size) { t3 with heap := pushCells (t3.heap.push { cls := .type "dict", data := .dict #[] }) scope.names }
  have eL : (compEnvC scope cl t3.heap.objs.size X.env).locals = t3.heap.objs.size := rfl
  generalize compEnvC scope cl t3.heap.objs.size X.env = ce at J4 pg pt pe hot eL ⊢
  generalize upd H2 D (.lst []) = H3 at J3 J4 pg pt pe hot w0 nfp f3
  generalize ht4 : ({ t3 with heap := pushCells (t3.heap.push { cls := .type "dict", data := .dict #[] }) scope.names } : Shared) = t4 at J4 ⊢
  have c4 : tn 0 t4.heap := T.keep _ _ _ c3 fun b _ o e => by subst ht4; exact pushCells_keeps _ _ _ _ (Heap.get?_push_of_some _ e)
  have fpo : ∀ {σ' : L2.St} {H' : Hp} {t : Shared}, Inv (X.blk t3 H3 scope ce fp) [] σ' H' t → (∀ b ∈ fp, H' b = none) → ∀ b ∈ fp, FpOk (X.blk t3 H3 scope ce fp) [] H' b := fun {σ' H' t} I' hn b hb =>
    ⟨hn b hb, (I'.ok.exf b hb).1, I'.ok.exfs b hb, .inl hb, fun x c e => (I'.ok.exf b hb).2 x c e, fun q hq => by cases hq⟩
  have loop : codeAny (model X.prog X.w) X.A (.compLoop (.ListComp elt [⟨tg, iter, ifs, 0⟩] scope pos) 0 (.ref it) (.ref D) ce) (compPost (model X.prog X.w) X.A X.xe none (EP X pins σ Q) (.ref D) t3.heap.objs.size) t4 := by
    refine compLoop_any (fun n t => ∃ i H', Inv (X.blk t3 H3 scope ce fp) [] (wipe σ (own.map (·.2))) H' t ∧ tn i t.heap ∧ (∀ b ∈ fp, H' b = none) ∧ W i n H') ?_ m0 ⟨0, H3, J4, c4, nfp, w0⟩
    rintro n t5 ⟨i, H5, I5, c5, n5, w5⟩
    rcases turn i n H5 w5 with ⟨stop, qq⟩ | ⟨go, Nx, hNx, step⟩
    · refine thnF (T.done (X.blk t3 H3 scope ce fp) p rfl rfl rfl hot npf i [] t5 _ H5 (fun _ _ => False) I5 (fpo I5 n5) c5 stop) fun r t6 ⟨hr, I6⟩ => ?_
      subst hr
      have I7 : Inv X pins σ H5 t6 := J3.call' (ch := fp) I6.os I6.base I6.hok I6.bare fun b hb => ⟨(f3 b hb).1.2.2.2.1, (f3 b hb).1.2.1, (f3 b hb).1.2.2.2.2.1, (f3 b hb).1.2.2.2.2.2⟩
      have nC : H5 t3.heap.objs.size = none := by
        rw [← eL]
        exact I6.free
      obtain ⟨m, hn, _⟩ := I6.loc
      have hn2 : t6.heap.Ns t3.heap.objs.size m := by rw [← eL]; exact hn
      obtain ⟨k0, k1, k2, k3, k4, k5⟩ := J3.fpOk (b := t3.heap.objs.size) (Nat.le_refl _) nC
      exact ⟨m, hn2, fun h'' sb => ⟨.ref D, H5, I7.turned (t' := t6.toks) (fun b o hb e => (sb.2 b hb).trans e) k0 k1 k3 k4 k5, rfl, qq⟩⟩
    · refine thnF (T.item (X.blk t3 H3 scope ce fp) rfl rfl rfl i [] t5 _ H5 (fun _ _ => False) I5 (fpo I5 n5) c5 go) fun r t6 ⟨u, hr, q6⟩ => ?_
      subst hr
      refine thnF q6 fun _ t7 ⟨x, H7, I7, r7, y7, c7, n7⟩ => ?_
      refine thnF ((pg hot).run _ t7 _ H7 x u _ (I7.pinned (fpo I7 n7) (T.obj _ _ c7)) r7 (step x H7 y7)) fun _ t8 ⟨σ8, H8, I8, e8, q8⟩ => ?_
      refine thnF (pt.run _ t8 σ8 H8 _ I8 q8) fun b t9 ⟨H9, I9, q9⟩ => ?_
      have back : ∀ {t : Shared} {H' : Hp}, Inv (X.blk t3 H3 scope ce fp) ([] ++ pinsAt fp t7.heap) σ8 H' t → Nx H' → ∃ m, m < n ∧ ∃ i H', Inv (X.blk t3 H3 scope ce fp) [] (wipe σ (own.map (·.2))) H' t ∧ tn i t.heap ∧ (∀ b ∈ fp, H' b = none) ∧ W i m H' := fun {t H'} I' nx => by
        obtain ⟨m', lt, w'⟩ := hNx H' nx
        have pn : ∀ b ∈ fp, ∀ o, t7.heap.get? b = some o → t.heap.get? b = some o ∧ H' b = none := fun b hb o e => by
          have z := I'.pin (b, o) (List.mem_append_right _ (List.mem_append_right _ (mem_pinsAt hb e)))
          exact ⟨z.1, z.2.1⟩
        refine ⟨m', lt, i + 1, H', (I'.unpinned (pins := [])).weak (by rw [← e8, wipe_length]) (fun j v e => ?_), T.keep _ _ _ c7 fun b hb o e => (pn b hb o e).1, fun b hb => ?_, w'⟩
        · exact (wipe_some (by rw [e8]; exact e)).1
        · obtain ⟨o, e, _⟩ := T.obj _ _ c7 b hb
          exact (pn b hb o e).2
      cases b with
      | false =>
        rw [if_neg Bool.false_ne_true] at q9
        exact back I9 q9
      | true =>
        rw [if_pos rfl] at q9
        exact thnF (pe.run _ t9 σ8 H9 _ I9 q9) fun z t10 ⟨yv, H10, I10, r10, acc, hD10, hz10, nx⟩ => app_ok (X := X.blk t3 H3 scope ce fp) I10 hD10 hz10 r10 fun t11 I11 => back I11 nx
  exact codeAny_compStart_list loop (T.self X.A 0 _ _ _ c4 loop)
end Pf

-- PfSet
set_option maxHeartbeats 3200000
/-! Pf: set(xs) of a list: what the loop of the model's update leaves. -/
namespace Pf
open PySem PySem.Spec PyProof.Rows L2
/-- the set's object at its start -/
abbrev set0 (w : World) : Obj := { cls := .type "set", dict := none, data := .set #[] 0 (.fresh 0 0 (!w.params.followText "set-order")) }
/-- the list's iterator at its start -/
abbrev it0 (l : Addr) : Obj := { cls := .type "list_iterator", data := .fields #[.ref l, .int 0 0] }
abbrev setH (w : World) (l : Addr) (h : Heap) : Heap := (h.push (set0 w)).push (it0 l)
section
variable {P : Program} {w : World} {A : Around} {E : Value → Shared → Prop} {s : Shared}
/-- set(xs), by what its loop leaves -/
theorem set_made {l : Addr} {items : Array Value} {Q : Value → Shared → Prop} (Fin : Heap → Prop) (hh : A.handled = none) (hl : s.heap.IsList l items)
    (loop : ∀ (A' : Around) (s1 : Shared) (R : Result → Shared → Prop), A'.handled = none → A'.units ≤ A.units + 3 → s1.heap = setH w l s.heap →
      (∀ s', Moved [s.heap.objs.size, s.heap.objs.size + 1] (fun a b => b = a) s1 s' → Fin s'.heap → R (.ok (.ret .none)) s') →
      codeAny (model P w) A' (.builtin "set.update.loop" ⟨[.ref s.heap.objs.size, .ref (s.heap.objs.size + 1)], []⟩) R s1)
    (h : ∀ (h' : Heap) (tk : Nat), Fin h' → (∀ b o, s.heap.get? b = some o → h'.get? b = some o) → Q (.ref s.heap.objs.size) { s with heap := h', toks := tk }) :
    wpAny (model P w) A (call (.type "set") [.ref l]) Q E s := by
  obtain ⟨c, tl, hmro⟩ := F.called_set.mro
  have hmade := F.called_set.made
  have hsub := F.called_set.sub
  refine wpAny_call (codeAny_of_tree (show wpAny _ _ (callAny (.type "set") _) _ _ _ from ?_))
  refine wpAny_pure ⟨Code.quiet_builtin _ (by decide +kernel), codeAny_builtin F.entry_type_call ?_⟩
  rw [Around.under_plain (weight_type_call_type "set" [.ref l] []) rfl]
  have b1 := F.called_set.notType
  have b2 := F.called_set.canCreate
  have b3 := F.typeCall_set_1 (.ref l)
  repeat (any_goals (first | assumption | wp_step))
  refine codeAny_mono (code_set_led1 (.ref l) (E := E) (Q₁ := fun ob s1 => ob = .ref s.heap.objs.size ∧ s1 = { s with heap := s.heap.push (set0 w) }) ⟨rfl, rfl⟩) fun r s1 hr => ?_
  cases r with
  | error e => exact hr
  | ok fl =>
    cases fl with
    | ret ob =>
      obtain ⟨rfl, rfl⟩ := hr
      have hS : (s.heap.push (set0 w)).get? s.heap.objs.size = some (set0 w) := Heap.get?_push_size _ rfl
      have hT : Shared.TypeIs { s with heap := s.heap.push (set0 w) } (.ref s.heap.objs.size) "set" := ⟨_, hS, rfl⟩
      have b4 := F.called_set.init.lookup
      have b5 := F.called_set.init.bind (.ref s.heap.objs.size)
      repeat (any_goals (first | assumption | wp_step))
      refine codeAny_mono (codeAny_call_builtin (R := wants (fun r s2 => r = .none ∧ ∃ h' tk, s2 = { s with heap := h', toks := tk } ∧ Fin h' ∧ ∀ b o, s.heap.get? b = some o → h'.get? b = some o) E) F.called_set.init.plain F.entry_set_init (check_set_init_1 hT ?_)) fun r2 s2 hr2 => ?_
      · obtain ⟨ol, hol, hcl, nl, hdl⟩ := hl
        obtain ⟨ocls, odict, odata, oslots⟩ := ol
        simp only at hcl hdl
        subst hcl; subst hdl
        have hol2 : (s.heap.push (set0 w)).get? l = some { cls := .type "list", dict := odict, data := .seq items nl, slots := oslots } := Heap.get?_push_of_some _ hol
        have c1 := F.sub_list_set
        have c2 := F.sub_list_frozenset
        have c3 : (Value.type "list" == Value.type "dict") = false := by decide
        have hl1 : (s.heap.push (set0 w)).IsList l items := ⟨_, hol2, rfl, nl, rfl⟩
        unfold Builtin.«set.__init__» noKeywords Builtin.Frozenset.updateFrom
        generalize hPI : pyIter = PI
        wp_walk
        subst hPI
        refine wpAny_pyIter_list hl1 (wpAny_bind (wpAny_runValue ?_))
        have hz1 : (s.heap.push (set0 w)).objs.size = s.heap.objs.size + 1 := Heap.size_push ..
        rw [hz1]
        refine loop _ _ _ (by simp [hh]) (by show A.units + 1 + 1 ≤ A.units + 3; omega) rfl fun s' hm hF => ?_
        obtain ⟨h', g2, d', tk', os'⟩ := s'
        obtain rfl : g2 = s.gens := hm.gens
        obtain rfl : d' = s.drawn := hm.drawn
        obtain rfl : os' = s.os := hm.os
        show wpAny _ _ _ _ _ _
        refine wpAny_pure (show wpAny _ _ (ret Value.none) _ _ _ from ?_)
        refine wpAny_pure ⟨rfl, h', tk', rfl, hF, fun b o e => ?_⟩
        have hb := Heap.lt_size e
        exact hm.heap b o (by simp only [List.mem_cons, List.not_mem_nil, or_false, not_or]; exact ⟨Nat.ne_of_lt hb, Nat.ne_of_lt (Nat.lt_succ_of_lt hb)⟩) (Heap.get?_push_of_some _ (Heap.get?_push_of_some _ e))
      · cases r2 with
        | error e => exact hr2
        | ok fl2 =>
          cases fl2 with
          | ret r =>
            obtain ⟨rfl, h', tk, rfl, hF, hk⟩ := hr2
            repeat (any_goals (first | assumption | wp_step))
            exact h _ _ hF hk
          | _ => exact hr2.elim
    | _ => exact hr.elim
/-- .. of ints -/
theorem set_ints {l : Addr} {items : Array Value} (ns : List Int) {Q : Value → Shared → Prop} (hh : A.handled = none) (hl : s.heap.IsList l items) (hit : IntsAre items.toList ns) (hb : ns.length + 1 < scanBound)
    (h : ∀ (h' : Heap) (tk c : Nat), SetR w h' s.heap.objs.size (fun j => decide (j ∈ ns)) c → c ≤ ns.length → (∀ b o, s.heap.get? b = some o → h'.get? b = some o) → Q (.ref s.heap.objs.size) { s with heap := h', toks := tk }) :
    wpAny (model P w) A (call (.type "set") [.ref l]) Q E s := by
  have hsz : items.size = ns.length := by
    have q := IntsAre.length hit
    rw [Array.length_toList] at q
    exact q
  have hlS : l < s.heap.objs.size := by
    obtain ⟨o, e, _⟩ := hl
    exact Heap.lt_size e
  refine set_made (fun h' => ∃ c, SetR w h' s.heap.objs.size (fun j => decide (j ∈ ns)) c ∧ c ≤ ns.length) hh hl (fun A' s1 R hh' _ e1 hR => ?_) fun h' tk ⟨c, h1, h2⟩ hk => h h' tk c h1 h2 hk
  have hz1 : (s.heap.push (set0 w)).objs.size = s.heap.objs.size + 1 := Heap.size_push ..
  have hval : ∀ (i : Nat) (v : Value), items[i]? = some v → ∃ k t, ns[i]? = some k ∧ v = .int k t := fun i v hv => by
    have hi : i < ns.length := by rw [← hsz]; exact (Array.getElem?_eq_some_iff.mp hv).1
    obtain ⟨t, e⟩ := PyProof.Rows.IntsAre.int_at hit i v (by rw [Array.getElem?_toList]; exact hv)
    refine ⟨ns[i], t, List.getElem?_eq_getElem hi, ?_⟩
    rw [e, List.getD_eq_getElem?_getD, List.getElem?_eq_getElem hi] <;> rfl
  have g1 : s1.heap.get? (s.heap.objs.size + 1) = some (it0 l) := by
    rw [e1, ← hz1]
    exact Heap.get?_push_size _ rfl
  have g2 : s1.heap.get? s.heap.objs.size = some (set0 w) := by
    rw [e1]
    exact Heap.get?_push_of_some _ (Heap.get?_push_size _ rfl)
  have hl1 : s1.heap.IsList l items := by
    obtain ⟨o, e, r⟩ := hl
    exact ⟨o, by rw [e1]; exact Heap.get?_push_of_some _ (Heap.get?_push_of_some _ e), r⟩
  refine set_update_ints ((Walks.list (by simpa using hh') (s.heap.objs.size + 1) l (Nat.ne_of_lt (Nat.lt_succ_of_lt hlS)) items).toS) s.heap.objs.size
    (by simp only [List.mem_cons, List.not_mem_nil, or_false, not_or]; exact ⟨Nat.ne_of_lt (Nat.lt_succ_self _), Nat.ne_of_gt hlS⟩) ns hsz hb hval (items.size - 0) 0 s1 (by omega) (Nat.zero_le _)
    ⟨⟨_, g1, rfl, rfl⟩, hl1⟩ ⟨0, Nat.le_refl 0, setR_new_at g2⟩ fun s' c' hm hc' hS' => ?_
  exact hR s' hm ⟨c', hS', by omega⟩
/-- sorted(S), S a set: its members as a list, sorted -/
theorem sorted_set_any {β : Type} {enc : β → PyData} {R : Value → β → Prop} {a : Addr} {es : Array (Int × Value)} {ep : Nat} {t : SetTable} {bs : List β} {Q : Value → Shared → Prop} (hh : A.handled = none) (ha : SetAt s.heap a es ep t) (hf : t.fits es.size = true) (hsz : es.size < scanBound) (r : Ris t.place.toList)
    (hl : w.params.followText "set-order" = true ∨ t.led = true) (hR : ∀ vs : List Value, vs.Perm (es.toList.map (·.2)) → ∃ cs : List β, cs.Perm bs ∧ PySem.W.EachIs R vs cs) (hRd : ∀ (v : Value) (b : β), R v b → b ∈ bs → ∃ as, Reads s.heap v (enc b) as)
    (hal : PySem.W.AllAlike (bs.map enc)) (hk : PySem.W.Sortable (bs.map enc)) (hu : ∀ b ∈ bs, A.units + 2 + (enc b).depth < cLine)
    (h : ∀ (cs : List β) (s' : Shared) (p : Addr) (out : List Value) (c : Nat), cs.Perm bs → (∀ b o, s.heap.get? b = some o → s'.heap.get? b = some o) → s'.gens = s.gens → s'.os = s.os → s.heap.objs.size ≤ p → s'.heap.get? p = some (seqObj "list" out.toArray c) →
      PySem.W.EachIs R out (cs.mergeSort (PySem.W.dataLe false enc)) → Q (.ref p) s') :
    wpAny (model P w) A (call (.builtin "sorted") [.ref a]) Q E s := by
  refine Calls.call_function_entry kind_sorted plain_sorted entry_sorted (args_sorted1 _) ?_
  unfold Builtin.«sorted»
  refine wpAny_bind (m := checkCount "sorted" 1 1 _) (wpAny_pure (wpAny_bind (collect_set (A := A.in1) hh ha hf hsz r hl fun s1 vs k1 hz g1 o1 pm => ?_)))
  obtain ⟨cs, pc, ec⟩ := hR vs pm
  have hvl : vs.length = es.size := by rw [pm.length_eq, List.length_map, Array.length_toList]
  have hvz : vs.length ≤ sizeLine := by
    have : scanBound ≤ sizeLine := by decide
    omega
  refine wpAny_bind (wpAny_newList ?_ hvz)
  have hoL : (s1.heap.push (seqObj "list" vs.toArray 0)).get? s1.heap.objs.size = some (seqObj "list" vs.toArray 0) := Heap.get?_push_size _ rfl
  have sub : ∀ b ∈ cs, b ∈ bs := fun b hb => pc.mem_iff.mp hb
  have al : PySem.W.AllAlike (cs.map enc) := fun d hd d' hd' => by
    obtain ⟨b, hb, rfl⟩ := List.mem_map.mp hd
    obtain ⟨b', hb', rfl⟩ := List.mem_map.mp hd'
    exact hal _ (List.mem_map.mpr ⟨b, sub b hb, rfl⟩) _ (List.mem_map.mpr ⟨b', sub b' hb', rfl⟩)
  have sk : PySem.W.Sortable (cs.map enc) := by
    rcases hk with hk | hk
    · exact .inl fun d hd => by
        obtain ⟨b, hb, rfl⟩ := List.mem_map.mp hd
        exact hk _ (List.mem_map.mpr ⟨b, sub b hb, rfl⟩)
    · exact .inr fun d hd => by
        obtain ⟨b, hb, rfl⟩ := List.mem_map.mp hd
        exact hk _ (List.mem_map.mpr ⟨b, sub b hb, rfl⟩)
  refine wpAny_bind (wpAny_holding (PySem.W.list_sort_data (s := { s1 with heap := s1.heap.push (seqObj "list" vs.toArray 0) }) hoL ec ?_ al sk (by rw [← ec.length]; exact hvz) (fun b hb => ?_) fun out ho eo => ?_))
  · have kg : ∀ b o, s.heap.get? b = some o → (s1.heap.push (seqObj "list" vs.toArray 0)).get? b = some o := fun b o e => Heap.get?_push_of_some _ (k1 b o e)
    generalize s1.heap.push (seqObj "list" vs.toArray 0) = g at kg
    have go : ∀ {vs : List Value} {cs : List β}, PySem.W.EachIs R vs cs → (∀ b ∈ cs, b ∈ bs) → PySem.W.EachIs (fun v b => ∃ as, Reads g v (enc b) as ∧ s1.heap.objs.size ∉ as) vs cs := by
      intro vs cs h
      induction h with
      | nil => intro _; exact .nil
      | cons h _ ih =>
        intro m
        refine .cons ?_ (ih fun b hb => m b (List.mem_cons_of_mem _ hb))
        obtain ⟨as, ra⟩ := hRd _ _ h (m _ List.mem_cons_self)
        refine ⟨as, PyProof.Rows.Reads.keeps kg ra, fun z => ?_⟩
        obtain ⟨o, e⟩ := PyProof.On.reads_mem_get ra _ z
        exact absurd (Heap.lt_size (k1 _ _ e)) (Nat.lt_irrefl _)
    exact go ec sub
  · have := hu b (sub b hb)
    show A.units + 1 + 1 + _ < _
    omega
  · obtain ⟨c, hc⟩ := sortedHeap_at (vs := vs) (out := out.toArray) hoL
    refine wpAny_pure ⟨_, rfl, h cs _ s1.heap.objs.size out c pc (fun b u e => ?_) g1 o1 hz hc eo⟩
    have q := k1 b u e
    have hlt := Heap.lt_size q
    show (sortedHeap (s1.heap.push (seqObj "list" vs.toArray 0)) s1.heap.objs.size vs out.toArray).get? b = some u
    rw [sortedHeap_old (Nat.ne_of_lt hlt) (by rw [size_push']; exact Nat.lt_succ_of_lt hlt)]
    exact Heap.get?_push_of_some _ q
end

/-! ### the evaluator's words -/
def nubI : List Int → List Int
  | [] => []
  | n :: ns => if n ∈ nubI ns then nubI ns else n :: nubI ns
theorem mem_nubI {k : Int} : ∀ {ns : List Int}, k ∈ nubI ns ↔ k ∈ ns
  | [] => Iff.rfl
  | n :: ns => by
    unfold nubI
    split
    · rename_i h
      rw [mem_nubI, List.mem_cons]
      exact ⟨.inr, fun z => z.elim (fun e => e ▸ mem_nubI.mp h) id⟩
    · rw [List.mem_cons, List.mem_cons, mem_nubI]
theorem nodup_nubI : ∀ ns : List Int, (nubI ns).Nodup
  | [] => List.nodup_nil
  | n :: ns => by
    unfold nubI
    split
    · exact nodup_nubI ns
    · rename_i h
      exact List.nodup_cons.mpr ⟨h, nodup_nubI ns⟩
theorem nubW_int : ∀ ns : List Int, nubW (ns.map W.int) = (nubI ns).map W.int
  | [] => rfl
  | n :: ns => by
    show (if (nubW (ns.map W.int)).any (fun z => W.eqv z (.int n)) then nubW (ns.map W.int) else .int n :: nubW (ns.map W.int)) = _
    rw [nubW_int ns]
    have e : (((nubI ns).map W.int).any fun z => W.eqv z (.int n)) = decide (n ∈ nubI ns) := by
      rw [List.any_map, Bool.eq_iff_iff, List.any_eq_true, decide_eq_true_eq]
      constructor
      · rintro ⟨x, hx, e⟩
        have : x = n := by simpa [W.eqv] using e
        rw [← this]
        exact hx
      · intro h
        exact ⟨n, h, by simp [W.eqv]⟩
    have e2 : nubI (n :: ns) = if n ∈ nubI ns then nubI ns else n :: nubI ns := by rw [nubI]
    rw [e, e2]
    by_cases h : n ∈ nubI ns
    · rw [if_pos h, if_pos (by simpa using h)]
    · rw [if_neg h, if_neg (by simpa using h)]
      rfl
theorem ints_all : ∀ {ws : List W}, ws.all isInt = true → ∃ ns : List Int, ws = ns.map W.int
  | [], _ => ⟨[], rfl⟩
  | w :: ws, h => by
    rw [List.all_cons, Bool.and_eq_true] at h
    obtain ⟨ns, e⟩ := ints_all h.2
    cases w <;> first | (cases h.1; done) | skip
    rename_i i
    exact ⟨i :: ns, by rw [e]; rfl⟩
theorem srt_int (ns : List Int) : W.srt (ns.map W.int) = (ns.mergeSort fun a b => decide (a ≤ b)).map W.int := by
  unfold W.srt
  rw [List.map_mergeSort]
  intro a ha b hb
  have := congrFun (congrFun (PySem.W.dataLe_int (fun x : Int => x)) a) b
  exact this.symm
theorem sorted_unique {xs ys : List Int} (h1 : xs.Pairwise (· < ·)) (h2 : ys.Pairwise (· < ·)) (h : ∀ k, k ∈ xs ↔ k ∈ ys) : xs = ys := by
  induction xs generalizing ys with
  | nil =>
    cases ys with
    | nil => rfl
    | cons y ys => exact absurd ((h y).mpr List.mem_cons_self) (by simp)
  | cons x xs ih =>
    cases ys with
    | nil => exact absurd ((h x).mp List.mem_cons_self) (by simp)
    | cons y ys =>
      obtain ⟨a1, a2⟩ := List.pairwise_cons.mp h1
      obtain ⟨b1, b2⟩ := List.pairwise_cons.mp h2
      have e : x = y := by
        rcases List.mem_cons.mp ((h x).mp List.mem_cons_self) with e | e
        · exact e
        · rcases List.mem_cons.mp ((h y).mpr List.mem_cons_self) with e' | e'
          · exact e'.symm
          · have := b1 x e
            have := a1 y e'
            omega
      subst e
      rw [ih a2 b2 fun k => ?_]
      have := h k
      rw [List.mem_cons, List.mem_cons] at this
      constructor
      · intro hk
        rcases this.mp (.inr hk) with e | e
        · have := a1 k hk
          omega
        · exact e
      · intro hk
        rcases this.mpr (.inr hk) with e | e
        · have := b1 k hk
          omega
        · exact e
theorem strict_of {l : List Int} (nd : l.Nodup) : (l.mergeSort fun a b => decide (a ≤ b)).Pairwise (· < ·) := by
  have h := List.pairwise_mergeSort (le := fun a b : Int => decide (a ≤ b)) (fun a b c h1 h2 => by simp at *; omega) (fun a b => by simp; omega) l
  refine lt_of_le_nodup _ (h.imp fun h => of_decide_eq_true h) ?_
  exact (List.mergeSort_perm l _).nodup_iff.mpr nd
variable {X : Cx} {F : Fr0} {U : WX}
theorem eachInts : ∀ {us : List Value} {ns : List Int}, IntsAre us ns → PySem.W.EachIs (fun u (i : Int) => ∃ t, u = Value.int i t) us ns
  | _, _, .nil => .nil
  | _, _, .cons k t r => .cons ⟨_, rfl⟩ (eachInts r)
theorem eachIntsBack : ∀ {us : List Value} {ns : List Int}, PySem.W.EachIs (fun u (i : Int) => ∃ t, u = Value.int i t) us ns → Vals (ns.map V.int) us
  | _, _, .nil => .nil
  | _, _, .cons h r => .cons h (eachIntsBack r)
theorem intsRep {K : PySem.W.Frag} {mg : Str → Option Value} {G : Hp} : ∀ ns : List Int, RepL K mg G (ns.map V.int) (ns.map W.int)
  | [] => .nil
  | n :: ns => .cons (.int n) (intsRep ns)
/-- sorted(set(e)) -/
theorem pe_srtSetE {a : Expr} {p p2 q pos : Pos} {ma : M Pl} (hc : X.calm = true) (hu : X.A.units + 65 < cLine) (hg : Gl X "sorted") (hm : X.mg "sorted" = none) (hg2 : Gl X "set") (hm2 : X.mg "set" = none) (hp : plainX a = true) (ha : PE X a (tP X F U ma)) :
    PE X (.Call (.Name "sorted" p) [.Call (.Name "set" p2) [a] [] q] [] pos) (tE X F U (srtSetE ma)) := by
  refine ⟨fun pins s σ H Q I h0 => ?_⟩
  have h1 := run_un h0
  refine Call_ (ld_blt I hg hm boot_sorted (PyProof.Rows.callWith_builtin1 (PyProof.Rows.args_cons ?_ rfl) rfl rfl))
  refine Call_ (ld_blt I hg2 hm2 boot_set (PyProof.Rows.callWith_type1 (PyProof.Rows.args_cons (thn (ha.run pins s σ H _ I h1) fun v s1 ⟨x, H1, I1, r1, G, w, sl, sub, t, e, k⟩ => PyProof.Rows.args_nil ?_) (star_of hp)) (star_of hp) rfl))
  unfold W.srtSet at e
  split at e
  · rename_i ws
    split at e
    · rename_i hw
      cases e
      simp only [Bool.and_eq_true, decide_eq_true_eq] at hw
      obtain ⟨hw1, hw2⟩ := hw
      obtain ⟨ns, rfl⟩ := ints_all hw1
      obtain ⟨b, vs, rfl, e1, e2⟩ := t.lst sub
      have ev := ints_rep (ns := ns) e2 (by
        clear hw1 hw2 k e2 t
        induction ns with
        | nil => rfl
        | cons n ns ih => simp [intsOf, ih])
      subst ev
      obtain rfl : v = Value.ref b := r1
      obtain ⟨its, rv, pl, hz⟩ := I1.list (SqL.of e1)
      rw [List.length_map] at hw2
      refine set_ints ns (I1.ok.hd hc) pl.isList (by simpa using RZ.intsAre_vals rv) hw2 fun h' tk c hS hcl hk => PyProof.Rows.args_nil ?_
      obtain ⟨o, es, ep, tt, ho, hex, hd, g, nd, hmem, hb, hf, hn, hr, hl⟩ := hS
      have I2 : Inv X pins σ H1 { s1 with heap := h', toks := tk } := I1.kept hk
      refine sorted_set_any (β := Int) (enc := fun i => .int i) (R := fun u i => ∃ t, u = Value.int i t) (bs := nubI ns) (I1.ok.hd hc) ⟨o, ho, hex.1, hd⟩ hf hb hr hl (fun vs pm => ?_) (fun v i ⟨t, e⟩ _ => ⟨[], by rw [e]; exact .int _ _⟩) ?_ ?_ (fun i _ => ?_) fun cs s' p' out cc pc k' g' o' hp' hq' ec => ?_
      · have hI := ints_of vs fun v hv => by
          obtain ⟨e, he, q⟩ := List.mem_map.mp (pm.mem_iff.mp hv)
          obtain ⟨k, tk, h1, _⟩ := g e he
          exact ⟨k, tk, by rw [← q]; exact h1⟩
        refine ⟨_, ?_, eachInts hI⟩
        have q1 : (vs.map Builtin.Re.reRawOf).Perm (es.toList.map keyOf) := by
          have q := pm.map Builtin.Re.reRawOf
          rw [List.map_map] at q
          exact q
        refine q1.trans ((List.perm_ext_iff_of_nodup nd (nodup_nubI ns)).mpr fun k => ?_)
        rw [mem_nubI, ← hmem k, decide_eq_true_eq]
      · intro d hd d' hd'
        obtain ⟨b, _, rfl⟩ := List.mem_map.mp hd
        obtain ⟨b', _, rfl⟩ := List.mem_map.mp hd'
        rfl
      · exact .inr fun d hd => by
          obtain ⟨b, _, rfl⟩ := List.mem_map.mp hd
          exact ⟨(fun z => nomatch z), (fun _ z => nomatch z)⟩
      · show X.A.units + 2 + 0 < cLine
        omega
      · have hv := eachIntsBack ec
        rw [PySem.W.dataLe_int (fun x : Int => x)] at hv
        have eu : cs.mergeSort (fun a b => decide (a ≤ b)) = (nubI ns).mergeSort (fun a b => decide (a ≤ b)) := sorted_unique (strict_of (pc.nodup_iff.mpr (nodup_nubI ns))) (strict_of (nodup_nubI ns)) fun k => by
          rw [(List.mergeSort_perm cs _).mem_iff, (List.mergeSort_perm (nubI ns) _).mem_iff, pc.mem_iff]
        rw [eu] at hv
        have hn1 : H1 p' = none := I2.hok.fresh hp'
        have hlen : (((nubI ns).mergeSort fun a b => decide (a ≤ b)).map V.int).length ≤ sizeLine := by
          have h1 := (nodup_nubI ns).length_le_of_subset (l₂ := ns) fun k hk => mem_nubI.mp hk
          have : (4096 : Nat) ≤ sizeLine := by decide
          rw [List.length_map, (List.mergeSort_perm _ _).length_eq]
          omega
        refine ⟨.ref p', upd H1 p' (.lst (((nubI ns).mergeSort fun a b => decide (a ≤ b)).map V.int)), ?_, rfl, ?_⟩
        · refine I2.call' (ch := []) o' (Un.laid k' hp' hn1) (I2.hok.laid k' hp' ⟨hlen, out, cc, hv, hq'⟩) (by rw [g']; exact I2.bare) (fun _ z => nomatch z)
        · refine k _ G _ (.alloc sub hn1) ⟨p', rfl, hn1, gnone sub hn1, _, upd_same, ?_⟩
          rw [nubW_int, srt_int]
          exact intsRep _
    · cases e
  · cases e
end Pf

-- PfSound3
set_option maxHeartbeats 1000000
/-! Pf: calls of the text's own defs. -/
namespace Pf
open PySem PySem.Spec PyProof.Rows L2
variable {X : Cx} {F : Fr0} {U : WX} {α β γ δ : Type} {P : Hp → Hp → L2.St → Env → β → α → Prop} {P' : Hp → Hp → L2.St → Env → δ → γ → Prop} {G G1 H H1 : Hp} {σ : L2.St} {ρ ρ1 : Env}
/-- the frame of a call -/
def fr0 (G H : Hp) (A0 : Addr → Prop) (vs : List V) : Fr0 := ⟨G, H, A0, vs.length, [], vs.map some⟩
/-- what a def promises: what its function on plain values says -/
def spOf (K : PySem.W.Frag) (mg : Str → Option Value) (n : Nat) (φ : List Sl → CRes) : Sp := fun vs H Q E => vs.length = n ∧ ∃ G args A0, Rel K mg (fr0 G H A0 vs) G H (vs.map some) args ∧ match φ args with
  | .ret r outs => ∀ v G' H', Sub G G' → Rel K mg (fr0 G H A0 vs) G' H' (vs.map some) outs → SlRep K mg (fr0 G H A0 vs) G' H' (vs.map some) outs v r → Q v H'
  | .exc C outs => ∀ G' H', Sub G G' → Rel K mg (fr0 G H A0 vs) G' H' (vs.map some) outs → ∀ c, mg C = some (.ref c) → E (.ref c) none H'
  | .bad => False
theorem Paired.at {A B : Type} {R : A → B → Prop} : ∀ {xs : List A} {ys : List B} {j : Nat} {y : B}, Paired R xs ys → ys[j]? = some y → ∃ x, xs[j]? = some x ∧ R x y
  | _, _, _, _, .nil, h => by simp at h
  | _, _, 0, _, .cons r _, e => by
    simp at e
    subst e
    exact ⟨_, rfl, r⟩
  | _, _, j + 1, y, .cons _ t, e => by
    obtain ⟨x, h1, h2⟩ := Paired.at (j := j) (y := y) t (by simpa using e)
    exact ⟨x, by simpa using h1, h2⟩
theorem args_paired : ∀ {ps : List Pl} {ss : List Sl}, argsOf ρ ps = some ss → Paired (fun p s => argSl ρ p = some s) ps ss
  | [], ss, h => by
    cases h
    exact .nil
  | p :: ps, ss, h => by
    unfold argsOf at h
    cases e1 : argSl ρ p with
    | none => rw [e1] at h; cases h
    | some s =>
      cases e2 : argsOf ρ ps with
      | none => rw [e1, e2] at h; cases h
      | some ts =>
        rw [e1, e2] at h
        cases h
        exact .cons e1 (args_paired e2)
theorem argSl_d {p : Pl} {w : Pf.W} (h : argSl ρ p = some (.d w)) : p = .tm w ∨ ∃ i, p = .sl i ∧ ρ[i]? = some (.d w) := by
  unfold argSl at h
  split at h
  · rename_i i
    split at h
    · rename_i e
      cases h
      exact .inr ⟨i, rfl, e⟩
    · cases h
    · cases h
  · cases h
    exact .inl rfl
theorem argSl_o {p : Pl} {w : Pf.W} (h : argSl ρ p = some (.o w)) : ∃ i, p = .sl i ∧ ρ[i]? = some (.o w) := by
  unfold argSl at h
  split at h
  · rename_i i
    split at h
    · cases h
    · rename_i e
      cases h
      exact ⟨i, rfl, e⟩
    · cases h
  · cases h
theorem argSl_e {p : Pl} (h : argSl ρ p = some .e) : False := by
  unfold argSl at h
  split at h
  · split at h <;> cases h
  · cases h
theorem mem_ownIx {i : Nat} {w : Pf.W} (e : ρ[i]? = some (.o w)) : ∀ {ps : List Pl} {j : Nat}, ps[j]? = some (.sl i) → i ∈ ownIx ρ ps
  | [], j, h => by simp at h
  | p :: ps, 0, h => by
    simp at h
    subst h
    unfold ownIx
    rw [e]
    exact List.mem_cons_self
  | p :: ps, j + 1, h => by
    have ih := mem_ownIx e (ps := ps) (j := j) (by simpa using h)
    cases p with
    | tm w' => exact ih
    | sl k =>
      unfold ownIx
      split
      · exact List.mem_cons_of_mem _ ih
      · exact ih
theorem ownIx_inj {i : Nat} {w : Pf.W} (e : ρ[i]? = some (.o w)) : ∀ {ps : List Pl} {j k : Nat}, (ownIx ρ ps).Nodup → ps[j]? = some (.sl i) → ps[k]? = some (.sl i) → j = k
  | [], j, k, _, h, _ => by simp at h
  | p :: ps, 0, 0, _, _, _ => rfl
  | p :: ps, 0, k + 1, nd, h, h' => by
    simp at h
    subst h
    unfold ownIx at nd
    rw [e] at nd
    exact absurd (mem_ownIx e (ps := ps) (j := k) (by simpa using h')) (List.nodup_cons.mp nd).1
  | p :: ps, j + 1, 0, nd, h', h => by
    simp at h
    subst h
    unfold ownIx at nd
    rw [e] at nd
    exact absurd (mem_ownIx e (ps := ps) (j := j) (by simpa using h')) (List.nodup_cons.mp nd).1
  | p :: ps, j + 1, k + 1, nd, h, h' => by
    refine congrArg (· + 1) (ownIx_inj e (ps := ps) (j := j) (k := k) ?_ (by simpa using h) (by simpa using h'))
    cases p with
    | tm w' => exact nd
    | sl m =>
      unfold ownIx at nd
      split at nd
      · exact (List.nodup_cons.mp nd).2
      · exact nd
theorem backIn_length : ∀ (ps : List Pl) (ss : List Sl), (backIn ρ ps ss).length = ρ.length
  | [], [] => rfl
  | [], _ :: _ => rfl
  | .sl _ :: _, [] => rfl
  | .tm _ :: _, [] => rfl
  | .tm _ :: ps, _ :: ss => backIn_length ps ss
  | .sl i :: ps, s :: ss => by
    unfold backIn
    split
    · rw [List.length_set]
      exact backIn_length ps ss
    · exact backIn_length ps ss
theorem backIn_get {i : Nat} {t : Sl} : ∀ {ps : List Pl} {ss : List Sl}, ps.length = ss.length → (backIn ρ ps ss)[i]? = some t →
    (ρ[i]? = some t ∧ ∀ w, t = .o w → Pl.sl i ∉ ps) ∨ ∃ (j : Nat) (w : Pf.W), ps[j]? = some (Pl.sl i) ∧ ρ[i]? = some (.o w) ∧ ss[j]? = some t
  | [], [], _, h => .inl ⟨h, fun _ _ => List.not_mem_nil⟩
  | [], _ :: _, l, _ => by cases l
  | _ :: _, [], l, _ => by cases l
  | .tm w :: ps, s :: ss, l, h => by
    rcases backIn_get (ps := ps) (ss := ss) (Nat.succ.inj l) h with ⟨h1, h2⟩ | ⟨j, w', h1, h2, h3⟩
    · refine .inl ⟨h1, fun w' e q => ?_⟩
      rcases List.mem_cons.mp q with z | z
      · cases z
      · exact h2 w' e z
    · exact .inr ⟨j + 1, w', by simpa using h1, h2, by simpa using h3⟩
  | .sl k :: ps, s :: ss, l, h => by
    have ih := backIn_get (ps := ps) (ss := ss) (i := i) (t := t) (Nat.succ.inj l)
    unfold backIn at h
    split at h
    · rename_i w0 e0
      rcases set_get h with ⟨rfl, rfl⟩ | ⟨hn, h⟩
      · exact .inr ⟨0, w0, rfl, e0, rfl⟩
      · rcases ih h with ⟨h1, h2⟩ | ⟨j, w', h1, h2, h3⟩
        · refine .inl ⟨h1, fun w' e q => ?_⟩
          rcases List.mem_cons.mp q with z | z
          · cases z
            exact hn rfl
          · exact h2 w' e z
        · exact .inr ⟨j + 1, w', by simpa using h1, h2, by simpa using h3⟩
    · rename_i e0
      rcases ih h with ⟨h1, h2⟩ | ⟨j, w', h1, h2, h3⟩
      · refine .inl ⟨h1, fun w' e q => ?_⟩
        rcases List.mem_cons.mp q with z | z
        · cases z
          rw [e] at h1
          exact e0 w' h1
        · exact h2 w' e z
      · exact .inr ⟨j + 1, w', by simpa using h1, h2, by simpa using h3⟩
/-- what the arguments own -/
def ownA (ρ : Env) (σ : L2.St) (ps : List Pl) : Addr → Prop := fun a => ∃ i w, Pl.sl i ∈ ps ∧ ρ[i]? = some (.o w) ∧ σ[i]? = some (some (.ref a))
theorem mapSome {vs : List V} {j : Nat} {v : V} (h : vs[j]? = some v) : (vs.map some)[j]? = some (some v) := by
  rw [List.getElem?_map, h]
  rfl
theorem ofMapSome {vs : List V} {j : Nat} {v : V} (h : (vs.map some)[j]? = some (some v)) : vs[j]? = some v := by
  rw [List.getElem?_map] at h
  obtain ⟨u, e1, e2⟩ := Option.map_eq_some_iff.mp h
  cases e2
  exact e1
theorem Rel.callee {K : PySem.W.Frag} {ps : List Pl} {vs : List V} {ss : List Sl} (r : Rel X.K X.mg F G H σ ρ) (pr : Paired (PlRep X G σ) vs ps) (e : argsOf ρ ps = some ss) (nd : (ownIx ρ ps).Nodup) :
    Rel X.K X.mg (fr0 G H (ownA ρ σ ps) vs) G H (vs.map some) ss := by
  have pa := args_paired e
  refine ⟨r.sub, ?_, fun j w q => ?_, fun j w q => ?_, fun j k w w' a q1 q2 p1 p2 => ?_, fun a o h _ => h, fun _ _ => rfl, fun a o h => .inl h⟩
  · rw [List.length_map, Paired.length pr, Paired.length pa]
  · obtain ⟨p, h1, h2⟩ := Paired.at pa q
    obtain ⟨v, h3, h4⟩ := Paired.at pr h1
    refine ⟨v, mapSome h3, ?_⟩
    rcases argSl_d h2 with rfl | ⟨i, rfl, h5⟩
    · exact h4
    · obtain ⟨v', k1, k2⟩ := r.dat i w h5
      rw [show σ[i]? = some (some v) from h4] at k1
      cases k1
      exact k2
  · obtain ⟨p, h1, h2⟩ := Paired.at pa q
    obtain ⟨v, h3, h4⟩ := Paired.at pr h1
    obtain ⟨i, rfl, h5⟩ := argSl_o h2
    obtain ⟨a, k1, k2, k3, k4⟩ := r.own i w h5
    have k1' := k1
    rw [show σ[i]? = some (some v) from h4] at k1
    cases k1
    exact ⟨a, mapSome h3, k2, k3, .inl ⟨i, w, List.mem_of_getElem? h1, h5, k1'⟩⟩
  · obtain ⟨p, h1, h2⟩ := Paired.at pa q1
    obtain ⟨v, h3, h4⟩ := Paired.at pr h1
    obtain ⟨i, rfl, h5⟩ := argSl_o h2
    obtain ⟨p', h1', h2'⟩ := Paired.at pa q2
    obtain ⟨v', h3', h4'⟩ := Paired.at pr h1'
    obtain ⟨i', rfl, h5'⟩ := argSl_o h2'
    have e1 := ofMapSome p1
    have e2 := ofMapSome p2
    rw [h3] at e1
    rw [h3'] at e2
    cases e1
    cases e2
    have e3 := r.sep i i' w w' a h5 h5' h4 h4'
    subst e3
    exact ownIx_inj h5 nd h1 h1'
/-- behind a call -/
theorem Rel.back {ps : List Pl} {vs : List V} {ss outs : List Sl} {G' H' : Hp} (r : Rel X.K X.mg F G H σ ρ) (pr : Paired (PlRep X G σ) vs ps) (e : argsOf ρ ps = some ss) (hl : outs.length = ss.length) (s : Sub G G')
    (r' : Rel X.K X.mg (fr0 G H (ownA ρ σ ps) vs) G' H' (vs.map some) outs) : Rel X.K X.mg F G' H' σ (backIn ρ ps outs) := by
  have pa := args_paired e
  have hlp : ps.length = outs.length := by rw [hl, Paired.length pa]
  have stay : ∀ {i w a}, ρ[i]? = some (.o w) → Pl.sl i ∉ ps → σ[i]? = some (some (.ref a)) → ¬ ownA ρ σ ps a := fun {i w a} h1 h2 h3 ⟨i', w', k1, k2, k3⟩ => by
    have := r.sep i i' w w' a h1 k2 h3 k3
    subst this
    exact h2 k1
  refine ⟨r'.sub, by rw [backIn_length]; exact r.len, fun i w q => ?_, fun i w q => ?_, fun i k w w' a q1 q2 p1 p2 => ?_, fun a o h n => ?_, r.par, fun a o h => ?_⟩
  · rcases backIn_get hlp q with ⟨h1, _⟩ | ⟨j, w', h1, h2, h3⟩
    · obtain ⟨v, k1, k2⟩ := r.dat i w h1
      exact ⟨v, k1, k2.mono s⟩
    · obtain ⟨v, k1, k2⟩ := r'.dat j w h3
      obtain ⟨v', m1, m2⟩ := Paired.at pr h1
      rw [mapSome m1] at k1
      cases k1
      exact ⟨v, m2, k2⟩
  · rcases backIn_get hlp q with ⟨h1, h2⟩ | ⟨j, w', h1, h2, h3⟩
    · obtain ⟨a, k1, k2, k3, k4⟩ := r.own i w h1
      have na := stay h1 (h2 w rfl) k1
      refine ⟨a, k1, ?_, ?_, k4⟩
      · cases z : G' a with
        | none => rfl
        | some o =>
          rcases r'.new a o z with y | y | y | ⟨xs, rfl⟩
          · rw [show (fr0 G H (ownA ρ σ ps) vs).G0 = G from rfl, k2] at y
            cases y
          · obtain ⟨u, eu⟩ := k3.ex
            rw [show (fr0 G H (ownA ρ σ ps) vs).H0 = H from rfl, eu] at y
            cases y
          · exact absurd y na
          · obtain ⟨u, eu, nu⟩ := k3.exN
            have e1 := r'.frame a _ eu na
            rw [r'.sub _ _ z] at e1
            cases e1
            exact absurd rfl (nu _)
      · exact k3.at s fun o e => r'.frame a _ e na
    · obtain ⟨a, k1, k2, k3, _⟩ := r'.own j w h3
      obtain ⟨v', m1, m2⟩ := Paired.at pr h1
      rw [mapSome m1] at k1
      cases k1
      obtain ⟨b, n1, _, _, n4⟩ := r.own i w' h2
      rw [show σ[i]? = some (some (.ref a)) from m2] at n1
      cases n1
      exact ⟨a, m2, k2, k3, n4⟩
  · have old : ∀ {i w}, (backIn ρ ps outs)[i]? = some (Sl.o w) → ∃ w', ρ[i]? = some (Sl.o w') := fun {i w} q => by
      rcases backIn_get hlp q with ⟨h1, _⟩ | ⟨j, w', _, h2, _⟩
      · exact ⟨_, h1⟩
      · exact ⟨_, h2⟩
    obtain ⟨z, e1⟩ := old q1
    obtain ⟨z', e2⟩ := old q2
    exact r.sep i k z z' a e1 e2 p1 p2
  · refine r'.frame a o (r.frame a o h n) fun ⟨i, w, _, h2, h3⟩ => ?_
    obtain ⟨b, k1, _, _, k4⟩ := r.own i w h2
    rw [h3] at k1
    cases k1
    rcases k4 with k4 | k4
    · exact n k4
    · rw [h] at k4; cases k4
  · rcases r'.new a o h with y | y | y | y
    · exact r.new a o y
    · refine (Classical.em (F.A0 a)).elim (fun z => .inr (.inr (.inl z))) fun z => .inr (.inl ?_)
      cases q : F.H0 a with
      | none => rfl
      | some u => rw [show (fr0 G H (ownA ρ σ ps) vs).H0 = H from rfl, r.frame a u q z] at y; cases y
    · obtain ⟨i, w, _, h2, h3⟩ := y
      obtain ⟨b, k1, _, _, k4⟩ := r.own i w h2
      rw [h3] at k1
      cases k1
      rcases k4 with k4 | k4
      · exact .inr (.inr (.inl k4))
      · exact .inr (.inl k4)
    · exact .inr (.inr (.inr y))
theorem Rel.backSl {ps : List Pl} {vs : List V} {ss outs : List Sl} {G' H' : Hp} {v : V} {s : Sl} (r : Rel X.K X.mg F G H σ ρ) (pr : Paired (PlRep X G σ) vs ps) (e : argsOf ρ ps = some ss) (hl : outs.length = ss.length)
    (r' : Rel X.K X.mg (fr0 G H (ownA ρ σ ps) vs) G' H' (vs.map some) outs) (h : SlRep X.K X.mg (fr0 G H (ownA ρ σ ps) vs) G' H' (vs.map some) outs v s) : SlRep X.K X.mg F G' H' σ (backIn ρ ps outs) v s := by
  have pa := args_paired e
  have hlp : ps.length = outs.length := by rw [hl, Paired.length pa]
  cases s with
  | e => exact h.elim
  | d w => exact h
  | o w =>
    obtain ⟨a, h1, h2, h3, h4, h5⟩ := h
    have h4' : ownA ρ σ ps a ∨ H a = none := h4
    refine ⟨a, h1, h2, h3, ?_, fun i w' q p => ?_⟩
    · rcases h4' with ⟨i, w0, _, k2, k3⟩ | z
      · obtain ⟨b, m1, _, _, m4⟩ := r.own i w0 k2
        rw [k3] at m1
        cases m1
        exact m4
      · refine (Classical.em (F.A0 a)).elim .inl fun y => .inr ?_
        cases q : F.H0 a with
        | none => rfl
        | some u => rw [r.frame a u q y] at z; cases z
    · rcases backIn_get hlp q with ⟨k1, k2⟩ | ⟨j, w0, k1, k2, k3⟩
      · rcases h4' with ⟨i', w0, m1, m2, m3⟩ | z
        · have := r.sep i i' w' w0 a k1 m2 p m3
          subst this
          exact k2 w' rfl m1
        · obtain ⟨b, m1, _, m3, _⟩ := r.own i w' k1
          rw [p] at m1
          cases m1
          obtain ⟨o, eo⟩ := m3.ex
          rw [z] at eo
          cases eo
      · obtain ⟨v', m1, m2⟩ := Paired.at pr k1
        rw [show σ[i]? = some (some v') from m2] at p
        cases p
        exact h5 j w' k3 (mapSome m1)
theorem run_invoke {C : Orc} {f : Str} {ps : List Pl} {vs : List V} {n : Nat} {Q : VK} (r : Rel X.K X.mg F G H σ ρ) (pr : Paired (PlRep X G σ) vs ps) (hn : vs.length = n) (h : post X F U (pSl X F) G σ (invoke C f ps ρ) Q) :
    spOf X.K X.mg n (C f) vs H Q (fun c d H' => U c d σ H') := by
  unfold invoke at h
  cases e : argsOf ρ ps with
  | none =>
    rw [e] at h
    exact h.elim
  | some ss =>
    rw [e] at h
    dsimp only at h
    split at h
    · rename_i nd
      refine ⟨hn, G, ss, _, r.callee (K := X.K) pr e nd, ?_⟩
      cases ec : C f ss with
      | bad =>
        rw [ec] at h
        exact h.elim
      | ret rr outs =>
        rw [ec] at h
        dsimp only at h ⊢
        split at h
        · rename_i hl
          exact fun v G' H' s r' q => h v G' H' s (r.back pr e hl s r') (r.backSl pr e hl r' q)
        · exact h.elim
      | exc c outs =>
        rw [ec] at h
        dsimp only at h ⊢
        split at h
        · rename_i hl
          exact fun G' H' s r' d hd => h G' H' s (r.back pr e hl s r') d hd
        · exact h.elim
    · exact h.elim
/-- a call of one of the text's defs -/
theorem pe_userE {C : Orc} {f : Str} {a : Addr} {fd : FuncData} {pn : List Str} {k : Nat} {e : Expr} {es : List Expr} {p pos : Pos} {m : M (List Pl)}
    (Fn : FnOk X.prog X.w X.K X.mg X.base (L2N.CX X.prog X.w) k a fd pn (spOf X.K X.mg pn.length (C f))) (hr : Room k X.A) (hg : Gl X f) (hm : X.mg f = some (.ref a)) (hk : PySem.W.keepIn X.K (.ref a) = true) (hb : Binds X.K fd pn []) (tk : L2N.Takes X U)
    (hlen : (e :: es).length = pn.length) (hd : (f == ("__debug__" : Str)) = false) (hp : (e :: es).all plainX = true) (ha : PA X (e :: es) (tPs X F U m)) (hml : ∀ ρ ps ρ', m ρ = .ok ps ρ' → ps.length = (e :: es).length) :
    PE X (.Call (.Name f p) (e :: es) [] pos) (tE X F U (userE C f m)) := by
  have hp' := hp
  rw [List.all_cons, Bool.and_eq_true] at hp'
  refine (pe_callS Fn hr hg hm hk hb (fun σ => L2N.passAt tk σ) ha hd (star_of hp'.1) (plainAll X.env pos es hp'.2).1).imp fun σ H Q ⟨G, ρ, r, p⟩ => ⟨G, ρ, r, ?_⟩
  have p1 := post.bind (P := pPls X) p
  cases e1 : m ρ with
  | bad => rw [e1] at p1; exact p1
  | exc C ρ' => rw [e1] at p1; exact p1
  | ok pa ρ' =>
    rw [e1] at p1
    intro xs G' H' s1 r1 q1
    have hl := hml ρ pa ρ' e1
    obtain ⟨G2, ρ2, ps, s2, r2, q2, p2⟩ := p1 xs G' H' s1 r1 q1
    refine run_invoke r2 q2 ?_ p2
    rw [Paired.length q1, hl, hlen]
theorem plS_length : ∀ {ms : List (M Pl)} {ρ ρ' : Env} {ps : List Pl}, plS ms ρ = .ok ps ρ' → ps.length = ms.length
  | [], ρ, ρ', ps, h => by
    cases h
    rfl
  | m :: ms, ρ, ρ', ps, h => by
    unfold plS M.bind at h
    cases e1 : m ρ with
    | bad => rw [e1] at h; cases h
    | exc C ρ1 => rw [e1] at h; cases h
    | ok p ρ1 =>
      rw [e1] at h
      dsimp only at h
      cases e2 : plS ms ρ1 with
      | bad => rw [e2] at h; cases h
      | exc C ρ2 => rw [e2] at h; cases h
      | ok qs ρ2 =>
        rw [e2] at h
        cases h
        exact congrArg (· + 1) (plS_length e2)
end Pf

-- PfEnumS
/-! Pf: enumerate(text). -/
namespace Pf
open PySem PySem.Spec PyProof.Rows L2
/-- the signs of a text, each in a new pair with its place -/
def Itse (z : Str) : It :=
  ⟨fun i _ => i < z.cps.size, fun i H v H' => ∃ T c, v = .ref T ∧ H T = none ∧ H' = upd H T (.tup [.int (i : Nat), .str ⟨#[c]⟩]) ∧ z.cps[i]? = some c, fun i _ => z.cps.size ≤ i⟩
theorem turn_enumS {P : Program} {w : World} {K : PySem.W.Frag} {elts : List Expr} {kk : Nat} {tpos : Pos} (z : Str) (t : Tok) (e it : Addr) :
    Turn P w K (.Tuple elts kk tpos) (Itse z) [e, it] e (fun i h => (∃ old, IsEnum h e it ((i : Nat) : Int) old) ∧ h.IsStrIter it (strIterType z) z t i ∧ e ≠ it ∧ i ≤ z.cps.size) where
  mem := by simp
  obj := fun i h st b hb => by
    obtain ⟨⟨old, he⟩, ⟨o, ho, hc, hd⟩, _⟩ := st
    have e' : b = e ∨ b = it := by simpa using hb
    rcases e' with q | q
    · rw [q]; exact ⟨_, he, fun v q => nomatch q⟩
    · rw [q]; exact ⟨o, ho, fun v q => by rw [hd] at q; cases q⟩
  keep := fun i h h' st k => by
    obtain ⟨⟨old, he⟩, ⟨o, ho, hr⟩, hne⟩ := st
    exact ⟨⟨old, k e (by simp) _ he⟩, ⟨o, k it (by simp) o ho, hr⟩, hne⟩
  item := by
    intro X hP hw hK hc i pins s σ H E I hf st hg
    subst hP hw hK
    obtain ⟨⟨old, he⟩, hit, hne, hle⟩ := st
    have hel : e < s.heap.objs.size := Heap.lt_size he
    have hil : it < s.heap.objs.size := by obtain ⟨_, q, _⟩ := hit; exact Heap.lt_size q
    refine wpAny_pyNext_enum_itemD (Draws.text (A := X.A.in1) (I.ok.hd hc) it z t) he hit hg hne (by simpa using hne) fun u h' tk hP ho hit' hT hsz hk => ?_
    obtain ⟨c, tc, hcx, rfl⟩ := hP
    refine ⟨_, rfl, wpAny_letOwnedTupleGo_enum (s := { s with heap := h', toks := tk + 1 }) ho fun h'' he' sb => ?_⟩
    have hT2 : h''.get? s.heap.objs.size = some { cls := .type "tuple", data := .seq #[.int i tk, .str ⟨#[c]⟩ tc] } := (sb.2 _ (Nat.ne_of_gt hel)).trans hT
    have new : ObjOk X.prog X.w (upd H s.heap.objs.size (.tup [.int (i : Nat), .str ⟨#[c]⟩])) h'' s.heap.objs.size (.tup [.int (i : Nat), .str ⟨#[c]⟩]) :=
      ⟨by show 2 ≤ sizeLine; decide, [.int i tk, .str ⟨#[c]⟩ tc], .cons ⟨_, rfl⟩ (.cons ⟨_, rfl⟩ .nil), ⟨_, hT2, rfl, _, rfl⟩⟩
    have I1 : Inv X pins σ (upd H s.heap.objs.size (.tup [.int (i : Nat), .str ⟨#[c]⟩])) { s with heap := h'', toks := tk + 1 } :=
      I.turnedNew (ch := [e, it]) (fun b ob hb q => (sb.2 b (fun z => hb (by simp [z]))).trans (hk b ob (fun z => hb (by simp [z])) (fun z => hb (by simp [z])) q)) hf (Nat.le_refl _) new
    refine ⟨.ref s.heap.objs.size, _, I1, rfl, ⟨_, c, rfl, I.hok.fresh (Nat.le_refl _), rfl, hcx⟩, ⟨⟨.str ⟨#[c]⟩ tc, ?_⟩, ?_, hne, hg⟩, fun b hb => ?_⟩
    · have e1 : ((i + 1 : Nat) : Int) = (i : Int) + 1 := by omega
      rw [e1]; exact he'
    · obtain ⟨o, ho2, hr⟩ := hit'
      exact ⟨o, (sb.2 it (Ne.symm hne)).trans ho2, hr⟩
    · have hb' : b < s.heap.objs.size := by
        have e' : b = e ∨ b = it := by simpa using hb
        rcases e' with q | q
        · rw [q]; exact hel
        · rw [q]; exact hil
      rw [upd_ne (Nat.ne_of_lt hb')]
      exact (hf b hb).1
  done := by
    intro X hP hw hK hc i pins s σ H E I hf st hg
    subst hP hw hK
    obtain ⟨⟨old, he⟩, hit, hne, hle⟩ := st
    obtain ⟨f0, f1, f2, f3, f4, f5⟩ := hf it (by simp)
    have hi : i = z.cps.size := Nat.le_antisymm hle hg
    subst hi
    exact wpAny_pyNext_enum_endD (Draws.text (A := X.A.in1) (I.ok.hd hc) it z t) he hit fun h' eb => ⟨rfl, I.turned (t' := s.toks) (fun b o hb q => eb b o hb q) f0 f1 f3 f4 f5⟩
  self := fun A i s Q E st h => let ⟨⟨_, he⟩, _⟩ := st; wpAny_pyIter_enum he h
def iEnumS (ta : TA) : TI := fun σ H R => ta σ H fun vs H1 => ∃ z, vs = [.str z] ∧ R (Itse z) H1
theorem pi_enumS {X : Cx} {e : Expr} {ta : TA} {p pos tpos : Pos} {elts : List Expr} {kk : Nat} (hg : Gl X "enumerate") (hm : X.mg "enumerate" = none) (ha : PA X [e] ta) (hs : starEach [e] X.env = [(false, eval e X.env)] := by rfl) :
    PI X (.Tuple elts kk tpos) (.Call (.Name "enumerate" p) [e] [] pos) (iEnumS ta) := by
  refine ⟨fun pins s σ H R I h => ?_⟩
  refine Call_ (ld_blt I hg hm boot_enumerate (PyProof.Rows.callWith_type1 (thn (ha.run pos pins s σ H _ I h) fun us s1 ⟨vs, H1, I1, r1, q1⟩ => ?_) hs rfl))
  obtain ⟨z, ex, q⟩ := q1
  subst ex
  cases r1 with
  | cons r rr =>
    cases rr
    obtain ⟨t, rfl⟩ := r
    refine call_enumerate_str fun h' he hit hsz hk => wpAny_pyIter_enum he ?_
    have I2 : Inv X pins σ H1 { s1 with heap := h' } := I1.kept (t' := s1.toks) hk
    refine ⟨s1.heap.objs.size + 1, [s1.heap.objs.size + 1, s1.heap.objs.size], _, _, H1, rfl, I2, turn_enumS z t (s1.heap.objs.size + 1) s1.heap.objs.size, ⟨⟨.none, he⟩, hit, Nat.succ_ne_self _, Nat.zero_le _⟩, fun b hb => ?_, q⟩
    have e' : b = s1.heap.objs.size + 1 ∨ b = s1.heap.objs.size := by simpa using hb
    have hle : s1.heap.objs.size ≤ b := by
      rcases e' with z | z
      · rw [z]; exact Nat.le_add_right _ _
      · rw [z]; exact Nat.le_refl _
    exact I1.fpOk hle (I1.hok.fresh hle)
end Pf

-- PfSound4
/-! Pf: targets, what is walked, comprehensions. -/
namespace Pf
open PySem PySem.Spec PyProof.Rows L2
variable {X : Cx} {F : Fr0} {U : WX} {α β γ δ : Type} {P : Hp → Hp → L2.St → Env → β → α → Prop} {P' : Hp → Hp → L2.St → Env → δ → γ → Prop} {G G1 H H1 : Hp} {σ : L2.St} {ρ ρ1 : Env}
/-! ### targets -/
theorem wipe_get (σ : L2.St) : ∀ (vs : List Nat) (j : Nat), (wipe σ vs)[j]? = if j ∈ vs ∧ j < σ.length then some none else σ[j]?
  | [], j => by rw [if_neg (by simp)]; rfl
  | v :: vs, j => by
    unfold wipe
    by_cases e : v = j
    · subst e
      by_cases l : v < σ.length
      · rw [List.getElem?_set_self (by rw [wipe_length]; exact l), if_pos ⟨List.mem_cons_self, l⟩]
      · rw [List.getElem?_eq_none (by rw [List.length_set, wipe_length]; omega), if_neg (fun z => l z.2), List.getElem?_eq_none (by omega)]
    · rw [List.getElem?_set_ne e, wipe_get σ vs j]
      by_cases m : j ∈ vs ∧ j < σ.length
      · rw [if_pos m, if_pos ⟨List.mem_cons_of_mem _ m.1, m.2⟩]
      · rw [if_neg m, if_neg fun z => m ⟨(List.mem_cons.mp z.1).elim (fun q => absurd q.symm e) id, z.2⟩]
theorem wipe_set {i : Nat} {x : Option V} {is : List Nat} (h : i ∈ is) : wipe (σ.set i x) is = wipe σ is := by
  refine List.ext_getElem? fun j => ?_
  rw [wipe_get, wipe_get, List.length_set]
  by_cases m : j ∈ is ∧ j < σ.length
  · rw [if_pos m, if_pos m]
  · rw [if_neg m, if_neg m]
    by_cases e : i = j
    · subst e
      have l : ¬ i < σ.length := fun z => m ⟨h, z⟩
      rw [List.getElem?_eq_none (by rw [List.length_set]; omega), List.getElem?_eq_none (by omega)]
    · rw [List.getElem?_set_ne e]
/-- a target as a reading; is: the slots that it may store to -/
def gT (X : Cx) (F : Fr0) (is : List Nat) (tm : Pf.W → M Unit) : TG := fun v σ H Q => ∃ G ρ w, Rel X.K X.mg F G H σ ρ ∧ Rep X.K X.mg G v w ∧ match tm w ρ with
  | .ok _ ρ' => ∀ σ', Rel X.K X.mg F G H σ' ρ' → wipe σ' is = wipe σ is → Q σ' H
  | _ => False
def gTs (X : Cx) (F : Fr0) (is : List Nat) (tm : List Pf.W → M Unit) : TGs := fun vs σ H Q => ∃ G ρ ws, Rel X.K X.mg F G H σ ρ ∧ RepL X.K X.mg G vs ws ∧ match tm ws ρ with
  | .ok _ ρ' => ∀ σ', Rel X.K X.mg F G H σ' ρ' → wipe σ' is = wipe σ is → Q σ' H
  | _ => False
theorem _root_.L2.PG.imp {e : Expr} {t t' : TG} (h : PG X e t) (i : ∀ v σ H Q, t' v σ H Q → t v σ H Q) : PG X e t' := ⟨fun pins s σ H v u Q I r q => h.run pins s σ H v u Q I r (i _ _ _ _ q)⟩
theorem _root_.L2.PGs.imp {e : List Expr} {t t' : TGs} (h : PGs X e t) (i : ∀ v σ H Q, t' v σ H Q → t v σ H Q) : PGs X e t' := ⟨fun pins s σ H v u Q I r q => h.run pins s σ H v u Q I r (i _ _ _ _ q)⟩
theorem _root_.L2.PG.or {e : Expr} {t t' : TG} (h : PG X e t) (h' : PG X e t') : PG X e fun v σ H Q => t v σ H Q ∨ t' v σ H Q := ⟨fun pins s σ H v u Q I r q => q.elim (h.run pins s σ H v u Q I r) (h'.run pins s σ H v u Q I r)⟩
theorem pg_bad {e : Expr} {is : List Nat} : PG X e (gT X F is fun _ => M.bad) := ⟨fun _ _ _ _ _ _ _ _ _ ⟨_, _, _, _, _, h⟩ => h.elim⟩
theorem asg_of {np i : Nat} {lk : List Nat} {s : Sl} {o : Unit} {ρ' : Env} (h : asg np lk i s ρ = .ok o ρ') : np ≤ i ∧ i ∉ lk ∧ i < ρ.length ∧ ρ' = ρ.set i s := by
  unfold asg at h
  split at h
  · rename_i c
    cases h
    exact ⟨c.1, c.2.1, c.2.2, rfl⟩
  · cases h
theorem pg_one {x : Str} {pos : Pos} {np i : Nat} {lk is : List Nat} (hnp : F.np ≤ np) (hlk : ∀ j ∈ F.lk, j ∈ lk) (hN : X.N.Nodup) (hi : X.N[i]? = some x) (hx : Loc X.env.scope x) (hf : X.fn x = true ∨ X.env.scope.names.lookup x = some .local) (his : i ∈ is) :
    PG X (.Name x pos) (gT X F is (tgName np lk i)) := (pg_name hN hi hx hf).imp fun v σ H Q ⟨G, ρ, w, r, q, h⟩ => by
  unfold tgName at h
  cases e : asg np lk i (.d w) ρ with
  | bad => rw [e] at h; exact h.elim
  | exc C ρ' => rw [e] at h; exact h.elim
  | ok o ρ' =>
    rw [e] at h
    obtain ⟨h1, h2, h3, rfl⟩ := asg_of e
    exact h _ (r.store (Nat.le_trans hnp h1) (fun z => h2 (hlk _ z)) h3 q) (wipe_set his)
theorem pgs_all {is : List Nat} : ∀ {es : List Expr} {ts : List (Pf.W → M Unit)}, Paired (fun e t => PG X e (gT X F is t) ∧ ∀ es : List Expr, (assignEach (e :: es) X.env).map (·.2) = assign e X.env :: (assignEach es X.env).map (·.2)) es ts → PGs X es (gTs X F is (tgAll ts))
  | _, _, .nil => pgs_nil.imp fun vs σ H Q ⟨G, ρ, ws, r, q, h⟩ => by
    cases ws with
    | nil =>
      cases q
      exact ⟨rfl, h σ r rfl⟩
    | cons w ws => exact h.elim
  | e :: es, t :: ts, .cons h hs => (pgs_cons h.1 (pgs_all hs) (h.2 es)).imp fun vs σ H Q ⟨G, ρ, ws, r, q, k⟩ => by
    cases ws with
    | nil => exact k.elim
    | cons w ws =>
      cases q with
      | cons q qs =>
        refine ⟨_, _, rfl, G, ρ, w, r, q, ?_⟩
        have k' : (match M.bind (t w) (fun _ => tgAll ts ws) ρ with
          | .ok _ ρ' => ∀ σ', Rel X.K X.mg F G H σ' ρ' → wipe σ' is = wipe σ is → Q σ' H
          | _ => False) := k
        unfold M.bind at k'
        cases e1 : t w ρ with
        | bad => rw [e1] at k'; exact k'.elim
        | exc C ρ' => rw [e1] at k'; exact k'.elim
        | ok o ρ' =>
          rw [e1] at k'
          dsimp only at k' ⊢
          intro σ' r' w'
          refine ⟨G, ρ', ws, r', qs, ?_⟩
          split at k'
          · exact fun σ2 r2 w2 => k' σ2 r2 (w2.trans w')
          · exact k'.elim
theorem run_tup {n : Nat} {ts : List (Pf.W → M Unit)} {is : List Nat} {v : V} {Q : L2.St → Hp → Prop} (hl : n = ts.length) (h : gT X F is (tgTup ts) v σ H Q) : gTup X.K n (gTs X F is (tgAll ts)) v σ H Q ∨ gLst X.K n (gTs X F is (tgAll ts)) v σ H Q := by
    obtain ⟨G, ρ, w, r, q, k⟩ := h
    have len : ∀ {ts : List (Pf.W → M Unit)} {ws : List Pf.W} {ρ ρ' : Env} {o : Unit}, tgAll ts ws ρ = .ok o ρ' → ws.length = ts.length := by
      intro ts
      induction ts with
      | nil => intro ws ρ ρ' o e; cases ws <;> first | rfl | cases e
      | cons t ts ih =>
        intro ws ρ ρ' o e
        cases ws with
        | nil => cases e
        | cons w ws =>
          unfold tgAll M.bind at e
          split at e
          · exact congrArg (· + 1) (ih e)
          · cases e
          · cases e
    cases w with
    | tup ws =>
      left
      cases id q with
      | tup h1 h2 =>
        refine ⟨_, _, rfl, SqT.of (r.sub _ _ h1), ?_, G, ρ, ws, r, h2, k⟩
        rw [h2.length, hl]
        replace k : (match tgAll ts ws ρ with
          | .ok _ ρ' => ∀ σ', Rel X.K X.mg F G H σ' ρ' → wipe σ' is = wipe σ is → Q σ' H
          | _ => False) := k
        split at k
        · rename_i e
          exact len e
        · exact k.elim
    | lst ws =>
      right
      cases id q with
      | lst h1 h2 =>
        refine ⟨_, _, rfl, SqL.of (r.sub _ _ h1), ?_, G, ρ, ws, r, h2, k⟩
        rw [h2.length, hl]
        replace k : (match tgAll ts ws ρ with
          | .ok _ ρ' => ∀ σ', Rel X.K X.mg F G H σ' ρ' → wipe σ' is = wipe σ is → Q σ' H
          | _ => False) := k
        split at k
        · rename_i e
          exact len e
        · exact k.elim
    | _ => exact k.elim

theorem pg_tupT {es : List Expr} {n : Nat} {pos : Pos} {ts : List (Pf.W → M Unit)} {is : List Nat} (hc : X.calm = true) (h : Paired (fun e t => PG X e (gT X F is t) ∧ ∀ es : List Expr, (assignEach (e :: es) X.env).map (·.2) = assign e X.env :: (assignEach es X.env).map (·.2)) es ts)
    (hn : (assignEach es X.env).length = es.length) (hst : (assignEach es X.env).findIdx? (·.1) = none) : PG X (.Tuple es n pos) (gT X F is (tgTup ts)) :=
  ((pg_tup hc (pgs_all h) hn hst).or (pg_lst hc (pgs_all h) hn hst)).imp fun v σ H Q k => run_tup (Paired.length h) k

/-! ### what is walked -/
structure WalkOk (X : Cx) (J : It) (σ0 : L2.St) (G0 : Hp) (ws : List Pf.W) (gs : List (Nat × Pf.W)) : Prop where
  go : ∀ (F : Fr0) (i : Nat) G H σ ρ, Sub G0 G → Rel X.K X.mg F G H σ ρ → (∀ g ∈ gs, σ[g.1]? = σ0[g.1]?) → (∀ g ∈ gs, still ρ g) → i < ws.length → J.go i H ∧ ∀ x H', J.yld i H x H' → ∃ G' w, Grow G H G' H' ∧ ws[i]? = some w ∧ Rep X.K X.mg G' x w
  stop : ∀ (F : Fr0) (i : Nat) G H σ ρ, Sub G0 G → Rel X.K X.mg F G H σ ρ → (∀ g ∈ gs, σ[g.1]? = σ0[g.1]?) → (∀ g ∈ gs, still ρ g) → ws.length ≤ i → J.stop i H
abbrev pWalk (X : Cx) : Hp → Hp → L2.St → Env → It → List Pf.W × List (Nat × Pf.W) → Prop := fun G _ σ _ J x => WalkOk X J σ G x.1 x.2
abbrev tI (X : Cx) (F : Fr0) (U : WX) (m : M (List Pf.W × List (Nat × Pf.W))) : TI := tG X F U (pWalk X) m
theorem _root_.L2.PI.imp {tg e : Expr} {t t' : TI} (h : PI X tg e t) (i : ∀ σ H Q, t' σ H Q → t σ H Q) : PI X tg e t' := ⟨fun pins s σ H Q I q => h.run pins s σ H Q I (i _ _ _ q)⟩
theorem _root_.L2.PI.or {tg e : Expr} {t t' : TI} (h : PI X tg e t) (h' : PI X tg e t') : PI X tg e fun σ H Q => t σ H Q ∨ t' σ H Q := ⟨fun pins s σ H Q I q => q.elim (h.run pins s σ H Q I) (h'.run pins s σ H Q I)⟩
theorem pi_bad {tg e : Expr} : PI X tg e (tI X F U M.bad) := ⟨fun _ _ _ _ _ _ ⟨_, _, _, h⟩ => h.elim⟩
/-- a list that stands -/
theorem walk_list {a : Addr} {σ0 : L2.St} {G0 : Hp} {ws : List Pf.W} {gs : List (Nat × Pf.W)}
    (h : ∀ (F : Fr0) G H σ ρ, Sub G0 G → Rel X.K X.mg F G H σ ρ → (∀ g ∈ gs, σ[g.1]? = σ0[g.1]?) → (∀ g ∈ gs, still ρ g) → ∃ vs, H a = some (.lst vs) ∧ RepL X.K X.mg G vs ws) : WalkOk X (Itl X.K a) σ0 G0 ws gs where
  go := fun F i G H σ ρ s r h1 h2 hi => by
    obtain ⟨vs, e, q⟩ := h F G H σ ρ s r h1 h2
    obtain ⟨v, e2, q2⟩ := q.get (List.getElem?_eq_getElem hi)
    refine ⟨⟨vs, v, SqL.of e, e2⟩, fun x H' y => ?_⟩
    obtain ⟨rfl, y⟩ := y
    have e3 := y vs (SqL.of e)
    rw [e2] at e3
    cases e3
    exact ⟨G, _, .refl r.sub, List.getElem?_eq_getElem hi, q2⟩
  stop := fun F i G H σ ρ s r h1 h2 hi => by
    obtain ⟨vs, e, q⟩ := h F G H σ ρ s r h1 h2
    exact ⟨vs, SqL.of e, by rw [q.length]; exact hi⟩
theorem walk_tup {a : Addr} {σ0 : L2.St} {G0 : Hp} {ws : List Pf.W} {vs : List V} (e0 : G0 a = some (.tup vs)) (q0 : RepL X.K X.mg G0 vs ws) : WalkOk X (Itt X.K a) σ0 G0 ws [] where
  go := fun F i G H σ ρ s r h1 h2 hi => by
    have e := r.sub _ _ (s _ _ e0)
    have q := q0.mono s
    obtain ⟨v, e2, q2⟩ := q.get (List.getElem?_eq_getElem hi)
    refine ⟨⟨vs, v, SqT.of e, e2⟩, fun x H' y => ?_⟩
    obtain ⟨rfl, y⟩ := y
    have e3 := y vs (SqT.of e)
    rw [e2] at e3
    cases e3
    exact ⟨G, _, .refl r.sub, List.getElem?_eq_getElem hi, q2⟩
  stop := fun F i G H σ ρ s r h1 h2 hi => ⟨vs, SqT.of (r.sub _ _ (s _ _ e0)), by rw [q0.length]; exact hi⟩
theorem walk_str {z : Str} {σ0 : L2.St} {G0 : Hp} : WalkOk X (Its z) σ0 G0 (z.cps.toList.map fun c => .str ⟨#[c]⟩) [] where
  go := fun F i G H σ ρ s r h1 h2 hi => by
    have hi' : i < z.cps.size := by simpa using hi
    refine ⟨hi', fun x H' y => ?_⟩
    obtain ⟨rfl, c, e, rfl⟩ := y
    refine ⟨G, .str ⟨#[c]⟩, .refl r.sub, ?_, .str _⟩
    rw [List.getElem?_map, Array.getElem?_toList, e]
    rfl
  stop := fun F i G H σ ρ s r h1 h2 hi => by
    have hi' : z.cps.size ≤ i := by simpa using hi
    exact hi'
theorem walk_range {lo : Int} {n : Nat} {σ0 : L2.St} {G0 : Hp} : WalkOk X (Itr lo n) σ0 G0 ((List.range n).map fun (i : Nat) => Pf.W.int (lo + i)) [] where
  go := fun F i G H σ ρ s r h1 h2 hi => by
    have hi' : i < n := by simpa using hi
    refine ⟨hi', fun x H' y => ?_⟩
    obtain ⟨rfl, rfl⟩ := y
    refine ⟨G, _, .refl r.sub, ?_, .int _⟩
    rw [List.getElem?_map, List.getElem?_range hi']
    rfl
  stop := fun F i G H σ ρ s r h1 h2 hi => by
    have hi' : n ≤ i := by simpa using hi
    exact hi'
/-- a list's address, as its place tells it -/
theorem place_list {p : Pl} {a : Addr} {ws : List Pf.W} (r : Rel X.K X.mg F G H σ ρ) (pr : PlRep X G σ (.ref a) p) (e : p.view ρ = some (.lst ws)) :
    ∀ (F : Fr0) G' H' σ' ρ', Sub G G' → Rel X.K X.mg F G' H' σ' ρ' → (∀ g ∈ gdOf ρ p, σ'[g.1]? = σ[g.1]?) → (∀ g ∈ gdOf ρ p, still ρ' g) → ∃ vs, H' a = some (.lst vs) ∧ RepL X.K X.mg G' vs ws := by
  intro F' G' H' σ' ρ' s r' h1 h2
  cases p with
  | tm w =>
    cases e
    obtain ⟨b, vs, e1, e2, q⟩ := Top.lst r'.sub (.inl (Rep.mono s pr))
    cases e1
    exact ⟨vs, e2, q⟩
  | sl i =>
    have pr' : σ[i]? = some (some (.ref a)) := pr
    have e' : (ρ[i]?).bind Sl.view = some (.lst ws) := e
    cases q : ρ[i]? with
    | none => rw [q] at e'; cases e'
    | some t =>
      rw [q] at e'
      cases t with
      | e => cases e'
      | d w =>
        cases e'
        obtain ⟨v, k1, k2⟩ := r.dat i _ q
        rw [pr'] at k1
        cases k1
        obtain ⟨b, vs, e1, e2, q⟩ := Top.lst r'.sub (.inl (Rep.mono s k2))
        cases e1
        exact ⟨vs, e2, q⟩
      | o w =>
        cases e'
        have hg : gdOf ρ (.sl i) = [(i, .lst ws)] := by
          show (match ρ[i]? with
            | some (.o w) => [(i, w)]
            | _ => []) = _
          rw [q]
        rw [hg] at h1 h2
        obtain ⟨v, k1, k2⟩ := r'.view (h2 (i, .lst ws) List.mem_cons_self)
        rw [h1 (i, .lst ws) List.mem_cons_self, pr'] at k1
        cases k1
        obtain ⟨b, vs, e1, e2, q⟩ := Top.lst r'.sub k2
        cases e1
        exact ⟨vs, e2, q⟩
theorem gdOf_data {p : Pl} {w : Pf.W} (r : Rel X.K X.mg F G H σ ρ) (e : p.view ρ = some w) (h : w.plainK = true) : gdOf ρ p = [] := by
  cases p with
  | tm w => rfl
  | sl i =>
    show (match ρ[i]? with
      | some (.o w) => [(i, w)]
      | _ => []) = []
    have e' : (ρ[i]?).bind Sl.view = some w := e
    cases q : ρ[i]? with
    | none => rfl
    | some t =>
      cases t with
      | e => rfl
      | d w => rfl
      | o w' =>
        rw [q] at e'
        cases e'
        obtain ⟨a, _, _, k, _⟩ := r.own i w q
        cases w <;> first | exact k.elim | cases h
theorem post.bindEq {m : M α} {f : α → M γ} {a : α} {Q : δ → Hp → Prop} (e : m ρ = .ok a ρ1) (h : post X F U P' G σ (M.bind m f ρ) Q) : post X F U P' G σ (f a ρ1) Q := by
  unfold M.bind at h
  rw [e] at h
  exact h
theorem vw_eq {p : Pl} {w : Pf.W} (e : p.view ρ = some w) : vw p ρ = .ok w ρ := by
  unfold vw
  rw [e]
theorem post.excEq {m : M α} {f : α → M γ} {C : Str} {Q : δ → Hp → Prop} {A B : Type} {P2 : Hp → Hp → L2.St → Env → B → A → Prop} {Q2 : B → Hp → Prop} (e : m ρ = .exc C ρ1) (h : post X F U P' G σ (M.bind m f ρ) Q) : post X F U P2 G σ (.exc C ρ1 : Out A) Q2 := by
  unfold M.bind at h
  rw [e] at h
  exact h
theorem post.badEq {m : M α} {f : α → M γ} {Q : δ → Hp → Prop} (e : m ρ = .bad) (h : post X F U P' G σ (M.bind m f ρ) Q) : False := by
  unfold M.bind at h
  rw [e] at h
  exact h
theorem frzP_d {i : Nat} {w : Pf.W} (q : ρ[i]? = some (.d w)) : frzP (.sl i) ρ = .ok () ρ := by
  have e : rdD i ρ = .ok w ρ := by unfold rdD; rw [q]
  show M.bind (rdD i) (fun _ => M.ret ()) ρ = _
  unfold M.bind
  rw [e]
  rfl
theorem frzP_o {i : Nat} {w : Pf.W} (q : ρ[i]? = some (.o w)) : frzP (.sl i) ρ = .ok () (ρ.set i (.d w)) := by
  have e : rdD i ρ = .ok w (ρ.set i (.d w)) := by unfold rdD; rw [q]
  show M.bind (rdD i) (fun _ => M.ret ()) ρ = _
  unfold M.bind
  rw [e]
  rfl
/-- a thing is frozen in its place, and used there -/
theorem run_frzP {p : Pl} {x : V} {w : Pf.W} {f : Unit → M γ} {Q : δ → Hp → Prop} {Qx : V → Hp → Prop} (r : Rel X.K X.mg F G H σ ρ) (pr : PlRep X G σ x p) (e : p.view ρ = some w) (h : post X F U P' G σ (M.bind (frzP p) f ρ) Q)
    (k : ∀ G1 H1 ρ1, Sub G G1 → Rel X.K X.mg F G1 H1 σ ρ1 → Rep X.K X.mg G1 x w → post X F U P' G1 σ (f () ρ1) Q → Qx x H1) : LkQ Qx x H := by
  cases p with
  | tm w' =>
    cases e
    exact .inl (k G H ρ (.refl _) r pr h)
  | sl i =>
    have pr' : σ[i]? = some (some x) := pr
    have e' : (ρ[i]?).bind Sl.view = some w := e
    cases q : ρ[i]? with
    | none => rw [q] at e'; cases e'
    | some t =>
      rw [q] at e'
      cases t with
      | e => cases e'
      | d w' =>
        cases e'
        have h' : post X F U P' G σ (f () ρ) Q := post.bindEq (frzP_d q) h
        obtain ⟨v', k1, k2⟩ := r.dat i _ q
        rw [pr'] at k1
        cases k1
        exact .inl (k G H ρ (.refl _) r k2 h')
      | o w' =>
        cases e'
        have h' : post X F U P' G σ (f () (ρ.set i (.d w))) Q := post.bindEq (frzP_o q) h
        obtain ⟨a, u, k1, k2, k3, k4⟩ := r.freezeAt q
        rw [pr'] at k1
        cases k1
        exact LkQ.of k2 k3 fun o fo => k _ _ _ (k4 o fo).1 (k4 o fo).2.2 (k4 o fo).2.1 (h'.le (k4 o fo).1)
theorem keyAt_get {κ : Type} {kvs0 : List (κ × V)} {kvs : List (Pf.W × Pf.W)} {f : κ → Pf.W} (e : kvs.map (·.1) = kvs0.map (fun p => f p.1)) {i : Nat} {k : κ} {v : V} (h : kvs0[i]? = some (k, v)) : ∃ w, kvs[i]? = some (f k, w) := by
  have h1 : (kvs.map (·.1))[i]? = some (f k) := by rw [e, List.getElem?_map, h]; rfl
  rw [List.getElem?_map] at h1
  obtain ⟨p, h2, h3⟩ := Option.map_eq_some_iff.mp h1
  exact ⟨p.2, by rw [h2, ← h3]⟩
theorem walk_keys {d : Addr} {od : Obj} {kvs0 : List (Key × V)} {kvs : List (Pf.W × Pf.W)} {σ0 : L2.St} {G0 : Hp} (e0 : G0 d = some (.frz od (.dK kvs0))) (e : kvs.map (·.1) = kvs0.map (fun p => kW p.1)) : WalkOk X (Itk d od kvs0) σ0 G0 (kvs.map (·.1)) [] where
  go := fun F i G H σ ρ s r h1 h2 hi => by
    have l : (kvs.map (·.1)).length = kvs0.length := by rw [e, List.length_map]
    refine ⟨⟨r.sub _ _ (s _ _ e0), by omega⟩, fun x H' y => ?_⟩
    obtain ⟨rfl, k, v, hk, rfl⟩ := y
    exact ⟨G, kW k, .refl r.sub, by rw [e, List.getElem?_map, hk]; rfl, kW_rep k⟩
  stop := fun F i G H σ ρ s r h1 h2 hi => by
    have l : (kvs.map (·.1)).length = kvs0.length := by rw [e, List.length_map]
    exact ⟨r.sub _ _ (s _ _ e0), by omega⟩
theorem walk_keysT {d : Addr} {od : Obj} {kvs0 : List (List Key × V)} {kvs : List (Pf.W × Pf.W)} {σ0 : L2.St} {G0 : Hp} (e0 : G0 d = some (.frz od (.dT kvs0))) (e : kvs.map (·.1) = kvs0.map (fun p => ktW p.1)) : WalkOk X (Itkt d od kvs0) σ0 G0 (kvs.map (·.1)) [] where
  go := fun F i G H σ ρ s r h1 h2 hi => by
    have l : (kvs.map (·.1)).length = kvs0.length := by rw [e, List.length_map]
    refine ⟨⟨r.sub _ _ (s _ _ e0), by omega⟩, fun x H' y => ?_⟩
    obtain ⟨rfl, k, v, q, hk, rfl, hq⟩ := y
    have hin : withKeys G H' [q] q = some (.tup (k.map kV)) := by
      unfold withKeys
      rw [if_pos List.mem_cons_self]
      exact hq
    refine ⟨withKeys G H' [q], ktW k, ⟨.refl _, withKeys_le r.sub _, fun a u z => ?_, fun a u z => ?_⟩, by rw [e, List.getElem?_map, hk]; rfl, .tup hin (kWs_rep k)⟩
    · unfold withKeys at z
      split at z
      · exact z
      · exact r.sub _ _ z
    · unfold withKeys at z
      split at z
      · rename_i hm
        rw [List.mem_singleton.mp hm, hq] at z
        cases z
        exact .inr (.inr ⟨_, rfl⟩)
      · exact .inl z
  stop := fun F i G H σ ρ s r h1 h2 hi => by
    have l : (kvs.map (·.1)).length = kvs0.length := by rw [e, List.length_map]
    exact ⟨r.sub _ _ (s _ _ e0), by omega⟩
theorem walk_vals {d : Addr} {od : Obj} {kvs0 : List (Key × V)} {kvs : List (Pf.W × Pf.W)} {σ0 : L2.St} {G0 : Hp} (e0 : G0 d = some (.frz od (.dK kvs0))) (q0 : RepL X.K X.mg G0 (kvs0.map (·.2)) (kvs.map (·.2))) : WalkOk X (Itd d od kvs0) σ0 G0 (kvs.map (·.2)) [] where
  go := fun F i G H σ ρ s r h1 h2 hi => by
    have l := q0.length
    rw [List.length_map] at l
    refine ⟨⟨r.sub _ _ (s _ _ e0), by omega⟩, fun x H' y => ?_⟩
    obtain ⟨rfl, k, hk⟩ := y
    obtain ⟨v, e2, q2⟩ := (q0.mono s).get (List.getElem?_eq_getElem hi)
    rw [List.getElem?_map, hk] at e2
    cases e2
    exact ⟨G, _, .refl r.sub, List.getElem?_eq_getElem hi, q2⟩
  stop := fun F i G H σ ρ s r h1 h2 hi => by
    have l := q0.length
    rw [List.length_map] at l
    exact ⟨r.sub _ _ (s _ _ e0), by omega⟩
theorem walk_items {d : Addr} {od : Obj} {kvs0 : List (Key × V)} {kvs : List (Pf.W × Pf.W)} {σ0 : L2.St} {G0 : Hp} (e0 : G0 d = some (.frz od (.dK kvs0))) (e : kvs.map (·.1) = kvs0.map (fun p => kW p.1)) (q0 : RepL X.K X.mg G0 (kvs0.map (·.2)) (kvs.map (·.2))) :
    WalkOk X (Iti d od kvs0) σ0 G0 (kvs.map fun z => .tup [z.1, z.2]) [] where
  go := fun F i G H σ ρ s r h1 h2 hi => by
    have l := q0.length
    rw [List.length_map, List.length_map] at l
    rw [List.length_map] at hi
    refine ⟨⟨r.sub _ _ (s _ _ e0), by omega⟩, fun x H' y => ?_⟩
    obtain ⟨T, k, v, hk, rfl, nT, rfl⟩ := y
    obtain ⟨w, hw⟩ := keyAt_get e hk
    have hw2 : (kvs.map (·.2))[i]? = some w := by rw [List.getElem?_map, hw]; rfl
    obtain ⟨v', e2, q2⟩ := (q0.mono s).get hw2
    rw [List.getElem?_map, hk] at e2
    cases e2
    exact ⟨_, .tup [kW k, w], .frozen r.sub nT, by rw [List.getElem?_map, hw]; rfl, .tup upd_same (.cons (kW_rep k) (.cons (q2.mono (.upd (gnone r.sub nT))) .nil))⟩
  stop := fun F i G H σ ρ s r h1 h2 hi => by
    have l := q0.length
    rw [List.length_map, List.length_map] at l
    rw [List.length_map] at hi
    exact ⟨r.sub _ _ (s _ _ e0), by omega⟩
theorem pi_itE {tg e : Expr} {m : M Pl} (h : PE X e (tP X F U m)) : PI X tg e (tI X F U (itE m)) :=
  ((pi_list h).or ((pi_tup h).or ((pi_str h).or (pi_keys (pe_lock h))))).imp fun σ H R ⟨G, ρ, r, p⟩ => by
    cases e1 : m ρ with
    | bad => exact (post.badEq e1 p).elim
    | exc C ρ' =>
      refine .inl ⟨G, ρ, r, ?_⟩
      rw [e1]
      exact post.excEq e1 p
    | ok pa ρ' =>
      have p1 := post.bindEq e1 p
      cases e2 : pa.view ρ' with
      | none => exact (post.badEq (show vw pa ρ' = .bad by unfold vw; rw [e2]) p1).elim
      | some w =>
        have p2 := post.bindEq (vw_eq e2) p1
        cases w with
        | lst ws =>
          refine .inl ⟨G, ρ, r, ?_⟩
          rw [e1]
          intro x G' H' s1 r1 q1
          obtain ⟨w', e3, t, _⟩ := post.vw (f := fun _ => M.ret ()) (P' := fun _ _ _ _ (_ : Unit) (_ : Unit) => True) (U := fun _ _ _ _ => True) (Q := fun _ _ => True) r1 q1 (by
            unfold M.bind
            rw [vw_eq e2]
            exact fun _ _ _ _ _ _ => trivial)
          rw [e2] at e3
          cases e3
          obtain ⟨a, vs, rfl, h1, _⟩ := t.lst r1.sub
          refine ⟨a, rfl, ⟨vs, SqL.of h1⟩, p2 _ G' H' s1 r1 ?_⟩
          exact walk_list (place_list r1 q1 e2)
        | tup ws =>
          refine .inr (.inl ⟨G, ρ, r, ?_⟩)
          rw [e1]
          intro x G' H' s1 r1 q1
          obtain ⟨w', e3, t, _⟩ := post.vw (f := fun _ => M.ret ()) (P' := fun _ _ _ _ (_ : Unit) (_ : Unit) => True) (U := fun _ _ _ _ => True) (Q := fun _ _ => True) r1 q1 (by
            unfold M.bind
            rw [vw_eq e2]
            exact fun _ _ _ _ _ _ => trivial)
          rw [e2] at e3
          cases e3
          obtain ⟨a, vs, rfl, h1, _, q⟩ := t.tup r1.sub
          refine ⟨a, rfl, ⟨vs, SqT.of h1⟩, p2 _ G' H' s1 r1 ?_⟩
          rw [show (gdOf ρ' pa) = [] from gdOf_data r1 e2 rfl]
          cases q with
          | tup k1 k2 => exact walk_tup k1 k2
        | dct t kvs =>
          refine .inr (.inr (.inr ⟨G, ρ, r, ?_⟩))
          rw [e1]
          intro x G' H' s1 r1 q1
          refine run_frzP r1 q1 e2 (p2.le s1) fun G1 H1 ρ1 s2 r2 q2 p3 => ?_
          generalize e0 : kvs.map (·.1) = ks at p3
          cases q2 with
          | dct k1 d k2 =>
            rw [e0] at d
            cases d with
            | k kvs0 => exact ⟨_, _, rfl, .inl ⟨kvs0, r2.sub _ _ k1, p3 _ G1 H1 (.refl _) r2 (by show WalkOk X _ σ G1 _ []; rw [← e0]; exact walk_keys k1 e0)⟩⟩
            | t kvs0 => exact ⟨_, _, rfl, .inr ⟨kvs0, r2.sub _ _ k1, p3 _ G1 H1 (.refl _) r2 (by show WalkOk X _ σ G1 _ []; rw [← e0]; exact walk_keysT k1 e0)⟩⟩
        | str z =>
          refine .inr (.inr (.inl ⟨G, ρ, r, ?_⟩))
          rw [e1]
          intro x G' H' s1 r1 q1
          obtain ⟨w', e3, t, _⟩ := post.vw (f := fun _ => M.ret ()) (P' := fun _ _ _ _ (_ : Unit) (_ : Unit) => True) (U := fun _ _ _ _ => True) (Q := fun _ _ => True) r1 q1 (by
            unfold M.bind
            rw [vw_eq e2]
            exact fun _ _ _ _ _ _ => trivial)
          rw [e2] at e3
          cases e3
          cases t.str
          refine ⟨z, rfl, p2 _ G' H' s1 r1 ?_⟩
          rw [show (gdOf ρ' pa) = [] from gdOf_data r1 e2 rfl]
          exact walk_str
        | _ => exact p2.elim
theorem pi_itItems {elts : List Expr} {kk : Nat} {tpos apos cpos : Pos} {e : Expr} {m : M Pl} (h : PE X e (tP X F U m)) (hb : baseX e = true) (hl : (apos.endLine == cpos.line) = true) : PI X (.Tuple elts kk tpos) (.Call (.Attribute e "items" apos) [] [] cpos) (tI X F U (itItems m)) :=
  (pi_items (pe_lock h) (baseOk hb) hl).imp fun σ H R ⟨G, ρ, r, p⟩ => by
    refine ⟨G, ρ, r, ?_⟩
    cases e1 : m ρ with
    | bad => exact (post.badEq e1 p).elim
    | exc C ρ' => exact post.excEq e1 p
    | ok pa ρ' =>
      have p1 := post.bindEq e1 p
      intro x G' H' s1 r1 q1
      cases e2 : pa.view ρ' with
      | none => exact (post.badEq (show vw pa ρ' = .bad by unfold vw; rw [e2]) p1).elim
      | some w =>
        have p2 := post.bindEq (vw_eq e2) p1
        cases w with
        | dct t kvs =>
          cases t with
          | true => exact p2.elim
          | false =>
            refine run_frzP r1 q1 e2 (p2.le s1) fun G1 H1 ρ1 s2 r2 q2 p3 => ?_
            cases q2 with
            | dct k1 d k2 =>
              generalize e0 : kvs.map (·.1) = ks at d
              cases d with
              | k kvs0 => exact ⟨_, _, kvs0, rfl, r2.sub _ _ k1, p3 _ G1 H1 (.refl _) r2 (walk_items k1 e0 k2)⟩
        | _ => exact p2.elim
theorem pi_itVals {tg e : Expr} {apos cpos : Pos} {m : M Pl} (h : PE X e (tP X F U m)) (hb : baseX e = true) (hl : (apos.endLine == cpos.line) = true) : PI X tg (.Call (.Attribute e "values" apos) [] [] cpos) (tI X F U (itVals m)) :=
  (pi_values (pe_lock h) (baseOk hb) hl).imp fun σ H R ⟨G, ρ, r, p⟩ => by
    refine ⟨G, ρ, r, ?_⟩
    cases e1 : m ρ with
    | bad => exact (post.badEq e1 p).elim
    | exc C ρ' => exact post.excEq e1 p
    | ok pa ρ' =>
      have p1 := post.bindEq e1 p
      intro x G' H' s1 r1 q1
      cases e2 : pa.view ρ' with
      | none => exact (post.badEq (show vw pa ρ' = .bad by unfold vw; rw [e2]) p1).elim
      | some w =>
        have p2 := post.bindEq (vw_eq e2) p1
        cases w with
        | dct t kvs =>
          cases t with
          | true => exact p2.elim
          | false =>
            refine run_frzP r1 q1 e2 (p2.le s1) fun G1 H1 ρ1 s2 r2 q2 p3 => ?_
            cases q2 with
            | dct k1 d k2 =>
              generalize e0 : kvs.map (·.1) = ks at d
              cases d with
              | k kvs0 => exact ⟨_, _, kvs0, rfl, r2.sub _ _ k1, p3 _ G1 H1 (.refl _) r2 (walk_vals k1 k2)⟩
        | _ => exact p2.elim
theorem vwL_exc {C : Str} : ∀ {ps : List Pl} {ρ1 : Env}, vwL ps ρ = .exc C ρ1 → False
  | [], _, e => by cases e
  | p :: ps, ρ1, e => by
    unfold vwL M.bind at e
    cases e2 : p.view ρ with
    | none =>
      rw [show vw p ρ = .bad by unfold vw; rw [e2]] at e
      cases e
    | some w =>
      rw [vw_eq e2] at e
      dsimp only at e
      cases e3 : vwL ps ρ with
      | bad => rw [e3] at e; cases e
      | ok zs ρ2 => rw [e3] at e; cases e
      | exc C' ρ2 => exact vwL_exc (e3.trans (by rw [e3] at e; cases e; rfl) : vwL ps ρ = .exc C ρ1)
theorem vwL_eq {ps : List Pl} {vs : List V} {ws : List Pf.W} (r : Rel X.K X.mg F G H σ ρ) (q : Paired (PlRep X G σ) vs ps) (e : vwL ps ρ = .ok ws ρ1) : ρ1 = ρ ∧ TopL X.K X.mg G H vs ws := by
  have go : ∀ {ps : List Pl} {vs : List V} {ws : List Pf.W} {ρ1 : Env}, Paired (PlRep X G σ) vs ps → vwL ps ρ = .ok ws ρ1 → ρ1 = ρ ∧ TopL X.K X.mg G H vs ws := by
    intro ps
    induction ps with
    | nil =>
      intro vs ws ρ1 q e
      cases q
      cases e
      exact ⟨rfl, .nil⟩
    | cons p ps ih =>
      intro vs ws ρ1 q e
      cases q with
      | cons q qs =>
        unfold vwL M.bind at e
        cases e2 : p.view ρ with
        | none =>
          rw [show vw p ρ = .bad by unfold vw; rw [e2]] at e
          cases e
        | some w =>
          rw [vw_eq e2] at e
          dsimp only at e
          split at e
          · rename_i zs ρ2 e3
            cases e
            obtain ⟨h1, h2⟩ := ih qs e3
            obtain ⟨w', e4, t, _⟩ := post.vw (f := fun _ => M.ret ()) (P' := fun _ _ _ _ (_ : Unit) (_ : Unit) => True) (U := fun _ _ _ _ => True) (Q := fun _ _ => True) r q (by
              unfold M.bind
              rw [vw_eq e2]
              exact fun _ _ _ _ _ _ => trivial)
            rw [e2] at e4
            cases e4
            exact ⟨h1, .cons t h2⟩
          · cases e
          · cases e
  exact go q e
theorem pi_r1 {tg a : Expr} {p pos : Pos} {m : M (List Pl)} (hg : Gl X "range") (hm : X.mg "range" = none) (hp : plainX a = true) (ha : PA X [a] (tPs X F U m)) : PI X tg (.Call (.Name "range" p) [a] [] pos) (tI X F U (itR1 m)) :=
  (pi_range1 hg hm ha (by rw [star_of hp]; rfl)).imp fun σ H R ⟨G, ρ, r, p⟩ => by
    refine ⟨G, ρ, r, ?_⟩
    cases e1 : m ρ with
    | bad => exact (post.badEq e1 p).elim
    | exc C ρ' => exact post.excEq e1 p
    | ok ps ρ' =>
      have p1 := post.bindEq e1 p
      cases e2 : vwL ps ρ' with
      | bad => exact (post.badEq e2 p1).elim
      | exc C ρ2 => exact (vwL_exc e2).elim
      | ok ws ρ2 =>
        have p2 := post.bindEq e2 p1
        intro vs G' H' s1 r1 q1
        obtain ⟨rfl, ts⟩ := vwL_eq r1 q1 e2
        split at p2
        · rename_i j
          split at p2
          · rename_i hj
            obtain ⟨x, rfl, t⟩ := topL1 ts
            cases t.int
            unfold inHalf at hj
            have hj' := of_decide_eq_true hj
            refine ⟨j, rfl, hj'.1, hj'.2, p2 _ G' H' s1 r1 ?_⟩
            have e : rangeL 0 j = (List.range j.toNat).map fun (i : Nat) => Pf.W.int ((0 : Int) + i) := by
              unfold rangeL
              rw [Int.sub_zero]
            show WalkOk X (Itr 0 j.toNat) σ G' (rangeL 0 j) []
            rw [e]
            exact walk_range
          · exact p2.elim
        · exact p2.elim
theorem pi_r2 {tg a b : Expr} {p pos : Pos} {m : M (List Pl)} (hg : Gl X "range") (hm : X.mg "range" = none) (hp : plainX a = true) (hp2 : plainX b = true) (ha : PA X [a, b] (tPs X F U m)) : PI X tg (.Call (.Name "range" p) [a, b] [] pos) (tI X F U (itR2 m)) :=
  (pi_range2 hg hm ha (by rw [star_of hp, star_of hp2]; rfl) (by rw [star_of hp2]; rfl)).imp fun σ H R ⟨G, ρ, r, p⟩ => by
    refine ⟨G, ρ, r, ?_⟩
    cases e1 : m ρ with
    | bad => exact (post.badEq e1 p).elim
    | exc C ρ' => exact post.excEq e1 p
    | ok ps ρ' =>
      have p1 := post.bindEq e1 p
      cases e2 : vwL ps ρ' with
      | bad => exact (post.badEq e2 p1).elim
      | exc C ρ2 => exact (vwL_exc e2).elim
      | ok ws ρ2 =>
        have p2 := post.bindEq e2 p1
        intro vs G' H' s1 r1 q1
        obtain ⟨rfl, ts⟩ := vwL_eq r1 q1 e2
        split at p2
        · rename_i i j
          split at p2
          · rename_i hj
            rw [Bool.and_eq_true] at hj
            obtain ⟨x, y, rfl, t, t'⟩ := topL2 ts
            cases t.int
            cases t'.int
            unfold inHalf at hj
            have h1 := of_decide_eq_true hj.1
            have h2 := of_decide_eq_true hj.2
            exact ⟨i, j, rfl, ⟨h1.1, h1.2, h2.1, h2.2⟩, p2 _ G' H' s1 r1 walk_range⟩
          · exact p2.elim
        · exact p2.elim
theorem walk_rangeC {i c : Int} {n : Nat} {σ0 : L2.St} {G0 : Hp} : WalkOk X (Itc i c n) σ0 G0 (rangeC i c n) [] where
  go := fun F k G H σ ρ s r h1 h2 hi => by
    unfold rangeC at hi ⊢
    have hi' : k < n := by simpa using hi
    refine ⟨hi', fun x H' y => ?_⟩
    obtain ⟨rfl, rfl⟩ := y
    refine ⟨G, _, .refl r.sub, ?_, .int _⟩
    rw [List.getElem?_map, List.getElem?_range hi']
    rfl
  stop := fun F k G H σ ρ s r h1 h2 hi => by
    unfold rangeC at hi
    have hi' : n ≤ k := by simpa using hi
    exact hi'
theorem topL3 {K : PySem.W.Frag} {mg : Str → Option Value} {G H : Hp} {xs : List V} {w z y : Pf.W} (h : TopL K mg G H xs [w, z, y]) : ∃ a b c, xs = [a, b, c] ∧ Top K mg G H a w ∧ Top K mg G H b z ∧ Top K mg G H c y := by
  cases h with
  | cons h r =>
    cases r with
    | cons h2 r =>
      cases r with
      | cons h3 r =>
        cases r
        exact ⟨_, _, _, rfl, h, h2, h3⟩
theorem pi_r3 {tg a b c : Expr} {p pos : Pos} {m : M (List Pl)} (hg : Gl X "range") (hm : X.mg "range" = none) (hp : plainX a = true) (hp2 : plainX b = true) (hp3 : plainX c = true) (ha : PA X [a, b, c] (tPs X F U m)) : PI X tg (.Call (.Name "range" p) [a, b, c] [] pos) (tI X F U (itR3 m)) :=
  (pi_range3 hg hm ha (star_of hp) (plainAll X.env pos [b, c] (by simp [hp2, hp3])).1).imp fun σ H R ⟨G, ρ, r, p⟩ => by
    refine ⟨G, ρ, r, ?_⟩
    cases e1 : m ρ with
    | bad => exact (post.badEq e1 p).elim
    | exc C ρ' => exact post.excEq e1 p
    | ok ps ρ' =>
      have p1 := post.bindEq e1 p
      cases e2 : vwL ps ρ' with
      | bad => exact (post.badEq e2 p1).elim
      | exc C ρ2 => exact (vwL_exc e2).elim
      | ok ws ρ2 =>
        have p2 := post.bindEq e2 p1
        intro vs G' H' s1 r1 q1
        obtain ⟨rfl, ts⟩ := vwL_eq r1 q1 e2
        unfold rg3 at p2
        split at p2
        · rename_i i j c
          split at p2
          · rename_i hj
            obtain ⟨x, y, z, rfl, t, t', t''⟩ := topL3 ts
            cases t.int
            cases t'.int
            cases t''.int
            exact ⟨i, j, c, _, rfl, ⟨hj.1, hj.2.1, hj.2.2.1, (Int.toNat_of_nonneg hj.2.2.2).symm⟩, p2 _ G' H' s1 r1 walk_rangeC⟩
          · exact p2.elim
        · exact p2.elim
/-- two lists that stand, in pairs -/
theorem walk_zip {a b : Addr} {σ0 : L2.St} {G0 : Hp} {ws zs : List Pf.W} {gs : List (Nat × Pf.W)}
    (h : ∀ (F : Fr0) G H σ ρ, Sub G0 G → Rel X.K X.mg F G H σ ρ → (∀ g ∈ gs, σ[g.1]? = σ0[g.1]?) → (∀ g ∈ gs, still ρ g) → (∃ vs, H a = some (.lst vs) ∧ RepL X.K X.mg G vs ws) ∧ ∃ us, H b = some (.lst us) ∧ RepL X.K X.mg G us zs) :
    WalkOk X (Itz X.K a b) σ0 G0 ((ws.zip zs).map fun z => .tup [z.1, z.2]) gs where
  go := fun F i G H σ ρ s r h1 h2 hi => by
    obtain ⟨⟨vs, e, q⟩, us, e', q'⟩ := h F G H σ ρ s r h1 h2
    have hi' : i < ws.length ∧ i < zs.length := by
      rw [List.length_map, List.length_zip] at hi
      omega
    have g1 := List.getElem?_eq_getElem hi'.1
    have g2 := List.getElem?_eq_getElem hi'.2
    obtain ⟨v, e2, q2⟩ := q.get g1
    obtain ⟨u, e3, q3⟩ := q'.get g2
    refine ⟨⟨vs, us, v, u, SqL.of e, SqL.of e', e2, e3⟩, fun x H' y => ?_⟩
    obtain ⟨T, x1, x2, rfl, nT, rfl, y1, y2⟩ := y
    have k1 := y1 vs (SqL.of e)
    have k2 := y2 us (SqL.of e')
    rw [e2] at k1
    rw [e3] at k2
    cases k1
    cases k2
    refine ⟨_, .tup [ws[i], zs[i]], .frozen r.sub nT, ?_, .tup upd_same (.cons (q2.mono (.upd (gnone r.sub nT))) (.cons (q3.mono (.upd (gnone r.sub nT))) .nil))⟩
    have gz : (ws.zip zs)[i]? = some (ws[i], zs[i]) := List.getElem?_zip_eq_some.mpr ⟨g1, g2⟩
    rw [List.getElem?_map, gz]
    rfl
  stop := fun F i G H σ ρ s r h1 h2 hi => by
    obtain ⟨⟨vs, e, q⟩, us, e', q'⟩ := h F G H σ ρ s r h1 h2
    refine ⟨vs, us, SqL.of e, SqL.of e', ?_⟩
    rw [List.length_map, List.length_zip] at hi
    rw [q.length, q'.length]
    omega
theorem run_zip {m : M (List Pl)} {R : It → Hp → Prop} (h : tI X F U (itZip m) σ H R) : iZip X.K (tPs X F U m) σ H R := by
    obtain ⟨G, ρ, r, p⟩ := h
    refine ⟨G, ρ, r, ?_⟩
    cases e1 : m ρ with
    | bad => exact (post.badEq e1 p).elim
    | exc C ρ' => exact post.excEq e1 p
    | ok ps ρ' =>
      have p1 := post.bindEq e1 p
      cases e2 : vwL ps ρ' with
      | bad => exact (post.badEq e2 p1).elim
      | exc C ρ2 => exact (vwL_exc e2).elim
      | ok ws ρ2 =>
        have p2 := post.bindEq e2 p1
        intro vs G' H' s1 r1 q1
        obtain ⟨rfl, ts⟩ := vwL_eq r1 q1 e2
        split at p2
        · rename_i pa pb xs ys
          obtain ⟨x, y, rfl, t, t'⟩ := topL2 ts
          obtain ⟨a1, vs, rfl, k1, _⟩ := t.lst r1.sub
          obtain ⟨b1, us, rfl, k2, _⟩ := t'.lst r1.sub
          cases q1 with
          | cons pr1 q1 =>
            cases q1 with
            | cons pr2 q1 =>
              have v12 : pa.view ρ2 = some (.lst xs) ∧ pb.view ρ2 = some (.lst ys) := by
                unfold vwL M.bind at e2
                cases g1 : pa.view ρ2 with
                | none =>
                  rw [show vw pa ρ2 = .bad by unfold vw; rw [g1]] at e2
                  cases e2
                | some w1 =>
                  rw [vw_eq g1] at e2
                  dsimp only at e2
                  unfold vwL M.bind at e2
                  cases g2 : pb.view ρ2 with
                  | none =>
                    rw [show vw pb ρ2 = .bad by unfold vw; rw [g2]] at e2
                    cases e2
                  | some w2 =>
                    rw [vw_eq g2] at e2
                    cases e2
                    exact ⟨rfl, rfl⟩
              refine ⟨a1, b1, vs, us, rfl, SqL.of k1, SqL.of k2, p2 _ G' H' s1 r1 ?_⟩
              exact walk_zip fun F2 G2 H2 σ2 ρ3 s2 r2 h1 h2 =>
                ⟨place_list r1 pr1 v12.1 F2 G2 H2 σ2 ρ3 s2 r2 (fun g hg => h1 g (List.mem_append_left _ hg)) (fun g hg => h2 g (List.mem_append_left _ hg)),
                 place_list r1 pr2 v12.2 F2 G2 H2 σ2 ρ3 s2 r2 (fun g hg => h1 g (List.mem_append_right _ hg)) (fun g hg => h2 g (List.mem_append_right _ hg))⟩
        · exact p2.elim
theorem pi_zipE {elts : List Expr} {kk : Nat} {tpos : Pos} {a b : Expr} {p pos : Pos} {m : M (List Pl)} (hg : Gl X "zip") (hm : X.mg "zip" = none) (hp : plainX a = true) (hp2 : plainX b = true) (ha : PA X [a, b] (tPs X F U m)) :
    PI X (.Tuple elts kk tpos) (.Call (.Name "zip" p) [a, b] [] pos) (tI X F U (itZip m)) :=
  (pi_zip hg hm ha (star_of hp) (plainAll X.env pos [b] (by simp [hp2])).1).imp fun σ H R h => run_zip h
/-! ### enumerate -/
theorem walk_enum {a : Addr} {σ0 : L2.St} {G0 : Hp} {ws : List Pf.W} {gs : List (Nat × Pf.W)}
    (h : ∀ (F : Fr0) G H σ ρ, Sub G0 G → Rel X.K X.mg F G H σ ρ → (∀ g ∈ gs, σ[g.1]? = σ0[g.1]?) → (∀ g ∈ gs, still ρ g) → ∃ vs, H a = some (.lst vs) ∧ RepL X.K X.mg G vs ws) :
    WalkOk X (Ite X.K a) σ0 G0 (enumL ws) gs where
  go := fun F i G H σ ρ s r h1 h2 hi => by
    obtain ⟨vs, e, q⟩ := h F G H σ ρ s r h1 h2
    have hi' : i < ws.length := by
      unfold enumL at hi
      rw [List.length_map, List.length_zipIdx] at hi
      exact hi
    obtain ⟨v, e2, q2⟩ := q.get (List.getElem?_eq_getElem hi')
    refine ⟨⟨vs, v, SqL.of e, e2⟩, fun x H' y => ?_⟩
    obtain ⟨T, x1, rfl, nT, rfl, y1⟩ := y
    have k1 := y1 vs (SqL.of e)
    rw [e2] at k1
    cases k1
    refine ⟨_, .tup [.int (i : Nat), ws[i]], .frozen r.sub nT, ?_, .tup upd_same (.cons (.int _) (.cons (q2.mono (.upd (gnone r.sub nT))) .nil))⟩
    unfold enumL
    rw [List.getElem?_map, List.getElem?_zipIdx, List.getElem?_eq_getElem hi']
    simp
  stop := fun F i G H σ ρ s r h1 h2 hi => by
    obtain ⟨vs, e, q⟩ := h F G H σ ρ s r h1 h2
    refine ⟨vs, SqL.of e, ?_⟩
    unfold enumL at hi
    rw [List.length_map, List.length_zipIdx] at hi
    rw [q.length]
    exact hi
theorem walk_enumS {z : Str} {σ0 : L2.St} {G0 : Hp} : WalkOk X (Itse z) σ0 G0 (enumL (z.cps.toList.map fun c => .str ⟨#[c]⟩)) [] where
  go := fun F i G H σ ρ s r h1 h2 hi => by
    have hi' : i < z.cps.size := by
      unfold enumL at hi
      simpa using hi
    refine ⟨hi', fun x H' y => ?_⟩
    obtain ⟨T, c, rfl, nT, rfl, hc⟩ := y
    refine ⟨_, .tup [.int (i : Nat), .str ⟨#[c]⟩], .frozen r.sub nT, ?_, .tup upd_same (.cons (.int _) (.cons (.str _) .nil))⟩
    unfold enumL
    have e1 : (z.cps.toList.map fun c => Pf.W.str ⟨#[c]⟩)[i]? = some (.str ⟨#[c]⟩) := by
      rw [List.getElem?_map, Array.getElem?_toList, hc]
      rfl
    rw [List.getElem?_map, List.getElem?_zipIdx, e1]
    simp
  stop := fun F i G H σ ρ s r h1 h2 hi => by
    unfold enumL at hi
    have hi' : z.cps.size ≤ i := by simpa using hi
    exact hi'
theorem pi_enumE {elts : List Expr} {kk : Nat} {tpos : Pos} {a : Expr} {p pos : Pos} {m : M (List Pl)} (hg : Gl X "enumerate") (hm : X.mg "enumerate" = none) (hp : plainX a = true) (ha : PA X [a] (tPs X F U m)) :
    PI X (.Tuple elts kk tpos) (.Call (.Name "enumerate" p) [a] [] pos) (tI X F U (itEnum m)) :=
  ((pi_enum hg hm ha (by rw [star_of hp]; rfl)).or (pi_enumS hg hm ha (by rw [star_of hp]; rfl))).imp fun σ H R ⟨G, ρ, r, p⟩ => by
    cases e1 : m ρ with
    | bad => exact (post.badEq e1 p).elim
    | exc C ρ' => refine .inl ⟨G, ρ, r, ?_⟩; rw [e1]; exact post.excEq e1 p
    | ok ps ρ' =>
      have p1 := post.bindEq e1 p
      cases e2 : vwL ps ρ' with
      | bad => exact (post.badEq e2 p1).elim
      | exc C ρ2 => exact (vwL_exc e2).elim
      | ok ws ρ2 =>
        have p2 := post.bindEq e2 p1
        split at p2
        · rename_i pa xs
          refine .inl ⟨G, ρ, r, ?_⟩
          rw [e1]
          intro vs G' H' s1 r1 q1
          obtain ⟨rfl, ts⟩ := vwL_eq r1 q1 e2
          obtain ⟨x, rfl, t⟩ := topL1 ts
          obtain ⟨a1, vs, rfl, k1, _⟩ := t.lst r1.sub
          cases q1 with
          | cons pr1 q1 =>
            have v1 : pa.view ρ2 = some (.lst xs) := by
              unfold vwL M.bind at e2
              cases g1 : pa.view ρ2 with
              | none =>
                rw [show vw pa ρ2 = .bad by unfold vw; rw [g1]] at e2
                cases e2
              | some w1 =>
                rw [vw_eq g1] at e2
                cases e2
                rfl
            exact ⟨a1, vs, rfl, SqL.of k1, p2 _ G' H' s1 r1 (walk_enum (place_list r1 pr1 v1))⟩
        · rename_i pa z
          refine .inr ⟨G, ρ, r, ?_⟩
          rw [e1]
          intro vs G' H' s1 r1 q1
          obtain ⟨rfl, ts⟩ := vwL_eq r1 q1 e2
          obtain ⟨x, rfl, t⟩ := topL1 ts
          cases t.str
          exact ⟨_, rfl, p2 _ G' H' s1 r1 walk_enumS⟩
        · exact p2.elim
end Pf

-- PfSound5
/-! Pf: comprehensions. -/
namespace Pf
open PySem PySem.Spec PyProof.Rows L2
variable {X : Cx} {F : Fr0} {U : WX} {α β γ δ : Type} {P : Hp → Hp → L2.St → Env → β → α → Prop} {P' : Hp → Hp → L2.St → Env → δ → γ → Prop} {G G1 H H1 : Hp} {σ : L2.St} {ρ ρ1 : Env}
/-- the frame as it stands -/
def here (F : Fr0) (G H : Hp) (σ : L2.St) (ρ : Env) : Fr0 := ⟨G, H, fun a => ∃ (i : Nat) (w : Pf.W), ρ[i]? = some (Sl.o w) ∧ σ[i]? = some (some (V.ref a)), F.np, F.lk, σ⟩
theorem Rel.atHere {K : PySem.W.Frag} {mg : Str → Option Value} (r : Rel K mg F G H σ ρ) : Rel K mg (here F G H σ ρ) G H σ ρ :=
  ⟨r.sub, r.len, r.dat, fun i w e => by
    obtain ⟨a, h1, h2, h3, _⟩ := r.own i w e
    exact ⟨a, h1, h2, h3, .inl ⟨i, w, e, h1⟩⟩, r.sep, fun _ _ h _ => h, fun _ _ => rfl, fun _ _ h => .inl h⟩
theorem Rel.merge {K : PySem.W.Frag} {mg : Str → Option Value} {G' H' : Hp} {σ' : L2.St} {ρ' : Env} (r : Rel K mg F G H σ ρ) (r' : Rel K mg (here F G H σ ρ) G' H' σ' ρ') : Rel K mg F G' H' σ' ρ' := by
  have own : ∀ {a}, (here F G H σ ρ).A0 a ∨ H a = none → F.A0 a ∨ F.H0 a = none := fun {a} h => by
    rcases h with ⟨i, w, e, q⟩ | h
    · obtain ⟨b, h1, _, _, h4⟩ := r.own i w e
      rw [q] at h1
      cases h1
      exact h4
    · refine (Classical.em (F.A0 a)).elim .inl fun y => .inr ?_
      cases q : F.H0 a with
      | none => rfl
      | some u => rw [r.frame a u q y] at h; cases h
  refine ⟨r'.sub, r'.len, r'.dat, fun i w e => ?_, r'.sep, fun a o h n => ?_, fun i h => ?_, fun a o h => ?_⟩
  · obtain ⟨a, h1, h2, h3, h4⟩ := r'.own i w e
    exact ⟨a, h1, h2, h3, own h4⟩
  · refine r'.frame a o (r.frame a o h n) fun z => ?_
    rcases own (.inl z) with y | y
    · exact n y
    · rw [h] at y; cases y
  · exact (r'.par i h).trans (r.par i h)
  · have fin : F.A0 a ∨ F.H0 a = none → F.G0 a = some o ∨ F.H0 a = none ∨ F.A0 a ∨ ∃ xs, o = .tup xs := fun z => by
      rcases z with z | z
      · exact .inr (.inr (.inl z))
      · exact .inr (.inl z)
    rcases r'.new a o h with y | y | y | y
    · exact r.new a o y
    · exact fin (own (.inr y))
    · exact fin (own (.inl y))
    · exact .inr (.inr (.inr y))
/-- an object apart: the list that a comprehension makes -/
structure Apart (K : PySem.W.Frag) (mg : Str → Option Value) (F : Fr0) (G H : Hp) (σ : L2.St) (ρ : Env) (D : Addr) (acc : List Pf.W) : Prop where
  free : G D = none
  list : ∃ vs, H D = some (.lst vs) ∧ RepL K mg G vs acc
  own : F.A0 D ∨ F.H0 D = none
  ne : ∀ (i : Nat) w, ρ[i]? = some (.o w) → σ[i]? ≠ some (some (.ref D))
theorem Apart.step {K : PySem.W.Frag} {mg : Str → Option Value} {G' H' : Hp} {σ' : L2.St} {ρ' : Env} {D : Addr} {acc : List Pf.W} (a : Apart K mg F G H σ ρ D acc) (s : Sub G G') (r' : Rel K mg (here F G H σ ρ) G' H' σ' ρ') : Apart K mg F G' H' σ' ρ' D acc := by
  have nA : ¬ (here F G H σ ρ).A0 D := fun ⟨i, w, e, q⟩ => a.ne i w e q
  obtain ⟨vs, h1, h2⟩ := a.list
  refine ⟨?_, ⟨vs, r'.frame D _ h1 nA, h2.mono s⟩, a.own, fun i w e q => ?_⟩
  · cases z : G' D with
    | none => rfl
    | some o =>
      rcases r'.new D o z with y | y | y | ⟨xs, rfl⟩
      · rw [show (here F G H σ ρ).G0 = G from rfl, a.free] at y; cases y
      · rw [show (here F G H σ ρ).H0 = H from rfl, h1] at y; cases y
      · exact absurd y nA
      · have y := r'.sub _ _ z
        rw [r'.frame D _ h1 nA] at y
        cases y
  · obtain ⟨b, k1, _, _, k4⟩ := r'.own i w e
    rw [q] at k1
    cases k1
    rcases k4 with k4 | k4
    · exact nA k4
    · rw [show (here F G H σ ρ).H0 = H from rfl, h1] at k4; cases k4
/-- allocation leaves it -/
theorem Apart.grow {K : PySem.W.Frag} {mg : Str → Option Value} {G' H' : Hp} {D : Addr} {acc : List Pf.W} (a : Apart K mg F G H σ ρ D acc) (g : Grow G H G' H') : Apart K mg F G' H' σ ρ D acc := by
  obtain ⟨vs, h1, h2⟩ := a.list
  refine ⟨?_, ⟨vs, g.same _ _ h1, h2.mono g.le⟩, a.own, a.ne⟩
  cases z : G' D with
  | none => rfl
  | some o =>
    rcases g.new D o z with y | y | ⟨xs, rfl⟩
    · rw [a.free] at y; cases y
    · rw [h1] at y; cases y
    · have y := g.sub _ _ z
      rw [g.same _ _ h1] at y
      cases y
theorem Apart.drop {K : PySem.W.Frag} {mg : Str → Option Value} {D : Addr} {acc : List Pf.W} (a : Apart K mg F G H σ ρ D acc) (i : Nat) : Apart K mg F G H σ (ρ.set i .e) D acc :=
  ⟨a.free, a.list, a.own, fun j w e => by
    rcases set_get e with ⟨_, z⟩ | ⟨_, z⟩
    · cases z
    · exact a.ne j w z⟩
/-- an item more -/
theorem Apart.push {K : PySem.W.Frag} {mg : Str → Option Value} {D : Addr} {acc : List Pf.W} {v : V} {w : Pf.W} {vs : List V} (a : Apart K mg F G H σ ρ D acc) (e : H D = some (.lst vs)) (q : Rep K mg G v w) : Apart K mg F G (upd H D (.lst (vs ++ [v]))) σ ρ D (acc ++ [w]) := by
  obtain ⟨us, h1, h2⟩ := a.list
  rw [e] at h1
  cases h1
  exact ⟨a.free, ⟨_, upd_same, h2.append (.cons q .nil)⟩, a.own, a.ne⟩
theorem Rel.push {K : PySem.W.Frag} {mg : Str → Option Value} {D : Addr} {acc : List Pf.W} {o : HO} (r : Rel K mg F G H σ ρ) (a : Apart K mg F G H σ ρ D acc) : Rel K mg F G (upd H D o) σ ρ := by
  refine ⟨fun b u e => ?_, r.len, r.dat, fun i w e => ?_, r.sep, fun b u h n => ?_, r.par, r.new⟩
  · have hb : b ≠ D := fun z => by rw [z, a.free] at e; cases e
    rw [upd_ne hb]
    exact r.sub _ _ e
  · obtain ⟨b, h1, h2, h3, h4⟩ := r.own i w e
    have hb : b ≠ D := fun z => a.ne i w e (z ▸ h1)
    exact ⟨b, h1, h2, h3.at (.refl _) fun o e => by rw [upd_ne hb]; exact e, h4⟩
  · have hb : b ≠ D := fun z => by
      subst z
      rcases a.own with y | y
      · exact n y
      · rw [h] at y; cases y
    rw [upd_ne hb]
    exact r.frame b u h n
theorem Rel.clear {K : PySem.W.Frag} {mg : Str → Option Value} : ∀ (is : List Nat) {ρ : Env}, Rel K mg F G H σ ρ → Rel K mg F G H σ (clear ρ is)
  | [], _, r => r
  | i :: is, _, r => Rel.clear is (r.drop i)
theorem Apart.clear {K : PySem.W.Frag} {mg : Str → Option Value} {D : Addr} {acc : List Pf.W} : ∀ (is : List Nat) {ρ : Env}, Apart K mg F G H σ ρ D acc → Apart K mg F G H σ (clear ρ is) D acc
  | [], _, a => a
  | i :: is, _, a => Apart.clear is (a.drop i)
theorem clear_length : ∀ (is : List Nat) (ρ : Env), (clear ρ is).length = ρ.length
  | [], _ => rfl
  | i :: is, ρ => by
    show (clear (ρ.set i .e) is).length = _
    rw [clear_length is, List.length_set]
theorem clear_get : ∀ (is : List Nat) (ρ : Env) (j : Nat), (clear ρ is)[j]? = if j ∈ is ∧ j < ρ.length then some .e else ρ[j]?
  | [], ρ, j => by rw [if_neg (by simp)]; rfl
  | i :: is, ρ, j => by
    show (clear (ρ.set i .e) is)[j]? = _
    rw [clear_get is, List.length_set]
    by_cases m : j ∈ is ∧ j < ρ.length
    · rw [if_pos m, if_pos ⟨List.mem_cons_of_mem _ m.1, m.2⟩]
    · rw [if_neg m]
      by_cases e : i = j
      · subst e
        by_cases l : i < ρ.length
        · rw [List.getElem?_set_self l, if_pos ⟨List.mem_cons_self, l⟩]
        · rw [List.getElem?_eq_none (by rw [List.length_set]; omega), if_neg fun z => l z.2, List.getElem?_eq_none (by omega)]
      · rw [List.getElem?_set_ne e, if_neg fun z => m ⟨(List.mem_cons.mp z.1).elim (fun q => absurd q.symm e) id, z.2⟩]
theorem restore_length (ρ₀ : Env) : ∀ (is : List Nat) (ρ : Env), (restore ρ₀ ρ is).length = ρ.length
  | [], _ => rfl
  | i :: is, ρ => by
    show (restore ρ₀ (ρ.set i _) is).length = _
    rw [restore_length ρ₀ is, List.length_set]
theorem restore_get (ρ₀ : Env) : ∀ (is : List Nat) (ρ : Env) (j : Nat), (restore ρ₀ ρ is)[j]? = if j ∈ is ∧ j < ρ.length then some (ρ₀.getD j .e) else ρ[j]?
  | [], ρ, j => by rw [if_neg (by simp)]; rfl
  | i :: is, ρ, j => by
    show (restore ρ₀ (ρ.set i (ρ₀.getD i .e)) is)[j]? = _
    rw [restore_get ρ₀ is, List.length_set]
    by_cases m : j ∈ is ∧ j < ρ.length
    · rw [if_pos m, if_pos ⟨List.mem_cons_of_mem _ m.1, m.2⟩]
    · rw [if_neg m]
      by_cases e : i = j
      · subst e
        by_cases l : i < ρ.length
        · rw [List.getElem?_set_self l, if_pos ⟨List.mem_cons_self, l⟩]
        · rw [List.getElem?_eq_none (by rw [List.length_set]; omega), if_neg fun z => l z.2, List.getElem?_eq_none (by omega)]
      · rw [List.getElem?_set_ne e, if_neg fun z => m ⟨(List.mem_cons.mp z.1).elim (fun q => absurd q.symm e) id, z.2⟩]
/-- into the block -/
theorem Rel.enter {K : PySem.W.Frag} {mg : Str → Option Value} {is : List Nat} (r : Rel K mg F G H σ ρ) (hi : ∀ i ∈ is, F.np ≤ i ∧ i ∉ F.lk) : Rel K mg F G H (wipe σ is) (Pf.clear ρ is) := by
  have rc := r.clear is
  have old : ∀ {i : Nat} {s : Sl}, s ≠ .e → (Pf.clear ρ is)[i]? = some s → ρ[i]? = some s ∧ (wipe σ is)[i]? = σ[i]? := fun {i s} hs e => by
    rw [clear_get] at e
    split at e
    · cases e
      exact absurd rfl hs
    · rename_i m
      refine ⟨e, ?_⟩
      rw [wipe_get, if_neg]
      rw [r.len]
      exact m
  refine ⟨r.sub, by rw [wipe_length, clear_length]; exact r.len, fun i w e => ?_, fun i w e => ?_, fun i j w w' a e1 e2 q1 q2 => ?_, r.frame, fun i h => ?_, r.new⟩
  · obtain ⟨e, k⟩ := old (s := .d w) (fun z => nomatch z) e
    rw [k]
    exact r.dat i w e
  · obtain ⟨e, k⟩ := old (s := .o w) (fun z => nomatch z) e
    rw [k]
    exact r.own i w e
  · obtain ⟨e1, k1⟩ := old (s := .o w) (fun z => nomatch z) e1
    obtain ⟨e2, k2⟩ := old (s := .o w') (fun z => nomatch z) e2
    rw [k1] at q1
    rw [k2] at q2
    exact r.sep i j w w' a e1 e2 q1 q2
  · rw [wipe_get, if_neg]
    · exact r.par i h
    · intro z
      obtain ⟨h1, h2⟩ := hi i z.1
      rcases h with h | h
      · omega
      · exact h2 h
/-- out of it -/
theorem Rel.leave {K : PySem.W.Frag} {mg : Str → Option Value} {is : List Nat} {G' H' : Hp} {ρ' : Env} (r : Rel K mg F G H σ ρ) (hn : noOwn ρ is = true) (s : Sub G G') (r' : Rel K mg F G' H' (wipe σ is) ρ') : Rel K mg F G' H' σ (restore ρ ρ' is) := by
  have hlen : ρ'.length = σ.length := by rw [← r'.len, wipe_length]
  have old : ∀ {i : Nat} {s : Sl}, (restore ρ ρ' is)[i]? = some s → (i ∈ is ∧ ρ[i]? = some s ∧ (∀ w, s ≠ .o w) ) ∨ (ρ'[i]? = some s ∧ (wipe σ is)[i]? = σ[i]?) := fun {i s} e => by
    rw [restore_get] at e
    split at e
    · rename_i m
      have hl : i < ρ.length := by rw [← r.len, ← hlen]; exact m.2
      have hg : ρ[i]? = some ρ[i] := List.getElem?_eq_getElem hl
      have e' : ρ.getD i .e = ρ[i] := by rw [List.getD_eq_getElem?_getD, hg]; rfl
      rw [e'] at e
      cases e
      refine .inl ⟨m.1, hg, fun w z => ?_⟩
      unfold noOwn at hn
      have := List.all_eq_true.mp hn i m.1
      rw [hg, z] at this
      cases this
    · rename_i m
      refine .inr ⟨e, ?_⟩
      rw [wipe_get, if_neg]
      rw [← hlen]
      exact m
  refine ⟨r'.sub, by rw [restore_length]; exact hlen.symm, fun i w e => ?_, fun i w e => ?_, fun i j w w' a e1 e2 q1 q2 => ?_, r'.frame, r.par, r'.new⟩
  · rcases old e with ⟨_, h, _⟩ | ⟨h, k⟩
    · obtain ⟨v, h1, h2⟩ := r.dat i w h
      exact ⟨v, h1, h2.mono s⟩
    · rw [← k]
      exact r'.dat i w h
  · rcases old e with ⟨_, _, h⟩ | ⟨h, k⟩
    · exact absurd rfl (h w)
    · rw [← k]
      exact r'.own i w h
  · rcases old e1 with ⟨_, _, h⟩ | ⟨h1, k1⟩
    · exact absurd rfl (h w)
    · rcases old e2 with ⟨_, _, h⟩ | ⟨h2, k2⟩
      · exact absurd rfl (h w')
      · rw [← k1] at q1
        rw [← k2] at q2
        exact r'.sep i j w w' a h1 h2 q1 q2
theorem guard_ok {gs : List (Nat × Pf.W)} {f : Unit → M γ} {o : Out γ} (h : M.bind (guardM gs) f ρ = o) (hn : o ≠ .bad) : (∀ g ∈ gs, still ρ g) ∧ f () ρ = o := by
  unfold M.bind guardM at h
  by_cases e : ∀ g ∈ gs, still ρ g
  · rw [if_pos e] at h
    exact ⟨e, h⟩
  · rw [if_neg e] at h
    exact absurd h.symm hn
/-- the wish that nothing is raised -/
abbrev U0 : WX := fun _ _ _ _ => False
theorem PE.ex {ι : Type} {c : ι → Prop} {e : Expr} {t : ι → TE} (h : ∀ i, c i → PE X e (t i)) : PE X e (fun σ H Q => ∃ i, c i ∧ t i σ H Q) := ⟨fun pins s σ H Q I ⟨i, hc, q⟩ => (h i hc).run pins s σ H Q I q⟩
theorem PTs.ex {ι : Type} {c : ι → Prop} {e : List Expr} {t : ι → TT} (h : ∀ i, c i → PTs X e (t i)) : PTs X e (fun σ H Q => ∃ i, c i ∧ t i σ H Q) := ⟨fun pins s σ H Q I ⟨i, hc, q⟩ => (h i hc).run pins s σ H Q I q⟩
theorem PG.ex {ι : Type} {c : ι → Prop} {e : Expr} {t : ι → TG} (h : ∀ i, c i → PG X e (t i)) : PG X e (fun v σ H Q => ∃ i, c i ∧ t i v σ H Q) := ⟨fun pins s σ H v u Q I r ⟨i, hc, q⟩ => (h i hc).run pins s σ H v u Q I r q⟩
/-- frames that a text's terms fit -/
def Fits (np : Nat) (lk : List Nat) (F : Fr0) : Prop := F.np ≤ np ∧ ∀ j ∈ F.lk, j ∈ lk
theorem Fits.here {np : Nat} {lk : List Nat} (h : Fits np lk F) : Fits np lk (Pf.here F G H σ ρ) := h
/-- a comprehension's reading -/
theorem run_lc {np : Nat} {lk is : List Nat} {mi : M (List Pf.W × List (Nat × Pf.W))} {tm : Pf.W → M Unit} {mt : M Bool} {me : M Pf.W} {Q : VK} (hF : Fits np lk F) (hi : ∀ i ∈ is, np ≤ i ∧ i ∉ lk) (h : tE X F U (lcE is mi tm mt me) σ H Q) :
    tLc (tI X F U mi) (fun v σ H Q => ∃ F, Fits np lk F ∧ gT X F is tm v σ H Q) (fun σ H Q => ∃ F, Fits np lk F ∧ tB X F U0 mt σ H Q) (fun σ H Q => ∃ F, Fits np lk F ∧ tD X F U0 me σ H Q) is σ H Q := by
  obtain ⟨G, ρ, r, p⟩ := h
  refine ⟨G, ρ, r, ?_⟩
  cases e1 : mi ρ with
  | bad => exact (post.badEq e1 p).elim
  | exc C ρ' => exact post.excEq e1 p
  | ok x ρ0 =>
    have p1 := post.bindEq e1 p
    split at p1
    · rename_i hc
      obtain ⟨hn, hgs⟩ := hc
      split at p1
      · rename_i out ρe e2
        intro J G0 H0 s0 r0 wk D hD
        have hiF : ∀ i ∈ is, F.np ≤ i ∧ i ∉ F.lk := fun i m => ⟨Nat.le_trans hF.1 (hi i m).1, fun z => (hi i m).2 (hF.2 i z)⟩
        -- the invariant
        refine ⟨fun i m H => m = x.1.length - i ∧ i ≤ x.1.length ∧ ∃ G ρ acc, Sub G0 G ∧ Rel X.K X.mg F G H (wipe σ is) ρ ∧ Apart X.K X.mg F G H (wipe σ is) ρ D acc ∧ lcL x.2 is tm mt me (x.1.drop i) acc ρ = .ok out ρe, ?_, ?_⟩
        · have gD := gnone r0.sub hD
          have r1 : Rel X.K X.mg F G0 (upd H0 D (.lst [])) σ ρ0 := r0.grow (.alloc r0.sub hD)
          refine ⟨x.1.length, by simp, Nat.zero_le _, G0, clear ρ0 is, [], .refl _, r1.enter hiF, ⟨gD, ⟨[], upd_same, .nil⟩, ?_, fun i w e q => ?_⟩, e2⟩
          · refine (Classical.em (F.A0 D)).elim .inl fun y => .inr ?_
            cases q : F.H0 D with
            | none => rfl
            | some u => rw [r0.frame D u q y] at hD; cases hD
          · have re := r0.enter hiF
            obtain ⟨b, k1, _, k3, _⟩ := re.own i w e
            rw [q] at k1
            cases k1
            obtain ⟨o, eo⟩ := k3.ex
            rw [hD] at eo
            cases eo
        · rintro i m H2 ⟨rfl, hil, G2, ρ2, acc, s2, r2, a2, e3⟩
          have hσ : ∀ g ∈ x.2, (wipe σ is)[g.1]? = σ[g.1]? := fun g hg => by
            rw [wipe_get, if_neg fun z => hgs g hg z.1]
          by_cases hlt : i < x.1.length
          · right
            rw [List.drop_eq_getElem_cons hlt] at e3
            unfold lcL at e3
            obtain ⟨hst, e4⟩ := guard_ok e3 (fun z => nomatch z)
            obtain ⟨go, yld⟩ := wk.go F i G2 H2 _ ρ2 s2 r2 hσ hst hlt
            refine ⟨go, fun H' => x.1.length - (i + 1) < x.1.length - i ∧ i + 1 ≤ x.1.length ∧ ∃ G ρ acc, Sub G0 G ∧ Rel X.K X.mg F G H' (wipe σ is) ρ ∧ Apart X.K X.mg F G H' (wipe σ is) ρ D acc ∧ lcL x.2 is tm mt me (x.1.drop (i + 1)) acc ρ = .ok out ρe,
              fun H' ⟨q1, q2, q3⟩ => ⟨_, q1, rfl, q2, q3⟩, fun v H3 y => ?_⟩
            obtain ⟨G3, w, g3, hw, q3⟩ := yld v H3 y
            rw [List.getElem?_eq_getElem hlt] at hw
            cases hw
            have r3 := r2.grow g3
            have a3 := a2.grow g3
            have e5 : M.bind (tm x.1[i]) (fun _ => M.bind mt fun c => if c = true then M.bind me fun z => lenM acc.length (M.bind (clrM is) fun _ => lcL x.2 is tm mt me (x.1.drop (i + 1)) (acc ++ [z])) else M.bind (clrM is) fun _ => lcL x.2 is tm mt me (x.1.drop (i + 1)) acc) ρ2 = .ok out ρe := e4
            unfold M.bind at e5
            refine ⟨here F G3 H3 (wipe σ is) ρ2, hF.here, G3, ρ2, x.1[i], r3.atHere, q3, ?_⟩
            cases e6 : tm x.1[i] ρ2 with
            | bad => rw [e6] at e5; cases e5
            | exc C ρ' => rw [e6] at e5; cases e5
            | ok o ρ4 =>
              rw [e6] at e5
              dsimp only at e5 ⊢
              intro σ4 r4 w4
              have w4' : wipe σ4 is = wipe σ is := by
                rw [w4]
                refine List.ext_getElem? fun j => ?_
                rw [wipe_get, wipe_get, wipe_length]
                split <;> rfl
              refine ⟨w4', ?_⟩
              have r4m := r3.merge r4
              have a4 := a3.step (.refl _) r4
              refine ⟨here F G3 H3 σ4 ρ4, hF.here, G3, ρ4, r4m.atHere, ?_⟩
              -- back to the wiped slots
              have back : ∀ {G H : Hp} {ρ : Env} {acc : List Pf.W}, Rel X.K X.mg F G H σ4 ρ → Apart X.K X.mg F G H σ4 ρ D acc → Rel X.K X.mg F G H (wipe σ is) (Pf.clear ρ is) ∧ Apart X.K X.mg F G H (wipe σ is) (Pf.clear ρ is) D acc := fun {G H ρ acc} r a => by
                have rr := r.enter hiF
                rw [w4'] at rr
                refine ⟨rr, a.free, a.list, a.own, fun j w e q => ?_⟩
                rw [clear_get] at e
                split at e
                · cases e
                · rename_i m
                  refine a.ne j w e ?_
                  rw [← w4', wipe_get, if_neg] at q
                  · exact q
                  · rw [r.len]; exact m
              cases e7 : mt ρ4 with
              | bad => rw [e7] at e5; cases e5
              | exc C ρ' => rw [e7] at e5; cases e5
              | ok c ρ5 =>
                rw [e7] at e5
                dsimp only at e5
                intro b G5 H5 s5 r5 hb
                cases hb
                have r5m := r4m.merge r5
                have a5 := a4.step s5 r5
                cases c with
                | false =>
                  obtain ⟨k1, k2⟩ := back r5m a5
                  exact ⟨by omega, hlt, G5, _, acc, (s2.trans g3.le).trans s5, k1, k2, e5⟩
                | true =>
                  replace e5 : M.bind me (fun z => lenM acc.length (M.bind (clrM is) fun _ => lcL x.2 is tm mt me (x.1.drop (i + 1)) (acc ++ [z]))) ρ5 = .ok out ρe := e5
                  unfold M.bind at e5
                  refine ⟨here F G5 H5 σ4 ρ5, hF.here, G5, ρ5, r5m.atHere, ?_⟩
                  cases e8 : me ρ5 with
                  | bad => rw [e8] at e5; cases e5
                  | exc C ρ' => rw [e8] at e5; cases e5
                  | ok z ρ6 =>
                    rw [e8] at e5
                    dsimp only at e5
                    intro u G7 H7 s7 r7 q7
                    have r7m := r5m.merge r7
                    have a7 := a5.step s7 r7
                    unfold lenM at e5
                    by_cases hz : acc.length < sizeLine
                    · rw [if_pos hz] at e5
                      obtain ⟨vs, h1, h2⟩ := a7.list
                      refine ⟨vs, h1, by rw [h2.length]; exact hz, ?_⟩
                      obtain ⟨k1, k2⟩ := back (r7m.push a7) (a7.push h1 q7)
                      exact ⟨by omega, hlt, G7, _, _, ((s2.trans g3.le).trans s5).trans s7, k1, k2, e5⟩
                    · rw [if_neg hz] at e5
                      cases e5
          · left
            have hi' : i = x.1.length := by omega
            rw [hi', List.drop_length] at e3
            unfold lcL at e3
            obtain ⟨hst, e4⟩ := guard_ok e3 (fun z => nomatch z)
            cases e4
            refine ⟨wk.stop F i G2 H2 _ _ s2 r2 hσ hst (by omega), ?_⟩
            have rl := r0.leave hn s2 r2
            refine p1 (.ref D) G2 H2 (s0.trans s2) rl ⟨D, rfl, a2.free, a2.list, a2.own, fun j w e q => ?_⟩
            rw [restore_get] at e
            split at e
            · rename_i m
              have hl : j < ρ0.length := by
                have h1 := r2.len
                rw [wipe_length] at h1
                rw [← r0.len, h1]
                exact m.2
              have hg : ρ0[j]? = some ρ0[j] := List.getElem?_eq_getElem hl
              have e' : ρ0.getD j .e = ρ0[j] := by rw [List.getD_eq_getElem?_getD, hg]; rfl
              rw [e'] at e
              unfold noOwn at hn
              have := List.all_eq_true.mp hn j m.1
              rw [hg, Option.some.inj e] at this
              cases this
            · rename_i m
              refine a2.ne j w e ?_
              rw [wipe_get, if_neg]
              · exact q
              · have h1 := r2.len
                rw [wipe_length] at h1
                rw [h1]
                exact m
      · exact p1.elim
    · exact p1.elim
end Pf

-- PfDct
/-! Pf: dict displays, d.get. -/
namespace Pf
open PySem PySem.Spec PyProof.Rows L2
variable {X : Cx} {F : Fr0} {U : WX} {α β γ δ : Type} {P : Hp → Hp → L2.St → Env → β → α → Prop} {P' : Hp → Hp → L2.St → Env → δ → γ → Prop} {G G1 H H1 : Hp} {σ : L2.St} {ρ ρ1 : Env}
theorem holds_new {K : PySem.W.Frag} {mg : Str → Option Value} {p : Addr} (t : Bool) (h : H p = some (if t then .dT [] else .dK [])) : Holds K mg G H p (.dct t []) := by
  cases t with
  | false => exact ⟨.dK [], [], h, .k [], .nil⟩
  | true => exact ⟨.dT [], [], h, .t [], .nil⟩
theorem pe_newK {pos : Pos} : PE X (.Dict [] [] pos) (tE X F U (M.ret (.o (.dct false [])))) := pe_dnewK.imp fun σ H Q ⟨G, ρ, r, p⟩ q hq =>
  p _ G _ (.refl _) (r.grow (.alloc r.sub hq)) (r.slNew (.alloc r.sub hq) ⟨q, rfl, hq, gnone r.sub hq, holds_new false upd_same⟩)
theorem pe_newT {pos : Pos} : PE X (.Dict [] [] pos) (tE X F U (M.ret (.o (.dct true [])))) := pe_dnewT.imp fun σ H Q ⟨G, ρ, r, p⟩ q hq =>
  p _ G _ (.refl _) (r.grow (.alloc r.sub hq)) (r.slNew (.alloc r.sub hq) ⟨q, rfl, hq, gnone r.sub hq, holds_new true upd_same⟩)
theorem post.needD {w : Pf.W} {f : Unit → M γ} {Q : δ → Hp → Prop} (h : post X F U P' G σ (M.bind (needD w) f ρ) Q) : ∃ t kvs, w = .dct t kvs ∧ post X F U P' G σ (f () ρ) Q := by
  cases w <;> first | exact h.elim | skip
  exact ⟨_, _, rfl, h⟩
theorem dval_getD {K : PySem.W.Frag} {mg : Str → Option Value} {o : Option V} {p : Option Pf.W} {v : V} {w : Pf.W} (h : DVal K mg G o p) (q : Rep K mg G v w) : Rep K mg G (o.getD v) (p.getD w) := by
  cases p with
  | none => rw [show o = none from h]; exact q
  | some w' =>
    obtain ⟨v', rfl, r⟩ := h
    exact r
theorem m1_of {o e : Expr} {m : Str} {apos pos : Pos} (hb : baseX o = true) (hp : plainX e = true) (hl : (apos.endLine == pos.line) = true) : M1 X o m apos e pos where
  base := baseOk hb
  few := few_of (es := [e]) (by simp [hp]) (by simp)
  line := hl
  trees := by rw [star_of hp]; rfl
theorem m2_of {o e f : Expr} {m : Str} {apos pos : Pos} (hb : baseX o = true) (hp : plainX e = true) (hp2 : plainX f = true) (hl : (apos.endLine == pos.line) = true) : M2 X o m apos e f pos where
  base := baseOk hb
  few := few_of (es := [e, f]) (by simp [hp, hp2]) (by simp)
  line := hl
  trees := by rw [star_of hp, star_of hp2]; rfl
theorem pe_dgetE1 {o e : Expr} {apos pos : Pos} {ma : M Pl} {d : M Pf.W} (hu : X.A.units + 65 < cLine) (ho : PE X o (tP X F U ma)) (he : PE X e (tD X F U d)) (hb : baseX o = true) (hp : plainX e = true) (hl : (apos.endLine == pos.line) = true) :
    PE X (.Call (.Attribute o "get" apos) [e] [] pos) (tE X F U (dgetE ma (evS [d]))) := (pe_dget1 (by omega) ho he (m1_of hb hp hl)).imp fun σ H Q ⟨G, ρ, r, p⟩ => ⟨G, ρ, r, by
  have p1 := post.bind (P := pPl X) p
  cases e1 : ma ρ with
  | bad => rw [e1] at p1; exact p1
  | exc C ρ' => rw [e1] at p1; exact p1
  | ok pa ρ' =>
    rw [e1] at p1
    intro x G' H' s1 r1 q1
    obtain ⟨G2, ρ2, a2, s2, r2, q2, p2⟩ := p1 x G' H' s1 r1 q1
    obtain ⟨w, _, t, p3⟩ := post.vw r2 q2 p2
    obtain ⟨tt, kvs, rfl, p3⟩ := post.needD p3
    obtain ⟨a, u, vs, rfl, h1, dk, _⟩ := t.dct r2.sub
    refine ⟨a, rfl, dkv_isD h1 dk, G2, ρ2, r2, ?_⟩
    have p4 := post.bind (P := pWs X) p3
    have p5 : post X F U (pW X) G2 σ (d ρ2) (fun v H1 => ∃ G1 ρ1 w, Sub G2 G1 ∧ Rel X.K X.mg F G1 H1 σ ρ1 ∧ Rep X.K X.mg G1 v w ∧ post X F U (pSl X F) G1 σ (M.bind (vw a2) (fun y => M.of (getW y [w])) ρ1) Q) := by
      have e0 : evS [d] ρ2 = M.bind d (fun w => M.ret [w]) ρ2 := by
        show M.bind d (fun w => M.bind (evS []) fun ws => M.ret (w :: ws)) ρ2 = _
        rfl
      unfold M.bind at e0
      cases e3 : d ρ2 with
      | bad => rw [e3] at e0; rw [e0] at p4; exact p4
      | exc C ρ' => rw [e3] at e0; rw [e0] at p4; exact p4
      | ok w ρ3 =>
        rw [e3] at e0
        rw [e0] at p4
        intro y G3 H3 s3 r3 q3
        obtain ⟨G4, ρ4, ws, s4, r4, q4, p6⟩ := p4 [y] G3 H3 s3 r3 (.cons q3 .nil)
        cases q4 with
        | cons q4 q5 =>
          cases q5
          exact ⟨G4, ρ4, _, s4, r4, q4, p6⟩
    refine (show post X F U (pW X) G2 σ (d ρ2) _ from ?_)
    cases e3 : d ρ2 with
    | bad => rw [e3] at p5; exact p5
    | exc C ρ' => rw [e3] at p5; exact p5
    | ok w ρ3 =>
      rw [e3] at p5
      intro y G3 H3 s3 r3 q3
      obtain ⟨G4, ρ4, w, s4, r4, q4, p6⟩ := p5 y G3 H3 s3 r3 q3
      obtain ⟨w2, hv2, t2, p7⟩ := post.vw r4 (q2.le s4) p6
      obtain ⟨s, es, k⟩ := post.ofNew r4 p7
      cases w2 <;> first | (cases es; done) | skip
      dsimp only [getW] at es
      split at es
      · rename_i hk
        cases es
        obtain ⟨b, u2, vs2, eb, h2, dk2, rr⟩ := t2.dct r4.sub
        cases eb
        obtain ⟨o, g, dv⟩ := dget_of h2 dk2 rr (key_at r4.sub hk (.inl q4))
        exact ⟨o, g, k _ G4 H3 (.refl r4.sub) (dval_getD dv .non)⟩
      · cases es⟩
theorem pe_dgetE2 {o e f : Expr} {apos pos : Pos} {ma : M Pl} {d d' : M Pf.W} (hu : X.A.units + 65 < cLine) (ho : PE X o (tP X F U ma)) (he : PE X e (tD X F U d)) (hf : PE X f (tD X F U d')) (hb : baseX o = true) (hp : plainX e = true) (hp2 : plainX f = true) (hl : (apos.endLine == pos.line) = true) :
    PE X (.Call (.Attribute o "get" apos) [e, f] [] pos) (tE X F U (dgetE ma (evS [d, d']))) := (pe_dget2 (by omega) ho he hf (m2_of hb hp hp2 hl)).imp fun σ H Q ⟨G, ρ, r, p⟩ => ⟨G, ρ, r, by
  have p1 := post.bind (P := pPl X) p
  cases e1 : ma ρ with
  | bad => rw [e1] at p1; exact p1
  | exc C ρ' => rw [e1] at p1; exact p1
  | ok pa ρ' =>
    rw [e1] at p1
    intro x G' H' s1 r1 q1
    obtain ⟨G2, ρ2, a2, s2, r2, q2, p2⟩ := p1 x G' H' s1 r1 q1
    obtain ⟨w, _, t, p3⟩ := post.vw r2 q2 p2
    obtain ⟨tt, kvs, rfl, p3⟩ := post.needD p3
    obtain ⟨a, u, vs, rfl, h1, dk, _⟩ := t.dct r2.sub
    refine ⟨a, rfl, dkv_isD h1 dk, G2, ρ2, r2, ?_⟩
    have p4 := post.bind (P := pWs X) p3
    have e0 : evS [d, d'] ρ2 = M.bind d (fun w => M.bind d' (fun w' => M.ret [w, w'])) ρ2 := by
      show M.bind d (fun w => M.bind (M.bind d' fun w' => M.bind (evS []) fun ws => M.ret (w' :: ws)) fun ws => M.ret (w :: ws)) ρ2 = _
      unfold M.bind
      cases d ρ2 with
      | bad => rfl
      | exc C ρ' => rfl
      | ok w ρ' =>
        dsimp only
        cases d' ρ' <;> rfl
    unfold M.bind at e0
    refine (show post X F U (pW X) G2 σ (d ρ2) _ from ?_)
    cases e3 : d ρ2 with
    | bad => rw [e3] at e0; rw [e0] at p4; exact p4
    | exc C ρ' => rw [e3] at e0; rw [e0] at p4; exact p4
    | ok w ρ3 =>
      rw [e3] at e0
      dsimp only at e0
      rw [e0] at p4
      intro y G3 H3 s3 r3 q3
      refine ⟨G3, ρ3, r3, ?_⟩
      refine (show post X F U (pW X) G3 σ (d' ρ3) _ from ?_)
      cases e4 : d' ρ3 with
      | bad => rw [e4] at p4; exact p4
      | exc C ρ' => rw [e4] at p4; exact fun G' H' s' r' => p4 G' H' (s3.trans s') r'
      | ok w' ρ4 =>
        rw [e4] at p4
        intro z G4 H4 s4 r4 q4
        obtain ⟨G5, ρ5, ws, s5, r5, q5, p6⟩ := p4 [y, z] G4 H4 (s3.trans s4) r4 (.cons (q3.mono s4) (.cons q4 .nil))
        cases q5 with
        | cons q5 q6 =>
          cases q6 with
          | cons q6 q7 =>
            cases q7
            obtain ⟨w2, hv2, t2, p7⟩ := post.vw r5 (q2.le s5) p6
            obtain ⟨s, es, k⟩ := post.ofNew r5 p7
            cases w2 <;> first | (cases es; done) | skip
            dsimp only [getW] at es
            split at es
            · rename_i hk
              cases es
              obtain ⟨b, u2, vs2, eb, h2, dk2, rr⟩ := t2.dct r5.sub
              cases eb
              obtain ⟨o, g, dv⟩ := dget_of h2 dk2 rr (key_at r5.sub hk (.inl q5))
              exact ⟨o, g, k _ G5 H4 (.refl r5.sub) (dval_getD dv q6)⟩
            · cases es⟩
/-! ### displays -/
def tDA (X : Cx) (F : Fr0) (U : WX) (m : M Pf.W) : TE := fun σ H Q => ∃ F' : Fr0, F'.np = F.np ∧ F'.lk = F.lk ∧ tD X F' U m σ H Q
theorem pe_tDA {e : Expr} {m : M Pf.W} (h : ∀ F' : Fr0, F'.np = F.np → F'.lk = F.lk → PE X e (tD X F' U m)) : PE X e (tDA X F U m) := ⟨fun pins s σ H Q I ⟨F', h1, h2, q⟩ => (h F' h1 h2).run pins s σ H Q I q⟩
theorem run_dispS {F' : Fr0} (h1 : F'.np = F.np) (h2 : F'.lk = F.lk) : ∀ {ms : List (M Pf.W × M Pf.W)} {ρ ρ' : Env} {ps : List (Pf.W × Pf.W)} {G H : Hp} {Q : List (V × V) → Hp → Prop}, dispS ms ρ = .ok ps ρ' → Rel X.K X.mg F' G H σ ρ →
    (∀ (vs : List (V × V)) G2 H2, Sub G G2 → Rel X.K X.mg F' G2 H2 σ ρ' → RepL X.K X.mg G2 (vs.map (·.1)) (ps.map (·.1)) → RepL X.K X.mg G2 (vs.map (·.2)) (ps.map (·.2)) → Q vs H2) →
    tPairs (ms.map fun m => (tDA X F U m.1, tDA X F U m.2)) σ H Q
  | [], ρ, ρ', ps, G, H, Q, e, r, h => by
    cases e
    exact h [] G H (.refl _) r .nil .nil
  | (k, v) :: ms, ρ, ρ', ps, G, H, Q, e, r, h => by
    have e' : M.bind k (fun a => M.bind v fun b => M.bind (dispS ms) fun ps => M.ret ((a, b) :: ps)) ρ = .ok ps ρ' := e
    unfold M.bind at e'
    cases e1 : k ρ with
    | bad => rw [e1] at e'; cases e'
    | exc C ρ1 => rw [e1] at e'; cases e'
    | ok a ρ1 =>
      rw [e1] at e'
      dsimp only at e'
      cases e2 : v ρ1 with
      | bad => rw [e2] at e'; cases e'
      | exc C ρ2 => rw [e2] at e'; cases e'
      | ok b ρ2 =>
        rw [e2] at e'
        dsimp only at e'
        cases e3 : dispS ms ρ2 with
        | bad => rw [e3] at e'; cases e'
        | exc C ρ3 => rw [e3] at e'; cases e'
        | ok qs ρ3 =>
          rw [e3] at e'
          cases e'
          refine ⟨F', h1, h2, G, ρ, r, ?_⟩
          show post X F' U (pW X) G σ (k ρ) _
          rw [e1]
          intro x G1 H1 s1 r1 q1
          refine ⟨F', h1, h2, G1, ρ1, r1, ?_⟩
          show post X F' U (pW X) G1 σ (v ρ1) _
          rw [e2]
          intro y G2 H2 s2 r2 q2
          exact run_dispS h1 h2 e3 r2 fun vs G3 H3 s3 r3 k1 k2 => h ((x, y) :: vs) G3 H3 ((s1.trans s2).trans s3) r3 (.cons (q1.mono (s2.trans s3)) k1) (.cons (q2.mono s3) k2)
theorem pairs_key {K : PySem.W.Frag} {mg : Str → Option Value} {G : Hp} : ∀ {vs : List (V × V)} {ps : List (Pf.W × Pf.W)}, RepL K mg G (vs.map (·.1)) (ps.map (·.1)) → ps.all (fun p => p.1.key1) = true → ∃ kvs : List (Key × V), vs = kvs.map (fun kv => (kV kv.1, kv.2)) ∧ ps.map (·.1) = kvs.map (fun p => kW p.1)
  | [], [], _, _ => ⟨[], rfl, rfl⟩
  | [], _ :: _, h, _ => by cases h
  | _ :: _, [], h, _ => by cases h
  | v :: vs, p :: ps, h, hk => by
    rw [List.all_cons, Bool.and_eq_true] at hk
    simp only [List.map_cons] at h
    cases h with
    | cons h1 h =>
      obtain ⟨kvs, rfl, e⟩ := pairs_key h hk.2
      obtain ⟨k, hk⟩ := key1_of hk.1
      rw [hk] at h1
      refine ⟨(k, v.2) :: kvs, ?_, ?_⟩
      · simp only [List.map_cons, ← rep_kW h1]
      · simp only [List.map_cons, hk, e]
theorem merge_rel {K : PySem.W.Frag} {mg : Str → Option Value} {G : Hp} : ∀ {kvs : List (Key × V)} {ps : List (Pf.W × Pf.W)} {acc : List (Key × V)} {accW : List (Pf.W × Pf.W)}, ps.map (·.1) = kvs.map (fun p => kW p.1) → RepL K mg G (kvs.map (·.2)) (ps.map (·.2)) →
    accW.map (·.1) = acc.map (fun p => kW p.1) → RepL K mg G (acc.map (·.2)) (accW.map (·.2)) → (mergeW accW ps).map (·.1) = (mergeK acc kvs).map (fun p => kW p.1) ∧ RepL K mg G ((mergeK acc kvs).map (·.2)) ((mergeW accW ps).map (·.2))
  | [], [], _, _, _, _, h, r => ⟨h, r⟩
  | [], _ :: _, _, _, e, _, _, _ => by simp at e
  | _ :: _, [], _, _, e, _, _, _ => by simp at e
  | kv :: kvs, p :: ps, acc, accW, e, r, h1, h2 => by
    rw [List.map_cons, List.map_cons, List.cons.injEq] at e
    rw [List.map_cons, List.map_cons] at r
    cases r with
    | cons r1 r =>
      obtain ⟨p1, p2⟩ := put_rel (f := kW) kW_eqv r1 h1 h2 kv.1
      show (mergeW (putW accW p.1 p.2) ps).map _ = (mergeK (putK acc kv.1 kv.2) kvs).map _ ∧ RepL K mg G ((mergeK (putK acc kv.1 kv.2) kvs).map _) ((mergeW (putW accW p.1 p.2) ps).map _)
      rw [e.1]
      exact merge_rel e.2 r p1 p2
/-- an object that no slot owns and that is not frozen is changed -/
theorem Rel.poke {K : PySem.W.Frag} {mg : Str → Option Value} {D : Addr} {o : HO} (r : Rel K mg F G H σ ρ) (hf : G D = none) (ho : F.A0 D ∨ F.H0 D = none) (hn : ∀ (i : Nat) w, ρ[i]? = some (.o w) → σ[i]? ≠ some (some (.ref D))) : Rel K mg F G (upd H D o) σ ρ := by
  refine ⟨fun b u e => ?_, r.len, r.dat, fun i w e => ?_, r.sep, fun b u h n => ?_, r.par, r.new⟩
  · have hb : b ≠ D := fun z => by rw [z, hf] at e; cases e
    rw [upd_ne hb]
    exact r.sub _ _ e
  · obtain ⟨b, h1, h2, h3, h4⟩ := r.own i w e
    have hb : b ≠ D := fun z => hn i w e (z ▸ h1)
    exact ⟨b, h1, h2, h3.at (.refl _) fun o e => by rw [upd_ne hb]; exact e, h4⟩
  · have hb : b ≠ D := fun z => by
      subst z
      rcases ho with y | y
      · exact n y
      · rw [h] at y; cases y
    rw [upd_ne hb]
    exact r.frame b u h n
theorem pe_dispE {keys : List (Option Expr)} {values : List Expr} {pos : Pos} {ms : List (M Pf.W × M Pf.W)} (h : PPs X pos keys values (ms.map fun m => (tDA X F U m.1, tDA X F U m.2))) (hall : keys.all (·.isSome) = true) (hl : keys.length = values.length) (h0 : keys ≠ []) (h15 : keys.length ≤ 15) :
    PE X (.Dict keys values pos) (tE X F U (dispE (dispS ms))) := (pe_disp h hall hl h0 h15).imp fun σ H Q ⟨G, ρ, r, p⟩ => by
  intro a ha
  unfold dispE at p
  cases e : dispS ms ρ with
  | bad => rw [e] at p; exact p.elim
  | exc C ρ' => rw [e] at p; exact p.elim
  | ok ps ρ' =>
    rw [e] at p
    dsimp only at p
    split at p
    · rename_i hc
      have r1 : Rel X.K X.mg F G (upd H a (.dK [])) σ ρ := r.grow (.alloc r.sub ha)
      have hA : F.A0 a ∨ F.H0 a = none := by
        by_cases z : F.A0 a
        · exact .inl z
        · refine .inr ?_
          cases q : F.H0 a with
          | none => rfl
          | some o => rw [r.frame a o q z] at ha; cases ha
      have nA : ¬ (here F G (upd H a (.dK [])) σ ρ).A0 a := fun ⟨i, w, e1, q⟩ => by
        obtain ⟨b, k1, _, k3, _⟩ := r.own i w e1
        rw [q] at k1
        cases k1
        obtain ⟨o, eo⟩ := k3.ex
        rw [ha] at eo
        cases eo
      refine run_dispS (F := F) (F' := here F G (upd H a (.dK [])) σ ρ) rfl rfl e r1.atHere fun vs G2 H2 s2 r2 k1 k2 => ?_
      have e2 : H2 a = some (.dK []) := r2.frame a _ upd_same nA
      obtain ⟨kvs, rfl, ek⟩ := pairs_key k1 hc.2
      have lk : kvs.length = ps.length := by
        have := congrArg List.length ek
        rw [List.length_map, List.length_map] at this
        exact this.symm
      refine ⟨e2, kvs, rfl, by omega, ?_⟩
      have k2' : RepL X.K X.mg G2 (kvs.map (·.2)) (ps.map (·.2)) := by
        rw [List.map_map] at k2
        exact k2
      obtain ⟨m1, m2⟩ := merge_rel (acc := []) (accW := []) ek k2' rfl .nil
      have hG : G2 a = none := by
        cases z : G2 a with
        | none => rfl
        | some o =>
          rcases r2.new a o z with y | y | y | ⟨xs, rfl⟩
          · rw [show (here F G (upd H a (.dK [])) σ ρ).G0 = G from rfl, gnone r.sub ha] at y; cases y
          · replace y : upd H a (.dK []) a = none := y; rw [upd_same] at y; cases y
          · exact absurd y nA
          · have := r2.sub _ _ z
            rw [e2] at this
            cases this
      have hne : ∀ (i : Nat) w, ρ'[i]? = some (.o w) → σ[i]? ≠ some (some (.ref a)) := fun i w e3 q => by
        obtain ⟨b, j1, _, _, j4⟩ := r2.own i w e3
        rw [q] at j1
        cases j1
        rcases j4 with j4 | j4
        · exact nA j4
        · replace j4 : upd H a (.dK []) a = none := j4; rw [upd_same] at j4; cases j4
      have r3 := (r1.merge r2).poke (o := .dK (mergeK [] kvs)) hG hA hne
      exact p _ G2 _ s2 r3 ⟨a, rfl, hG, ⟨.dK (mergeK [] kvs), _, upd_same, by rw [m1]; exact .k _, m2⟩, hA, hne⟩
    · exact p.elim
end Pf

-- PfStmt
/-! Pf: statements. -/
namespace Pf
open PySem PySem.Spec PyProof.Rows L2
variable {X : Cx} {F : Fr0} {U : WX} {α β γ δ : Type} {P : Hp → Hp → L2.St → Env → β → α → Prop} {P' : Hp → Hp → L2.St → Env → δ → γ → Prop} {G G1 H H1 : Hp} {σ : L2.St} {ρ ρ1 : Env}
def postS (X : Cx) (F : Fr0) (U : WX) (G : Hp) (D : Ends) : Out Fl → Prop
  | .ok .nx ρ' => ∀ σ' G' H', Sub G G' → Rel X.K X.mg F G' H' σ' ρ' → D.nx σ' H'
  | .ok .bk ρ' => ∀ σ' G' H', Sub G G' → Rel X.K X.mg F G' H' σ' ρ' → D.bk σ' H'
  | .ok .ct ρ' => ∀ σ' G' H', Sub G G' → Rel X.K X.mg F G' H' σ' ρ' → D.ct σ' H'
  | .ok (.rt s) ρ' => ∀ v σ' G' H', Sub G G' → Rel X.K X.mg F G' H' σ' ρ' → SlRep X.K X.mg F G' H' σ' ρ' v s → D.rt v H'
  | .exc C ρ' => ∀ σ' G' H', Sub G G' → Rel X.K X.mg F G' H' σ' ρ' → exW X.mg U C σ' H'
  | .bad => False
def tS (X : Cx) (F : Fr0) (U : WX) (m : M Fl) : TS := fun D σ H => ∃ G ρ, Rel X.K X.mg F G H σ ρ ∧ postS X F U G D (m ρ)
theorem postS.le {D : Ends} {o : Out Fl} (s : Sub G G1) (h : postS X F U G D o) : postS X F U G1 D o := by
  cases o with
  | ok f ρ' => cases f with
    | nx => exact fun σ' G' H' s' r => h σ' G' H' (s.trans s') r
    | bk => exact fun σ' G' H' s' r => h σ' G' H' (s.trans s') r
    | ct => exact fun σ' G' H' s' r => h σ' G' H' (s.trans s') r
    | rt t => exact fun v σ' G' H' s' r q => h v σ' G' H' (s.trans s') r q
  | exc C ρ' => exact fun σ' G' H' s' r => h σ' G' H' (s.trans s') r
  | bad => exact h
theorem _root_.L2.PS.imp {st : Stmt} {t t' : TS} (h : PS X st t) (i : ∀ D σ H, t' D σ H → t D σ H) : PS X st t' := ⟨fun pins s σ H D I q => h.run pins s σ H D I (i _ _ _ q)⟩
theorem _root_.L2.PSs.imp {st : List Stmt} {t t' : TS} (h : PSs X st t) (i : ∀ D σ H, t' D σ H → t D σ H) : PSs X st t' := ⟨fun pins s σ H D I q => h.run pins s σ H D I (i _ _ _ q)⟩
theorem ps_bad {st : Stmt} : PS X st (tS X F U M.bad) := ⟨fun _ _ _ _ _ _ ⟨_, _, _, h⟩ => h.elim⟩
theorem pss_blk : ∀ {sts : List Stmt} {ms : List (M Fl)}, Paired (fun st m => PS X st (tS X F U m)) sts ms → PSs X sts (tS X F U (blkS ms))
  | _, _, .nil => pss_nil.imp fun D σ H ⟨G, ρ, r, p⟩ => p σ G H (.refl _) r
  | st :: sts, m :: ms, .cons h hs => (pss_cons h (pss_blk hs)).imp fun D σ H ⟨G, ρ, r, p⟩ => by
    refine ⟨G, ρ, r, ?_⟩
    have p' : postS X F U G D (M.bind m (fun f => match f with
      | .nx => blkS ms
      | f => M.ret f) ρ) := p
    unfold M.bind at p'
    cases e1 : m ρ with
    | bad => rw [e1] at p'; exact p'
    | exc C ρ' => rw [e1] at p'; exact p'
    | ok f ρ' =>
      rw [e1] at p'
      cases f with
      | nx => exact fun σ' G' H' s r' => ⟨G', ρ', r', p'.le s⟩
      | bk => exact p'
      | ct => exact p'
      | rt s => exact p'
theorem ps_nx {st : Stmt} (h : PS X st tNext) : PS X st (tS X F U nxS) := h.imp fun D σ H ⟨G, ρ, r, p⟩ => p σ G H (.refl _) r
/-- an expression, then what is done with its value -/
theorem postS.bind {m : M α} {f : α → M Fl} {D : Ends} (h : postS X F U G D (M.bind m f ρ)) (hx : ∀ σ' G' H' C ρ', m ρ = .exc C ρ' → Sub G G' → Rel X.K X.mg F G' H' σ' ρ' → exW X.mg U C σ' H' → exW X.mg U C σ' H' := fun _ _ _ _ _ _ _ _ h => h) :
    post X F U P G σ (m ρ) (fun v H1 => ∃ G1 ρ1 a, Sub G G1 ∧ Rel X.K X.mg F G1 H1 σ ρ1 ∧ P G1 H1 σ ρ1 v a ∧ postS X F U G1 D (f a ρ1)) := by
  unfold M.bind at h
  cases e : m ρ with
  | ok a ρ' =>
    rw [e] at h
    exact fun v G' H' s r p => ⟨G', ρ', a, s, r, p, h.le s⟩
  | exc C ρ' =>
    rw [e] at h
    exact fun G' H' s r => h σ G' H' s r
  | bad =>
    rw [e] at h
    exact h
theorem ps_dropS {e : Expr} {pos : Pos} {m : M Sl} (h : PE X e (tE X F U m)) (hc : noComp e = true) : PS X (.Expr e pos) (tS X F U (dropS m)) := by
  have hs : swapsWith e none pos.line X.env = pure false := by
    cases e <;> first | rfl | (cases hc)
  refine (ps_expr h hs).imp fun D σ H ⟨G, ρ, r, p⟩ => ⟨G, ρ, r, ?_⟩
  have p1 := postS.bind (P := pSl X F) (σ := σ) p
  cases e1 : m ρ with
  | bad => rw [e1] at p1; exact p1
  | exc C ρ' => rw [e1] at p1; exact p1
  | ok s ρ' =>
    rw [e1] at p1
    intro v G' H' s1 r1 q1
    obtain ⟨G2, ρ2, a, s2, r2, q2, p2⟩ := p1 v G' H' s1 r1 q1
    exact p2 σ G2 H' (.refl _) r2
theorem ps_retS {e : Expr} {pos : Pos} {m : M Sl} (h : PE X e (tE X F U m)) : PS X (.Return (some e) pos) (tS X F U (retS m)) := (L2.ps_ret h).imp fun D σ H ⟨G, ρ, r, p⟩ => by
  refine ⟨G, ρ, r, ?_⟩
  have p1 := postS.bind (P := pSl X F) (σ := σ) p
  cases e1 : m ρ with
  | bad => rw [e1] at p1; exact p1
  | exc C ρ' => rw [e1] at p1; exact p1
  | ok s ρ' =>
    rw [e1] at p1
    intro v G' H' s1 r1 q1
    obtain ⟨G2, ρ2, a, s2, r2, q2, p2⟩ := p1 v G' H' s1 r1 q1
    exact p2 v σ G2 H' (.refl _) r2 q2
theorem ps_retN' {pos : Pos} : PS X (.Return none pos) (tS X F U (retS (cst .non))) := ps_retN.imp fun D σ H ⟨G, ρ, r, p⟩ => p .non σ G H (.refl _) r .non
/-- return x, x a list of the def's own -/
theorem ps_retMove {x : Str} {p pos : Pos} {i np : Nat} (hx : PE X (.Name x p) (tVar i)) : PS X (.Return (some (.Name x p)) pos) (tS X F U (retS (moveE np i))) := (L2.ps_ret (pe_lock hx)).imp fun D σ H ⟨G, ρ, r, q⟩ => by
  have q' : postS X F U G D (M.bind (moveE np i) (fun s => M.ret (.rt s)) ρ) := q
  unfold M.bind moveE at q'
  cases e1 : ρ[i]? with
  | none => rw [e1] at q'; exact q'.elim
  | some s =>
    rw [e1] at q'
    cases s with
    | e => exact q'.elim
    | d w =>
      obtain ⟨v, h1, h2⟩ := r.dat i w e1
      exact ⟨v, h1, .inl (q' v σ G H (.refl _) r h2)⟩
    | o w =>
      dsimp only at q'
      by_cases hn : np ≤ i
      · rw [if_pos hn] at q'
        obtain ⟨a, h1, h2, h3, h4⟩ := r.own i w e1
        refine ⟨_, h1, .inl (q' _ σ G H (.refl _) (r.drop i) ⟨a, rfl, h2, h3, h4, fun j w' e q => ?_⟩)⟩
        rcases set_get e with ⟨_, z⟩ | ⟨hn, z⟩
        · cases z
        · exact hn (r.sep i j w w' a e1 z h1 q)
      · rw [if_neg hn] at q'
        obtain ⟨a, u, h1, h2, h3, h4⟩ := r.freezeAt e1
        exact ⟨_, h1, LkQ.of h2 h3 fun o f => q' _ σ _ _ (h4 o f).1 (h4 o f).2.2 (h4 o f).2.1⟩
theorem ps_flow {st : Stmt} {f : Fl} (h : PS X st (tS X F U (M.ret f))) : PS X st (tS X F U (M.ret f)) := h
theorem ps_breakS {pos : Pos} : PS X (.Break pos) (tS X F U (M.ret .bk)) := L2.ps_break.imp fun D σ H ⟨G, ρ, r, p⟩ => p σ G H (.refl _) r
theorem ps_contS {pos : Pos} : PS X (.Continue pos) (tS X F U (M.ret .ct)) := L2.ps_continue.imp fun D σ H ⟨G, ρ, r, p⟩ => p σ G H (.refl _) r
theorem ps_ifS {c : Expr} {a b : List Stmt} {pos : Pos} {mc : M Bool} {ma mb : M Fl} (hc : PT X c (tB X F U mc)) (ha : PSs X a (tS X F U ma)) (hb : PSs X b (tS X F U mb)) : PS X (.If c a b pos) (tS X F U (ifE mc ma mb)) := (L2.ps_if hc ha hb).imp fun D σ H ⟨G, ρ, r, p⟩ => by
  refine ⟨G, ρ, r, ?_⟩
  have p1 := postS.bind (P := pB) (σ := σ) p
  cases e1 : mc ρ with
  | bad => rw [e1] at p1; exact p1
  | exc C ρ' => rw [e1] at p1; exact p1
  | ok s ρ' =>
    rw [e1] at p1
    intro v G' H' s1 r1 q1
    obtain ⟨G2, ρ2, a, s2, r2, q2, p2⟩ := p1 v G' H' s1 r1 q1
    cases q2
    cases v with
    | true => exact ⟨G2, ρ2, r2, p2⟩
    | false => exact ⟨G2, ρ2, r2, p2⟩
/-- x = e -/
theorem asg_post {np : Nat} {lk : List Nat} {i : Nat} {s : Sl} {D : Ends} {v : V} (hF : Fits np lk F) (r : Rel X.K X.mg F G H σ ρ) (q : SlRep X.K X.mg F G H σ ρ v s) (h : postS X F U G D (M.bind (asg np lk i s) (fun _ => M.ret .nx) ρ)) : D.nx (σ.set i (some v)) H := by
  unfold M.bind at h
  cases e : asg np lk i s ρ with
  | bad => rw [e] at h; exact h.elim
  | exc C ρ' =>
    unfold asg at e
    split at e <;> cases e
  | ok o ρ' =>
    rw [e] at h
    obtain ⟨h1, h2, h3, rfl⟩ := asg_of e
    exact h _ G H (.refl _) (r.store (Nat.le_trans hF.1 h1) (fun z => h2 (hF.2 _ z)) h3 q)
theorem assoc_post {m : M α} {f : α → M γ} {g : γ → M Fl} : M.bind (M.bind m f) g ρ = M.bind m (fun a => M.bind (f a) g) ρ := by
  unfold M.bind
  cases m ρ <;> rfl
theorem run_set {np i : Nat} {lk : List Nat} {m : M Sl} {D : Ends} (hF : Fits np lk F) (h : tS X F U (actS (setS np lk i m)) D σ H) : tAsg (tE X F U m) (gName i) D σ H := by
  obtain ⟨G, ρ, r, p⟩ := h
  refine ⟨G, ρ, r, ?_⟩
  have p0 : postS X F U G D (M.bind (M.bind m fun s => asg np lk i s) (fun _ => M.ret .nx) ρ) := p
  rw [assoc_post] at p0
  have p1 := postS.bind (P := pSl X F) (σ := σ) p0
  cases e1 : m ρ with
  | bad => rw [e1] at p1; exact p1
  | exc C ρ' => rw [e1] at p1; exact p1
  | ok s ρ' =>
    rw [e1] at p1
    intro v G' H' s1 r1 q1
    obtain ⟨G2, ρ2, a, s2, r2, q2, p2⟩ := p1 v G' H' s1 r1 q1
    exact asg_post hF r2 q2 p2
theorem ps_setS {x : Str} {p pos : Pos} {e : Expr} {np i : Nat} {lk : List Nat} {m : M Sl} (hF : Fits np lk F) (hN : X.N.Nodup) (hi : X.N[i]? = some x) (hx : Loc X.env.scope x) (hf : X.fn x = true ∨ X.env.scope.names.lookup x = some .local) (he : PE X e (tE X F U m)) (hs : swapsWith e (some (.Name x p)) pos.line X.env = pure false) :
    PS X (.Assign [.Name x p] e pos) (tS X F U (actS (setS np lk i m))) := (ps_set hN hi hx he hs hf).imp fun D σ H h => run_set hF h
/-- a, b = e -/
theorem ps_tupS {es : List Expr} {k : Nat} {p pos : Pos} {e : Expr} {is : List Nat} {m : M Pf.W} {tm : Pf.W → M Unit} (hg : PG X (.Tuple es k p) (gT X F is tm)) (he : PE X e (tD X F U m)) (ht : noTup e = true) (hx : ∀ w ρ C ρ', tm w ρ ≠ .exc C ρ') :
    PS X (.Assign [.Tuple es k p] e pos) (tS X F U (actS (M.bind m tm))) := by
  have hs : swapsWithSole [.Tuple es k p] e pos.line X.env = pure false := by
    cases e <;> rfl
  have hw : swappedStores [.Tuple es k p] e X.env = pure none := by
    cases e <;> first | rfl | (cases ht)
  refine (ps_asg he hg hs hw rfl).imp fun D σ H ⟨G, ρ, r, p⟩ => ⟨G, ρ, r, ?_⟩
  have p0 : postS X F U G D (M.bind (M.bind m tm) (fun _ => M.ret .nx) ρ) := p
  rw [assoc_post] at p0
  have p1 := postS.bind (P := pW X) (σ := σ) p0
  cases e1 : m ρ with
  | bad => rw [e1] at p1; exact p1
  | exc C ρ' => rw [e1] at p1; exact p1
  | ok s ρ' =>
    rw [e1] at p1
    intro v G' H' s1 r1 q1
    obtain ⟨G2, ρ2, w, s2, r2, q2, p2⟩ := p1 v G' H' s1 r1 q1
    refine ⟨G2, ρ2, w, r2, q2, ?_⟩
    unfold M.bind at p2
    cases e2 : tm w ρ2 with
    | bad => rw [e2] at p2; exact p2
    | exc C ρ' => exact hx _ _ _ _ e2
    | ok o ρ3 =>
      rw [e2] at p2
      exact fun σ' r' _ => p2 σ' G2 H' (.refl _) r'
/-- x[k] = e -/
theorem ps_setItemS {x : Str} {p p2 pos : Pos} {k e : Expr} {i : Nat} {mk : M Pl} {m : M Pf.W} (hu : X.A.units + 65 < cLine) (hx : PE X (.Name x p) (tVar i)) (hk : PE X k (tP X F U mk)) (he : PE X e (tD X F U m)) (hs : noSlice k = true) :
    PS X (.Assign [.Subscript (.Name x p) k p2] e pos) (tS X F U (actS (setItemS i mk m))) := by
  have hsw : swapsWithSole [.Subscript (.Name x p) k p2] e pos.line X.env = pure false := by
    cases e <;> rfl
  have hw : swappedStores [.Subscript (.Name x p) k p2] e X.env = pure none := by
    cases e <;> rfl
  have ha : ∀ v, assign (.Subscript (.Name x p) k p2) X.env v = (do
      let ov ← holding [v] (eval (.Name x p) X.env)
      let iv ← holding [v, ov] (eval k X.env)
      standAt p2
      holding [v, ov, iv] (setItem ov iv v)
      release [v, ov, iv] []) := by
    intro v
    cases k <;> first | rfl | (cases hs)
  refine (ps_asg he (pg_sub hx hk (set_any (by omega)) ha) hsw hw rfl).imp fun D σ H ⟨G, ρ, r, p⟩ => ⟨G, ρ, r, ?_⟩
  have p0 : postS X F U G D (M.bind (M.bind m fun w => M.bind (plName i) fun _ => M.bind mk fun p => M.bind (vw p) fun kw => mutO i fun x => match x, kw with
    | .lst ws, .int k => (ixOf ws.length k).map fun j => ((), .lst (ws.set j w))
    | .dct t kvs, k => if W.keyOk t k ∧ kvs.length < sizeLine then some ((), .dct t (putW kvs k w)) else none
    | _, _ => none) (fun _ => M.ret .nx) ρ) := p
  rw [assoc_post] at p0
  have p1 := postS.bind (P := pW X) (σ := σ) p0
  cases e1 : m ρ with
  | bad => rw [e1] at p1; exact p1
  | exc C ρ' => rw [e1] at p1; exact p1
  | ok w ρ' =>
    rw [e1] at p1
    intro y G' H' s1 r1 q1
    obtain ⟨G2, ρ2, w, s2, r2, q2, p2⟩ := p1 y G' H' s1 r1 q1
    rw [assoc_post] at p2
    cases e2 : plName i ρ2 with
    | bad => unfold M.bind at p2; rw [e2] at p2; exact p2.elim
    | exc C ρ3 =>
      unfold plName at e2
      split at e2 <;> cases e2
    | ok pl ρ3 =>
      unfold plName at e2
      split at e2
      · rename_i w0 e3
        cases e2
        obtain ⟨v, h1, _⟩ := r2.view e3
        refine ⟨v, h1, ?_⟩
        have p3 : postS X F U G2 D (M.bind (M.bind mk fun p => M.bind (vw p) fun kw => mutO i fun x => match x, kw with
          | .lst ws, .int k => (ixOf ws.length k).map fun j => ((), .lst (ws.set j w))
          | .dct t kvs, k => if W.keyOk t k ∧ kvs.length < sizeLine then some ((), .dct t (putW kvs k w)) else none
          | _, _ => none) (fun _ => M.ret .nx) ρ2) := by
          have : plName i ρ2 = .ok (.sl i) ρ2 := by unfold plName; rw [e3]
          unfold M.bind at p2 ⊢
          rw [this] at p2
          exact p2
        rw [assoc_post] at p3
        refine ⟨G2, ρ2, r2, ?_⟩
        have p4 := postS.bind (P := pPl X) (σ := σ) p3
        cases e4 : mk ρ2 with
        | bad => rw [e4] at p4; exact p4
        | exc C ρ' => rw [e4] at p4; exact p4
        | ok kp ρ4 =>
          rw [e4] at p4
          intro z G5 H5 s5 r5 q5
          obtain ⟨G6, ρ6, kp, s6, r6, q6, p6⟩ := p4 z G5 H5 s5 r5 q5
          rw [assoc_post] at p6
          cases e5 : kp.view ρ6 with
          | none => unfold M.bind at p6; rw [show vw kp ρ6 = .bad by unfold vw; rw [e5]] at p6; exact p6.elim
          | some kw =>
            obtain ⟨kw', e5', tk, _⟩ := post.vw (f := fun _ => M.ret ()) (P' := fun _ _ _ _ (_ : Unit) (_ : Unit) => True) (U := fun _ _ _ _ => True) (Q := fun _ _ => True) r6 q6 (by
              unfold M.bind
              rw [vw_eq e5]
              exact fun _ _ _ _ _ _ => trivial)
            rw [e5] at e5'
            cases e5'
            unfold M.bind at p6
            rw [vw_eq e5] at p6
            dsimp only at p6
            unfold mutO at p6
            cases e7 : ρ6[i]? with
            | none => rw [e7] at p6; exact p6.elim
            | some t =>
              rw [e7] at p6
              cases t with
              | e => exact p6.elim
              | d w' => exact p6.elim
              | o w' =>
                cases w' <;> first | exact p6.elim | skip
                case dct t kvs =>
                  dsimp only at p6
                  by_cases hc : W.keyOk t kw = true ∧ kvs.length < sizeLine
                  · rw [if_pos hc] at p6
                    obtain ⟨b, k1, k2, ⟨u, vs, k3, k4, k5⟩, k6⟩ := r6.own i _ e7
                    rw [h1] at k1
                    cases k1
                    obtain ⟨u', vs', g, d, rr⟩ := dput_of k3 k4 k5 (key_at r6.sub hc.1 tk) hc.2 (q2.mono s6)
                    exact .inr ⟨b, _, rfl, g, p6 σ G6 _ (.refl _) (r6.changeH e7 h1 fun H' z => ⟨u', vs', z, d, rr⟩)⟩
                  · rw [if_neg hc] at p6
                    exact p6.elim
                rename_i ws'
                cases kw <;> first | exact p6.elim | skip
                rename_i k'
                dsimp only at p6
                cases e8 : ixOf ws'.length k' with
                | none => rw [e8] at p6; exact p6.elim
                | some j =>
                  rw [e8] at p6
                  cases tk.int
                  obtain ⟨b, us, k1, k2, k3⟩ := r6.ownL e7
                  rw [h1] at k1
                  cases k1
                  refine .inl ⟨b, us, k', j, rfl, rfl, k2, by rw [k3.length]; exact e8, ?_⟩
                  exact p6 σ G6 _ (.refl _) (r6.change e7 h1 (k3.set (q2.mono s6) j))
      · cases e2
/-- x op= e -/
theorem aug_ok {op : Operator} : PIp X op (fun x y H Q => ∃ G wx wy w, Sub G H ∧ Top X.K X.mg G H x wx ∧ Top X.K X.mg G H y wy ∧ augW op wx wy = some w ∧ ∀ v, Rep X.K X.mg G v w → Q v H) := by
  intro pins s σ H x y v u Q I r1 r2 h
  obtain ⟨G, wx, wy, w, sub, tx, ty, e, q⟩ := h
  unfold augW at e
  split at e
  · cases e
    cases tx.int
    cases ty.int
    exact ip_add pins s σ H _ _ v u Q I r1 r2 ⟨_, _, rfl, rfl, q _ (.int _)⟩
  · cases e
    cases tx.int
    cases ty.int
    exact ip_sub pins s σ H _ _ v u Q I r1 r2 ⟨_, _, rfl, rfl, q _ (.int _)⟩
  · split at e
    · rename_i hl
      cases e
      cases tx.str
      cases ty.str
      exact iop_add_str pins s σ H _ _ v u Q I r1 r2 ⟨_, _, rfl, rfl, hl, q _ (.str _)⟩
    · cases e
  · cases e
theorem ps_augS {x : Str} {p pos : Pos} {e : Expr} {op : Operator} {np i : Nat} {lk : List Nat} {m : M Pl} (hF : Fits np lk F) (hN : X.N.Nodup) (hi : X.N[i]? = some x) (hx : Loc X.env.scope x) (hf : X.fn x = true ∨ X.env.scope.names.lookup x = some .local) (he : PE X e (tP X F U m)) :
    PS X (.AugAssign (.Name x p) op e pos) (tS X F U (actS (augS np lk i op m))) := (ps_aug hN hi hx he aug_ok hf).imp fun D σ H ⟨G, ρ, r, p⟩ => by
  have p0 : postS X F U G D (M.bind (M.bind (plName i) fun _ => M.bind (vw (.sl i)) fun x => M.bind m fun q => M.bind (vw q) fun y => M.bind (M.of (augW op x y)) fun z => asg np lk i (.d z)) (fun _ => M.ret .nx) ρ) := p
  rw [assoc_post] at p0
  cases e3 : (Pl.sl i).view ρ with
  | none =>
    unfold M.bind at p0
    rw [show plName i ρ = .bad by unfold plName; rw [e3]] at p0
    exact p0.elim
  | some wx =>
    obtain ⟨v, h1, t1⟩ := r.view e3
    refine ⟨v, h1, G, ρ, r, ?_⟩
    have p1 : postS X F U G D (M.bind (M.bind (vw (.sl i)) fun x => M.bind m fun q => M.bind (vw q) fun y => M.bind (M.of (augW op x y)) fun z => asg np lk i (.d z)) (fun _ => M.ret .nx) ρ) := by
      have : plName i ρ = .ok (.sl i) ρ := by unfold plName; rw [e3]
      unfold M.bind at p0 ⊢
      rw [this] at p0
      exact p0
    rw [assoc_post] at p1
    have p2 : postS X F U G D (M.bind (M.bind m fun q => M.bind (vw q) fun y => M.bind (M.of (augW op wx y)) fun z => asg np lk i (.d z)) (fun _ => M.ret .nx) ρ) := by
      unfold M.bind at p1 ⊢
      rw [vw_eq e3] at p1
      exact p1
    rw [assoc_post] at p2
    have p4 := postS.bind (P := pPl X) (σ := σ) p2
    cases e4 : m ρ with
    | bad => rw [e4] at p4; exact p4
    | exc C ρ' => rw [e4] at p4; exact p4
    | ok kp ρ4 =>
      rw [e4] at p4
      intro z G5 H5 s5 r5 q5
      obtain ⟨G6, ρ6, kp, s6, r6, q6, p6⟩ := p4 z G5 H5 s5 r5 q5
      rw [assoc_post] at p6
      cases e5 : kp.view ρ6 with
      | none => unfold M.bind at p6; rw [show vw kp ρ6 = .bad by unfold vw; rw [e5]] at p6; exact p6.elim
      | some wy =>
        obtain ⟨wy', e5', ty, _⟩ := post.vw (f := fun _ => M.ret ()) (P' := fun _ _ _ _ (_ : Unit) (_ : Unit) => True) (U := fun _ _ _ _ => True) (Q := fun _ _ => True) r6 q6 (by
          unfold M.bind
          rw [vw_eq e5]
          exact fun _ _ _ _ _ _ => trivial)
        rw [e5] at e5'
        cases e5'
        have p7 : postS X F U G6 D (M.bind (M.bind (M.of (augW op wx wy)) fun z => asg np lk i (.d z)) (fun _ => M.ret .nx) ρ6) := by
          unfold M.bind at p6 ⊢
          rw [vw_eq e5] at p6
          exact p6
        cases e8 : augW op wx wy with
        | none => rw [e8] at p7; exact p7.elim
        | some w =>
          rw [e8] at p7
          -- the old value as it is now
          have t6 : Top X.K X.mg G6 H5 v wx := by
            unfold augW at e8
            split at e8
            · rw [t1.int]
              exact .inl (.int _)
            · rw [t1.int]
              exact .inl (.int _)
            · rw [t1.str]
              exact .inl (.str _)
            · cases e8
          exact ⟨G6, wx, wy, w, r6.sub, t6, ty, e8, fun v' q' => asg_post (s := .d w) hF r6 q' p7⟩
end Pf

-- PfLoop
/-! Pf: loops, raising. -/
namespace Pf
open PySem PySem.Spec PyProof.Rows L2
variable {X : Cx} {F : Fr0} {U : WX} {α β γ δ : Type} {P : Hp → Hp → L2.St → Env → β → α → Prop} {P' : Hp → Hp → L2.St → Env → δ → γ → Prop} {G G1 H H1 : Hp} {σ : L2.St} {ρ ρ1 : Env}
/-- the frame with slots locked -/
def lockF (F : Fr0) (lk : List Nat) (σ : L2.St) : Fr0 := { F with lk := lk, σ0 := σ }
theorem Rel.lock {K : PySem.W.Frag} {mg : Str → Option Value} (r : Rel K mg F G H σ ρ) (lk : List Nat) : Rel K mg (lockF F lk σ) G H σ ρ := ⟨r.sub, r.len, r.dat, r.own, r.sep, r.frame, fun _ _ => rfl, r.new⟩
theorem Rel.unlock {K : PySem.W.Frag} {mg : Str → Option Value} {lk : List Nat} {G' H' : Hp} {σ' : L2.St} {ρ' : Env} (r : Rel K mg F G H σ ρ) (h : ∀ j ∈ F.lk, j ∈ lk) (r' : Rel K mg (lockF F lk σ) G' H' σ' ρ') : Rel K mg F G' H' σ' ρ' :=
  ⟨r'.sub, r'.len, r'.dat, r'.own, r'.sep, r'.frame, fun i hi => (r'.par i (hi.elim .inl fun z => .inr (h i z))).trans (r.par i hi), r'.new⟩
theorem PSs.ex {ι : Type} {c : ι → Prop} {e : List Stmt} {t : ι → TS} (h : ∀ i, c i → PSs X e (t i)) : PSs X e (fun D σ H => ∃ i, c i ∧ t i D σ H) := ⟨fun pins s σ H D I ⟨i, hc, q⟩ => (h i hc).run pins s σ H D I q⟩
theorem run_for {np : Nat} {lk lk' is : List Nat} {mi : M (List Pf.W × List (Nat × Pf.W))} {tm : Pf.W → M Unit} {mb : M Fl} {D : Ends} (hF : Fits np lk F) (hlk : ∀ j ∈ lk, j ∈ lk') (hx : ∀ w ρ C ρ', tm w ρ ≠ .exc C ρ') (h : tS X F U (forS lk' mi tm mb) D σ H) :
    tFor (tI X F U mi) (fun v σ H Q => ∃ F, Fits np lk' F ∧ gT X F is tm v σ H Q) (fun D σ H => ∃ F, Fits np lk' F ∧ tS X F U mb D σ H) D σ H := by
  obtain ⟨G, ρ, r, p⟩ := h
  refine ⟨G, ρ, r, ?_⟩
  have p0 : postS X F U G D (M.bind mi (fun x => M.bind (lockedM lk' x.2) fun _ => forL x.2 tm mb x.1) ρ) := p
  cases e1 : mi ρ with
  | bad =>
    unfold M.bind at p0
    rw [e1] at p0
    exact p0
  | exc C ρ' =>
    unfold M.bind at p0
    rw [e1] at p0
    exact fun G' H' s r => p0 σ G' H' s r
  | ok x ρ0 =>
    have p1 : postS X F U G D (M.bind (lockedM lk' x.2) (fun _ => forL x.2 tm mb x.1) ρ0) := by
      unfold M.bind at p0 ⊢
      rw [e1] at p0
      exact p0
    by_cases hl : ∀ g ∈ x.2, g.1 ∈ lk'
    · have p2 : postS X F U G D (forL x.2 tm mb x.1 ρ0) := by
        unfold M.bind lockedM at p1
        rw [if_pos hl] at p1
        exact p1
      intro J G0 H0 s0 r0 wk
      have hFlk : ∀ j ∈ F.lk, j ∈ lk' := fun j hj => hlk j (hF.2 j hj)
      have fit : Fits np lk' (lockF F lk' σ) := ⟨hF.1, fun j hj => hj⟩
      generalize eo : forL x.2 tm mb x.1 ρ0 = out at p2
      have nb : out ≠ .bad := fun z => by rw [z] at p2; exact p2
      refine ⟨fun i m σ' H => m = x.1.length - i ∧ i ≤ x.1.length ∧ ∃ G ρ, Sub G0 G ∧ Rel X.K X.mg (lockF F lk' σ) G H σ' ρ ∧ forL x.2 tm mb (x.1.drop i) ρ = out, ⟨x.1.length, by simp, Nat.zero_le _, G0, ρ0, .refl _, r0.lock lk', eo⟩, ?_⟩
      rintro i m σ2 H2 ⟨rfl, hil, G2, ρ2, s2, r2, e3⟩
      have hσ : ∀ g ∈ x.2, σ2[g.1]? = σ[g.1]? := fun g hg => r2.par g.1 (.inr (hl g hg))
      have un : ∀ {G' H' : Hp} {σ' : L2.St} {ρ' : Env}, Rel X.K X.mg (lockF F lk' σ) G' H' σ' ρ' → Rel X.K X.mg F G' H' σ' ρ' := fun r' => r0.unlock hFlk r'
      by_cases hlt : i < x.1.length
      · right
        rw [List.drop_eq_getElem_cons hlt] at e3
        unfold forL at e3
        obtain ⟨hst, e4⟩ := guard_ok e3 nb
        obtain ⟨go, yld⟩ := wk.go _ i G2 H2 σ2 ρ2 s2 r2 hσ hst hlt
        refine ⟨go, fun σ' H' => x.1.length - (i + 1) < x.1.length - i ∧ i + 1 ≤ x.1.length ∧ ∃ G ρ, Sub G0 G ∧ Rel X.K X.mg (lockF F lk' σ) G H' σ' ρ ∧ forL x.2 tm mb (x.1.drop (i + 1)) ρ = out,
          fun σ' H' ⟨q1, q2, q3⟩ => ⟨_, q1, rfl, q2, q3⟩, fun v H3 y => ?_⟩
        obtain ⟨G3, w, g3, hw, q3⟩ := yld v H3 y
        rw [List.getElem?_eq_getElem hlt] at hw
        cases hw
        have r3 := r2.grow g3
        have e5 : M.bind (tm x.1[i]) (fun _ => M.bind mb fun f => match f with
          | .nx => forL x.2 tm mb (x.1.drop (i + 1))
          | .ct => forL x.2 tm mb (x.1.drop (i + 1))
          | .bk => M.ret .nx
          | .rt s => M.ret (.rt s)) ρ2 = out := e4
        unfold M.bind at e5
        refine ⟨lockF F lk' σ, fit, G3, ρ2, x.1[i], r3, q3, ?_⟩
        cases e6 : tm x.1[i] ρ2 with
        | bad => rw [e6] at e5; exact nb e5.symm
        | exc C ρ' => exact hx _ _ _ _ e6
        | ok o ρ4 =>
          rw [e6] at e5
          dsimp only at e5 ⊢
          intro σ4 r4 _
          refine ⟨lockF F lk' σ, fit, G3, ρ4, r4, ?_⟩
          have s3 : Sub G0 G3 := s2.trans g3.le
          cases e7 : mb ρ4 with
          | bad => rw [e7] at e5; exact nb e5.symm
          | exc C ρ5 =>
            rw [e7] at e5
            subst e5
            exact fun σ5 G5 H5 s5 r5 => p2 σ5 G5 H5 ((s0.trans s3).trans s5) (un r5)
          | ok f ρ5 =>
            rw [e7] at e5
            cases f with
            | nx => exact fun σ5 G5 H5 s5 r5 => ⟨by omega, hlt, G5, ρ5, s3.trans s5, r5, e5⟩
            | ct => exact fun σ5 G5 H5 s5 r5 => ⟨by omega, hlt, G5, ρ5, s3.trans s5, r5, e5⟩
            | bk =>
              subst e5
              exact fun σ5 G5 H5 s5 r5 => p2 σ5 G5 H5 ((s0.trans s3).trans s5) (un r5)
            | rt t =>
              subst e5
              exact fun v σ5 G5 H5 s5 r5 q5 => p2 v σ5 G5 H5 ((s0.trans s3).trans s5) (un r5) q5
      · left
        have hi' : i = x.1.length := by omega
        rw [hi', List.drop_length] at e3
        unfold forL at e3
        obtain ⟨hst, e4⟩ := guard_ok e3 nb
        refine ⟨wk.stop _ i G2 H2 σ2 ρ2 s2 r2 hσ hst (by omega), ?_⟩
        subst e4
        exact p2 σ2 G2 H2 (s0.trans s2) (un r2)
    · unfold M.bind lockedM at p1
      rw [if_neg hl] at p1
      exact p1.elim
theorem PT.ex {ι : Type} {c : ι → Prop} {e : Expr} {t : ι → TT} (h : ∀ i, c i → PT X e (t i)) : PT X e (fun σ H Q => ∃ i, c i ∧ t i σ H Q) := ⟨fun pins s σ H Q I ⟨i, hc, q⟩ => (h i hc).run pins s σ H Q I q⟩
theorem ps_forS {tg iter : Expr} {body : List Stmt} {pos : Pos} {np : Nat} {lk lk' is : List Nat} {mi : M (List Pf.W × List (Nat × Pf.W))} {tm : Pf.W → M Unit} {mb : M Fl} (hp : PassesOwn (model X.prog X.w) X.A X.env X.xe) (hc : X.calm = true) (hF : Fits np lk F) (hlk : ∀ j ∈ lk, j ∈ lk')
    (hx : ∀ w ρ C ρ', tm w ρ ≠ .exc C ρ') (hi : PI X tg iter (tI X F U mi)) (hg : ∀ F, Fits np lk' F → PG X tg (gT X F is tm)) (hb : ∀ F, Fits np lk' F → PSs X body (tS X F U mb)) (hs : noSet iter = true) :
    PS X (.For tg iter body [] pos) (tS X F U (forS lk' mi tm mb)) := by
  have hs' : ∀ x, foldedSetIterable iter X.env x = pure x := by
    intro x
    cases iter <;> first | rfl | (cases hs)
  exact (ps_for hp hc hi (PG.ex hg) (PSs.ex hb) hs').imp fun D σ H h => run_for hF hlk hx h
theorem run_while {mc : M Bool} {mb : M Fl} {D : Ends} (h : tS X F U (whileS mc mb) D σ H) : tWhile (tB X F U mc) (tS X F U mb) D σ H := by
  obtain ⟨G, ρ, r, p⟩ := h
  unfold whileS at p
  split at p
  · rename_i hx
    have hw := Classical.choose_spec (Classical.choose_spec hx)
    generalize Classical.choose (Classical.choose_spec hx) = out at p hw
    generalize Classical.choose hx = n at hw
    refine ⟨fun m σ H => ∃ G' ρ, Sub G G' ∧ Rel X.K X.mg F G' H σ ρ ∧ whileN mc mb m ρ = some out, ⟨n, G, ρ, .refl _, r, hw⟩, ?_⟩
    rintro m σ2 H2 ⟨G2, ρ2, s2, r2, e2⟩
    cases m with
    | zero => cases e2
    | succ m =>
      unfold whileN at e2
      refine ⟨G2, ρ2, r2, ?_⟩
      cases e3 : mc ρ2 with
      | bad =>
        rw [e3] at e2
        cases e2
        exact p
      | exc C ρ3 =>
        rw [e3] at e2
        cases e2
        exact fun G' H' s r => p σ2 G' H' (s2.trans s) r
      | ok b ρ3 =>
        rw [e3] at e2
        intro b' G3 H3 s3 r3 hb
        cases hb
        cases b with
        | false =>
          cases e2
          exact p σ2 G3 H3 (s2.trans s3) r3
        | true =>
          dsimp only at e2
          refine ⟨fun σ' H' => ∃ G' ρ, Sub G G' ∧ Rel X.K X.mg F G' H' σ' ρ ∧ whileN mc mb m ρ = some out, fun σ' H' q => ⟨m, Nat.lt_succ_self _, q⟩, G3, ρ3, r3, ?_⟩
          cases e4 : mb ρ3 with
          | bad =>
            rw [e4] at e2
            cases e2
            exact p
          | exc C ρ4 =>
            rw [e4] at e2
            cases e2
            exact fun σ' G' H' s r => p σ' G' H' ((s2.trans s3).trans s) r
          | ok f ρ4 =>
            rw [e4] at e2
            cases f with
            | nx => exact fun σ' G' H' s r => ⟨G', ρ4, (s2.trans s3).trans s, r, e2⟩
            | ct => exact fun σ' G' H' s r => ⟨G', ρ4, (s2.trans s3).trans s, r, e2⟩
            | bk =>
              cases e2
              exact fun σ' G' H' s r => p σ' G' H' ((s2.trans s3).trans s) r
            | rt t =>
              cases e2
              exact fun v σ' G' H' s r q => p v σ' G' H' ((s2.trans s3).trans s) r q
  · exact p.elim
theorem ps_whileS {c : Expr} {body : List Stmt} {pos : Pos} {mc : M Bool} {mb : M Fl} (hp : PassesOwn (model X.prog X.w) X.A X.env X.xe) (hc : PT X c (tB X F U mc)) (hb : PSs X body (tS X F U mb)) : PS X (.While c body [] pos) (tS X F U (whileS mc mb)) :=
  (ps_while hp hc hb).imp fun D σ H h => run_while h
/-- comprehensions -/
theorem pe_lcE {elt tg iter : Expr} {ifs : List Expr} {scope : Scope} {own : List (Str × Nat)} {pos : Pos} {np : Nat} {lk : List Nat} {mi : M (List Pf.W × List (Nat × Pf.W))} {tm : Pf.W → M Unit} {mt : M Bool} {me : M Pf.W} (hc : X.calm = true) (hN : X.N.Nodup) (hF : Fits np lk F)
    (ok : BlkOk X.N X.env.scope scope own) (hi : ∀ i ∈ own.map (·.2), np ≤ i ∧ i ∉ lk) (hit : PI X tg iter (tI X F U mi))
    (hg : ∀ (s : Shared) (H : Hp) (C : Addr) (cl : List (Str × Addr)) (fp : List Addr), ∀ F, Fits np lk F → PG (X.blk s H scope (compEnvC scope cl C X.env) fp) tg (gT (X.blk s H scope (compEnvC scope cl C X.env) fp) F (own.map (·.2)) tm))
    (ht : ∀ (s : Shared) (H : Hp) (C : Addr) (cl : List (Str × Addr)) (fp : List Addr), ∀ F, Fits np lk F → PTs (X.blk s H scope (compEnvC scope cl C X.env) fp) ifs (tB (X.blk s H scope (compEnvC scope cl C X.env) fp) F U0 mt))
    (he : ∀ (s : Shared) (H : Hp) (C : Addr) (cl : List (Str × Addr)) (fp : List Addr), ∀ F, Fits np lk F → PE (X.blk s H scope (compEnvC scope cl C X.env) fp) elt (tD (X.blk s H scope (compEnvC scope cl C X.env) fp) F U0 me)) (hs : noSet iter = true) :
    PE X (.ListComp elt [⟨tg, iter, ifs, 0⟩] scope pos) (tE X F U (lcE (own.map (·.2)) mi tm mt me)) := by
  have hs' : ∀ x, foldedSetIterable iter X.env x = pure x := by
    intro x
    cases iter <;> first | rfl | (cases hs)
  exact (pe_lc (te := fun σ H Q => ∃ F, Fits np lk F ∧ tD X F U0 me σ H Q) (tt := fun σ H Q => ∃ F, Fits np lk F ∧ tB X F U0 mt σ H Q) (g := fun v σ H Q => ∃ F, Fits np lk F ∧ gT X F (List.map (fun (p : Str × Nat) => p.2) own) tm v σ H Q) hc hN hit ok
    (fun s H C cl fp => PG.ex (hg s H C cl fp)) (fun s H C cl fp => PTs.ex (ht s H C cl fp)) (fun s H C cl fp => PE.ex (he s H C cl fp)) hs').imp fun σ H Q h => run_lc hF hi h
/-- y = a comprehension on one line -/
theorem ps_setLcS {y : Str} {py spos : Pos} {i : Nat} {elt tg iter : Expr} {ifs : List Expr} {scope : Scope} {own : List (Str × Nat)} {pos : Pos} {np : Nat} {lk : List Nat} {mi : M (List Pf.W × List (Nat × Pf.W))} {tm : Pf.W → M Unit} {mt : M Bool} {me : M Pf.W} (hc : X.calm = true) (hN : X.N.Nodup) (hF : Fits np lk F)
    (hy : X.N[i]? = some y) (hyl : X.env.scope.names.lookup y = some .local) (hsw : swapsWith (.ListComp elt [⟨tg, iter, ifs, 0⟩] scope pos) (some (.Name y py)) spos.line X.env = pure true)
    (ok : BlkOk X.N X.env.scope scope own) (hi : ∀ i ∈ own.map (·.2), np ≤ i ∧ i ∉ lk) (hit : PI X tg iter (tI X F U mi))
    (hg : ∀ (s : Shared) (H : Hp) (C : Addr) (cl : List (Str × Addr)) (fp : List Addr), ∀ F, Fits np lk F → PG (X.blk s H scope (compEnvC scope cl C X.env) fp) tg (gT (X.blk s H scope (compEnvC scope cl C X.env) fp) F (own.map (·.2)) tm))
    (ht : ∀ (s : Shared) (H : Hp) (C : Addr) (cl : List (Str × Addr)) (fp : List Addr), ∀ F, Fits np lk F → PTs (X.blk s H scope (compEnvC scope cl C X.env) fp) ifs (tB (X.blk s H scope (compEnvC scope cl C X.env) fp) F U0 mt))
    (he : ∀ (s : Shared) (H : Hp) (C : Addr) (cl : List (Str × Addr)) (fp : List Addr), ∀ F, Fits np lk F → PE (X.blk s H scope (compEnvC scope cl C X.env) fp) elt (tD (X.blk s H scope (compEnvC scope cl C X.env) fp) F U0 me)) (hs : noSet iter = true) :
    PS X (.Assign [.Name y py] (.ListComp elt [⟨tg, iter, ifs, 0⟩] scope pos) spos) (tS X F U (actS (setS np lk i (lcE (own.map (·.2)) mi tm mt me)))) := by
  have hs' : ∀ x, foldedSetIterable iter X.env x = pure x := by
    intro x
    cases iter <;> first | rfl | (cases hs)
  exact (ps_setLc (te := fun σ H Q => ∃ F, Fits np lk F ∧ tD X F U0 me σ H Q) (tt := fun σ H Q => ∃ F, Fits np lk F ∧ tB X F U0 mt σ H Q) (g := fun v σ H Q => ∃ F, Fits np lk F ∧ gT X F (List.map (fun (p : Str × Nat) => p.2) own) tm v σ H Q) hc hN hy hyl hsw hit ok
    (fun s H C cl fp => PG.ex (hg s H C cl fp)) (fun s H C cl fp => PTs.ex (ht s H C cl fp)) (fun s H C cl fp => PE.ex (he s H C cl fp)) hs').imp fun D σ H h => by
      have h1 := run_set hF h
      exact run_lc hF hi h1
end Pf

-- PfKdef
set_option maxHeartbeats 2000000
/-! Pf: except suites that ask a def for the kind of what is handled. -/
namespace Pf
open PySem PySem.Spec PyProof.Rows L2 HotX
open L2H (Hot1 RoomH PinOk)
/-- what the def at f gives when p's object, one of D's, is handled -/
def KindOk (P : Program) (w : World) (K : PySem.W.Frag) (mg : Str → Option Value) (base : Heap) (f : Addr) (x : Str) (D : Addr) (out : Pf.W) : Prop :=
  ∀ (A : Around) (outer : List PySem.Env) (s : Shared) (H G : Hp) (args : Args) (Q : VK) (E : XK) (p : Addr × Obj), A.depth < recursionLimit → Hot1 A p → PinOk outer H s p → Env0 P w K mg base A outer s H → (∀ fd : FuncData, ∀ o, K.lookup f = some o → o.data = .func fd → BindsTo s fd args [(x, .ref p.1)]) → Zc (.ref D) none p.2 →
    (∃ vs, p.2.data = .fields vs) → Sub G H → (∀ v G' H', Sub G G' → Rel K mg (fr0 G H (fun _ => False) []) G' H' [] [] → Rep K mg G' v out → Q v H') → codeAny (model P w) A (.call (.ref f) args) (CR (L2N.CX P w) outer P w H s Q E) s
section
variable {X : Cx} {F : Fr0} {U : WX} {G H G' H' : Hp} {σ σ' : L2.St} {ρ ρ' : Env} {p : Addr × Obj} {D : Addr}
/-- slot i holds the object, as long as F is kept -/
def HFi (F : Fr0) (i : Nat) (p : Addr × Obj) : Prop := i ∈ F.lk ∧ F.σ0[i]? = some (some (.ref p.1))
theorem pe_kind {f : Addr} {g x y : Str} {out : Pf.W} {i : Nat} {q py pos : Pos} (Kd : KindOk X.prog X.w X.K X.mg X.base f x D out) (hr : X.A.depth < recursionLimit) (hot : Hot1 X.A p) (hp : p ∈ X.pn) (hz : Zc (.ref D) none p.2) (hfl : ∃ vs, p.2.data = .fields vs)
    (hg : Gl X g) (hm : X.mg g = some (.ref f)) (hk : PySem.W.keepIn X.K (.ref f) = true) (hb : ∀ (fd : FuncData) o, X.K.lookup f = some o → o.data = .func fd → Binds X.K fd [x] []) (hd : (g == ("__debug__" : Str)) = false) (hv : PE X (.Name y py) (tVar i)) (hF : HFi F i p) :
    PE X (.Call (.Name g q) [.Name y py] [] pos) (tE X F U (cst out)) := by
  refine ⟨fun pins s σ H Q I ⟨G, ρ, r, post⟩ => ?_⟩
  have hi : σ[i]? = some (some (.ref p.1)) := (r.par i (.inr hF.1)).trans hF.2
  refine wpAny_Call_Name_kw (ld_glob I hg hm ?_ hd)
  refine PySem.W.callWith_K (h₀ := X.base) I.ok.mod.kin hk (thn ((pa_cons hv pa_nil).run pos pins s σ H (fun vs H1 => vs = [.ref p.1] ∧ H1 = H) I ⟨.ref p.1, hi, rfl, rfl⟩) fun us s1 ⟨vs, H1, I1, r1, e1, e2⟩ => ⟨I1.kIn, ?_⟩) rfl rfl
  subst e1 e2
  cases r1 with
  | cons ru r1 =>
    cases r1
    cases ru
    have P1 := I1.pin p (List.mem_append_left _ hp)
    have hpin : PinOk X.stack H1 s1 p := ⟨P1.1, P1.2.1, fun hm => (List.mem_cons.mp (I1.stkSub p.1 hm)).elim P1.2.2.1 P1.2.2.2.1, P1.2.2.2.2⟩
    refine wpAny_call (codeAny_mono (Kd X.A X.stack s1 H1 G ⟨[.ref p.1], []⟩ Q (fun _ _ _ => False) p hr hot hpin I1.env0 (fun fd o h1 h2 => ?_) hz hfl r.sub fun v G' H' sb r' rp => ?_) fun res s' hq => ?_)
    · have := hb fd o h1 h2 s1 [.ref p.1] I1.kIn rfl
      rwa [List.append_nil] at this
    · have e0 : argsOf ρ [] = some [] := rfl
      have r2 : Rel X.K X.mg (fr0 G H1 (ownA ρ σ []) []) G' H' (([] : List V).map some) [] := by
        refine ⟨r'.sub, rfl, fun i w e => by simp at e, fun i w e => by simp at e, fun i j w w' a e => by simp at e, fun a o h _ => r'.frame a o h (fun z => z), fun i h => rfl, fun a o h => (r'.new a o h).imp id fun z => z.imp id fun z => z.imp (fun z => z.elim) id⟩
      exact post v G' H' sb (r.back (ps := []) (vs := []) (outs := []) .nil e0 rfl sb r2) rp
    · cases res with
      | error e =>
        obtain ⟨_, _, _, _, _, _, _, _, _, _, _, _, z⟩ := hq
        exact z.elim
      | ok fl =>
        cases fl with
        | ret u => exact I1.after hq
        | next => exact False.elim hq
        | brk => exact False.elim hq
        | cont => exact False.elim hq
/-- a slot takes something that is not told -/
theorem Rel.blind {K : PySem.W.Frag} {mg : Str → Option Value} {i : Nat} {v : Option V} (r : Rel K mg F G H σ ρ) (h1 : ¬ (i < F.np ∨ i ∈ F.lk)) : Rel K mg F G H (σ.set i v) (ρ.set i .e) := by
  have at' : ∀ {j : Nat} {t : Sl}, (ρ.set i .e)[j]? = some t → t ≠ .e → j ≠ i ∧ ρ[j]? = some t := fun {j t} e ht => by
    rcases set_get e with ⟨_, z⟩ | ⟨hn, z⟩
    · exact absurd z.symm (fun y => ht y.symm)
    · exact ⟨fun y => hn y.symm, z⟩
  have st : ∀ {j : Nat}, j ≠ i → (σ.set i v)[j]? = σ[j]? := fun h => List.getElem?_set_ne (fun z => h z.symm)
  refine ⟨r.sub, by rw [List.length_set, List.length_set]; exact r.len, fun j w e => ?_, fun j w e => ?_, fun j k w w' a e e' h h' => ?_, r.frame, fun j hj => ?_, r.new⟩
  · obtain ⟨n, e⟩ := at' e (fun z => nomatch z)
    rw [st n]
    exact r.dat j w e
  · obtain ⟨n, e⟩ := at' e (fun z => nomatch z)
    rw [st n]
    exact r.own j w e
  · obtain ⟨n, e⟩ := at' e (fun z => nomatch z)
    obtain ⟨n', e'⟩ := at' e' (fun z => nomatch z)
    rw [st n] at h
    rw [st n'] at h'
    exact r.sep j k w w' a e e' h h'
  · rw [st (fun z => h1 (z ▸ hj))]
    exact r.par j hj
/-- try: body, except x as n: suite -/
theorem ps_tryS {np i : Nat} {lk : List Nat} {cs : List Str} {x n : Str} {cx : Value} {body suite : List Stmt} {b₀ : Stmt} {q pos pos' : Pos} {mb : M Fl} {md : Str → M Fl} (hF : Fits np lk F) (hs : X.stack = X.env :: X.outer) (hfr : X.env.frame = some X.env.locals) (hN : X.N.Nodup) (hi : X.N[i]? = some n)
    (hln : X.env.kindOf n = some .local) (hc : Names X x cx) (tk : L2N.Takes X U) (hcs : ∀ C ∈ cs, ∀ c, X.mg C = some (.ref c) → PySem.W.exmOne X.K (.ref c) cx = some true)
    (hb : ∀ (W : WX) (pn : List (Addr × Obj)) (xe : Value → Shared → Prop), L2N.Takes (X.tr pn xe) W → PassesOwn (model X.prog X.w) X.A X.env xe → PSs (X.tr pn xe) body (tS X F W mb))
    (hd : ∀ (a : Addr) (oe : Obj) (C : Str) (c : Addr) (pn : List (Addr × Obj)) (F' : Fr0), C ∈ cs → X.mg C = some (.ref c) → Zc (.ref c) none oe → (∃ vs, oe.data = .fields vs) → Hot1 (X.suite a ((a, oe) :: pn)).A (a, oe) → Fits np (i :: lk) F' → HFi F' i (a, oe) → PSs (X.suite a ((a, oe) :: pn)) (b₀ :: suite) (tS X F' U0 (md C))) :
    PS X (.Try body [.ExceptHandler (some (.Name x q)) (some n) (b₀ :: suite) pos'] [] [] pos) (tS X F U (tryS np lk i cs mb md)) := by
  refine (L2N.ps_try_as (Wout := U) (i := i) (tb := fun W => tS X F W mb)
    (ts := fun a cls d D σ H => ∃ C c F', C ∈ cs ∧ X.mg C = some (.ref c) ∧ cls = .ref c ∧ d = none ∧ Fits np (i :: lk) F' ∧ i ∈ F'.lk ∧ F'.σ0[i]? = some (some (.ref a)) ∧ tS X F' U0 (md C) D σ H) hs hfr hN hi hln hc tk hb ?_).imp fun D σ H h => ?_
  · intro a oe cls d pn hz hfl
    refine ⟨fun pins s σ H D I ⟨C, c, F', h1, h2, h3, h4, h5, h6, h7, q⟩ => ?_⟩
    subst h3 h4
    obtain ⟨vs, hv⟩ := hfl
    exact (hd a oe C c pn F' h1 h2 ⟨hz.1, hz.2.1⟩ ⟨vs, hv⟩ ⟨rfl, vs, hv, hz.2.2 vs hv⟩ h5 ⟨h6, h7⟩).run pins s σ H D I q
  · obtain ⟨G, ρ, r, p⟩ := h
    refine ⟨G, ρ, r, ?_⟩
    unfold tryS at p
    cases e : mb ρ with
    | bad => rw [e] at p; exact p
    | ok f ρ' =>
      rw [e] at p
      cases f <;> exact p
    | exc C ρ' =>
      rw [e] at p
      dsimp only at p
      split at p
      · rename_i hk
        obtain ⟨k1, k2, k3, k4⟩ := hk
        intro σ1 G1 H1 s1 r1 c hC
        refine ⟨true, hcs C k1 c hC, fun _ a ha => ?_, fun z => nomatch z⟩
        have nf : ¬ (i < F.np ∨ i ∈ F.lk) := fun z => z.elim (fun z => absurd (Nat.lt_of_lt_of_le z hF.1) (Nat.not_lt.mpr k2)) fun z => k3 (hF.2 i z)
        have r2 : Rel X.K X.mg F G1 H1 (σ1.set i (some (.ref a))) (ρ'.set i .e) := r1.blind nf
        have il : i < σ1.length := by rw [r1.len]; exact k4
        refine ⟨C, c, lockF F (i :: lk) (σ1.set i (some (.ref a))), k1, hC, rfl, rfl, ⟨hF.1, fun j hj => hj⟩, List.mem_cons_self, List.getElem?_set_self il, G1, ρ'.set i .e, r2.lock _, ?_⟩
        cases e2 : md C (ρ'.set i .e) with
        | bad => rw [e2] at p; exact p.elim
        | exc C' ρ2 => rw [e2] at p; exact p.elim
        | ok f ρ2 =>
          rw [e2] at p
          cases f with
          | nx =>
            dsimp only at p
            intro σ2 G2 H2 s2 r3
            have r4 : Rel X.K X.mg F G2 H2 σ2 ρ2 := r2.unlock (fun j hj => List.mem_cons_of_mem _ (hF.2 j hj)) r3
            exact p _ G2 H2 (s1.trans s2) (r4.blind nf)
          | bk => exact p.elim
          | ct => exact p.elim
          | rt s => exact p.elim
      · exact p.elim
end
end Pf

-- PfTie
/-! Pf: the evaluator agrees with the model, expressions and tests. -/
namespace Pf
open PySem PySem.Spec PyProof.Rows L2
/-- what the module's names are, for calls k deep -/
def GlobOk (T : Tx) (k : Nat) (X : Cx) : Prop := ∀ x, match T.G.lookup x with
  | some (.fn n) => ∃ a fd pn, X.mg x = some (.ref a) ∧ PySem.W.keepIn X.K (.ref a) = true ∧ Binds X.K fd pn [] ∧ pn.length = n ∧ FnOk X.prog X.w X.K X.mg X.base (L2N.CX X.prog X.w) k a fd pn (spOf X.K X.mg pn.length (T.C x))
  | some .cls => ∃ c, X.mg x = some (.ref c) ∧ PySem.W.subIn X.K (.ref c) (.type "BaseException") = some true ∧ PySem.W.typeIn X.K (.ref c) = some (.type "type") ∧ PySem.W.keepIn X.K (.ref c) = true ∧
      PySem.W.excIn X.K c [.type "ValueError", .type "Exception", .type "BaseException", .type "object"] "ValueError.__new__" = true
  | some (.con w) => ∃ u v, X.mg x = some u ∧ RelV v u ∧ ∀ G, Rep X.K X.mg G v w
  | some (.knd cs) => ∃ a y, X.mg x = some (.ref a) ∧ PySem.W.keepIn X.K (.ref a) = true ∧ (∀ (fd : FuncData) o, X.K.lookup a = some o → o.data = .func fd → Binds X.K fd [y] []) ∧ ∀ C ∈ cs, ∃ D, X.mg C = some (.ref D) ∧ KindOk X.prog X.w X.K X.mg X.base a y D (.str (C ++ "+"))
  | some (.hnd y cs) => ∃ cy, X.mg y = some (.ref cy) ∧ ∀ C ∈ cs, ∀ c, X.mg C = some (.ref c) → PySem.W.exmOne X.K (.ref c) (.ref cy) = some true
  | some (.key y) => ∃ f, X.mg y = some (.ref f) ∧ KeyFn X.prog X.w X.K f
  | none => x ∈ freeL → X.mg x = none
structure COk (T : Tx) (k : Nat) (X : Cx) (U : WX) : Prop where
  calm : X.calm = true
  N : X.N = T.N
  nd : T.N.Nodup
  room : Room k X.A
  tk : L2N.Takes X U
  glo : GlobOk T k X
variable {T : Tx} {k : Nat} {X : Cx} {F : Fr0} {U : WX} {R : Rec}
theorem takesN0 {X : Cx} : L2N.Takes X (fun _ _ _ _ => False) := fun _ _ x => by
  obtain ⟨_, _, _, _, _, _, _, _, _, _, _, _, _, _, _, _, z⟩ := x
  exact z.elim
theorem COk.blk (c : COk T k X U) (s : Shared) (H : Hp) (scope : Scope) (cenv : PySem.Env) (fp : List Addr) : COk T k (X.blk s H scope cenv fp) U0 :=
  ⟨c.calm, c.N, c.nd, c.room, takesN0, c.glo⟩
theorem COk.tr (c : COk T k X U) {W : WX} {pn : List (Addr × Obj)} {xe : Value → Shared → Prop} (t : L2N.Takes (X.tr pn xe) W) : COk T k (X.tr pn xe) W := ⟨c.calm, c.N, c.nd, c.room, t, c.glo⟩
theorem COk.hu (c : COk T k X U) : X.A.units + 65 < cLine := by
  have := c.room.un
  omega
theorem vis_of {sc : Scope} {x : Str} (h : seen sc x = true) : Vis sc x := by
  unfold seen at h
  split at h
  · rename_i e; exact .inl e
  · rename_i e; exact .inr (.inl e)
  · rename_i e; exact .inr (.inr e)
  · cases h
theorem loc_of {sc : Scope} {x : Str} (h : locIn sc x = true) : Loc sc x := by
  unfold locIn at h
  split at h
  · rename_i e; exact .inl e
  · rename_i e; exact .inr e
  · cases h
theorem gl_of {x : Str} (h : globIn X.env.scope x = true) : Gl X x := by
  unfold globIn at h
  split at h
  · rename_i e; exact e
  · cases h
theorem slot_of {N : List Str} {x : Str} {i : Nat} (h : slotOf N x = some i) : N[i]? = some x := by
  unfold slotOf at h
  obtain ⟨h1, h2, _⟩ := List.findIdx?_eq_some_iff_getElem.mp h
  rw [List.getElem?_eq_getElem h1]
  exact congrArg some (of_decide_eq_true h2)
theorem okName_of {x : Str} (h : okName x = true) : (x == ("__debug__" : Str)) = false ∧ (x == ("__classdict__" : Str)) = false ∧ x ≠ ("__name__" : Str) := by
  unfold okName at h
  simp only [Bool.and_eq_true, Bool.not_eq_true'] at h
  refine ⟨h.1.1, h.1.2, fun z => ?_⟩
  have := h.2
  rw [z] at this
  simp at this
/-- what the recursion gives -/
def RecOk (T : Tx) (k : Nat) (R : Rec) : Prop := ∀ (X : Cx) (U : WX) (F : Fr0), COk T k X U → Fits T.np T.lk F → ∀ e, PE X e (tE X F U ((R X.env.scope).1 e)) ∧ PT X e (tB X F U ((R X.env.scope).2 e))
theorem name_var (c : COk T k X U) {x : Str} {p : Pos} {i : Nat} (h1 : seen X.env.scope x = true) (h2 : okName x = true) (h3 : slotOf T.N x = some i) : PE X (.Name x p) (tVar i) :=
  pe_var (by rw [c.N]; exact slot_of h3) (vis_of h1) (okName_of h2).1 (okName_of h2).2.1
theorem pl_ok (c : COk T k X U) (hF : Fits T.np T.lk F) (IH : RecOk T k R) (e : Expr) : PE X e (tP X F U (plOf T X.env.scope (R X.env.scope).1 e)) := by
  unfold plOf
  split
  · rename_i x p
    split
    · rename_i h1
      split
      · rename_i h2
        split
        · rename_i i h3
          exact pe_plName (name_var c h1 h2 h3)
        · exact ⟨fun _ _ _ _ _ _ ⟨_, _, _, h⟩ => h.elim⟩
      · exact ⟨fun _ _ _ _ _ _ ⟨_, _, _, h⟩ => h.elim⟩
    · exact pe_plE (IH X U F c hF _).1
  · exact pe_plE (IH X U F c hF _).1
theorem pairedMap {A B : Type} {R : A → B → Prop} {f : A → B} : ∀ (l : List A), (∀ a ∈ l, R a (f a)) → Paired R l (l.map f)
  | [], _ => .nil
  | a :: l, h => .cons (h a List.mem_cons_self) (pairedMap l fun b m => h b (List.mem_cons_of_mem _ m))
theorem pls_ok (c : COk T k X U) (hF : Fits T.np T.lk F) (IH : RecOk T k R) {es : List Expr} (hp : es.all plainX = true) : PA X es (tPs X F U (plS (es.map (plOf T X.env.scope (R X.env.scope).1)))) :=
  pa_plS hp (pairedMap es fun e _ => pl_ok c hF IH e)
theorem dats_ok (c : COk T k X U) (hF : Fits T.np T.lk F) (IH : RecOk T k R) {es : List Expr} (hp : es.all plainX = true) : PA X es (tDs X F U (evS (es.map fun e => dat ((R X.env.scope).1 e)))) :=
  pa_evS hp (pairedMap es fun e _ => pe_dat (IH X U F c hF e).1)

/-! ### targets -/
theorem tgOne_ok {scT : Scope} {e : Expr} {is : List Nat} (hN : X.N = T.N) (nd : T.N.Nodup) (hF : Fits T.np T.lk F) (hl : ∀ x, locIn scT x = true → Loc X.env.scope x ∧ (X.fn x = true ∨ X.env.scope.names.lookup x = some .local))
    (his : ∀ x ∈ tgNames e, ∀ i, slotOf T.N x = some i → i ∈ is) : PG X e (gT X F is (tgOne T scT e)) := by
  unfold tgOne
  split
  · rename_i x p
    split
    · rename_i h1
      split
      · rename_i i h2
        exact pg_one hF.1 hF.2 (by rw [hN]; exact nd) (by rw [hN]; exact slot_of h2) (hl x h1).1 (hl x h1).2 (his x (by simp [tgNames, nameOf]) i h2)
      · exact pg_bad
    · exact pg_bad
  · exact pg_bad
theorem flat_assign (env : PySem.Env) : ∀ es : List Expr, es.all isFlatX = true → (assignEach es env).length = es.length ∧ (assignEach es env).findIdx? (·.1) = none
  | [], _ => ⟨rfl, rfl⟩
  | e :: es, h => by
    rw [List.all_cons, Bool.and_eq_true] at h
    obtain ⟨h1, h2⟩ := flat_assign env es h.2
    have key : ∀ f, assignEach (e :: es) env = (false, f) :: assignEach es env → (assignEach (e :: es) env).length = (e :: es).length ∧ (assignEach (e :: es) env).findIdx? (·.1) = none := fun f hf => by
      rw [hf, List.findIdx?_cons]
      exact ⟨congrArg (· + 1) h1, by simp [h2]⟩
    cases e <;> first | (exfalso; cases h.1; done) | exact key _ rfl
theorem name_flat {es : List Expr} (h : es.all isNameX = true) : es.all isFlatX = true := List.all_eq_true.mpr fun e he => by
  have := List.all_eq_true.mp h e he
  cases e <;> first | (exfalso; cases this; done) | rfl
theorem names_assign (env : PySem.Env) (es : List Expr) (h : es.all isNameX = true) : (assignEach es env).length = es.length ∧ (assignEach es env).findIdx? (·.1) = none := flat_assign env es (name_flat h)
theorem flat_cons {env : PySem.Env} {e : Expr} (h : isFlatX e = true) (es : List Expr) : (assignEach (e :: es) env).map (·.2) = assign e env :: (assignEach es env).map (·.2) := by
  cases e <;> first | (exfalso; cases h; done) | rfl
theorem tgTup_ok {scT : Scope} {es : List Expr} {n : Nat} {pos : Pos} {is : List Nat} (hc : X.calm = true) (hN : X.N = T.N) (nd : T.N.Nodup) (hF : Fits T.np T.lk F) (hl : ∀ x, locIn scT x = true → Loc X.env.scope x ∧ (X.fn x = true ∨ X.env.scope.names.lookup x = some .local))
    (his : ∀ x ∈ es.flatMap nameOf, ∀ i, slotOf T.N x = some i → i ∈ is) (hall : es.all isNameX = true) : PG X (.Tuple es n pos) (gT X F is (tgTup (es.map (tgOne T scT)))) := by
  obtain ⟨h1, h2⟩ := names_assign X.env es hall
  refine pg_tupT hc (pairedMap es fun e he => ⟨tgOne_ok hN nd hF hl fun x hx i hi => his x (List.mem_flatMap.mpr ⟨e, he, ?_⟩) i hi, fun es' => flat_cons (List.all_eq_true.mp (name_flat hall) e he) es'⟩) h1 h2
  have hn := List.all_eq_true.mp hall e he
  cases e <;> first | (exfalso; cases hn; done) | exact hx
theorem tgIn_ok {scT : Scope} {e : Expr} {is : List Nat} (hc : X.calm = true) (hN : X.N = T.N) (nd : T.N.Nodup) (hF : Fits T.np T.lk F) (hl : ∀ x, locIn scT x = true → Loc X.env.scope x ∧ (X.fn x = true ∨ X.env.scope.names.lookup x = some .local))
    (his : ∀ x ∈ namesIn e, ∀ i, slotOf T.N x = some i → i ∈ is) : PG X e (gT X F is (tgIn T scT e)) := by
  unfold tgIn
  split
  · split
    · rename_i hall
      exact tgTup_ok hc hN nd hF hl his hall
    · exact pg_bad
  · rename_i hne
    refine tgOne_ok hN nd hF hl fun x hx i hi => his x ?_ i hi
    cases e <;> first | exact hx | (exfalso; exact hne _ _ _ rfl)
theorem tgOf_ok {scT : Scope} {e : Expr} {is : List Nat} (hc : X.calm = true) (hN : X.N = T.N) (nd : T.N.Nodup) (hF : Fits T.np T.lk F) (hl : ∀ x, locIn scT x = true → Loc X.env.scope x ∧ (X.fn x = true ∨ X.env.scope.names.lookup x = some .local))
    (his : ∀ x ∈ tgNames e, ∀ i, slotOf T.N x = some i → i ∈ is) : PG X e (gT X F is (tgOf T scT e)) := by
  unfold tgOf
  split
  · rename_i es n pos
    split
    · rename_i hall
      obtain ⟨h1, h2⟩ := flat_assign X.env es hall
      exact pg_tupT hc (pairedMap es fun e he => ⟨tgIn_ok hc hN nd hF hl fun x hx i hi => his x (List.mem_flatMap.mpr ⟨e, he, hx⟩) i hi, fun es' => flat_cons (List.all_eq_true.mp hall e he) es'⟩) h1 h2
    · exact pg_bad
  · exact tgOne_ok hN nd hF hl his
theorem asg_noexc {np i : Nat} {lk : List Nat} {s : Sl} {ρ ρ' : Env} {C : Str} : asg np lk i s ρ ≠ .exc C ρ' := by
  unfold asg
  split <;> exact fun z => nomatch z
theorem tgOne_noexc {scT : Scope} (e : Expr) (w : Pf.W) (ρ : Env) (C : Str) (ρ' : Env) : tgOne T scT e w ρ ≠ .exc C ρ' := by
  unfold tgOne
  split
  · rename_i x p
    split
    · cases slotOf T.N x with
      | some i => exact asg_noexc
      | none => exact fun z => nomatch z
    · exact fun z => nomatch z
  · exact fun z => nomatch z
theorem tgAll_noexc : ∀ {ts : List (Pf.W → M Unit)}, (∀ t ∈ ts, ∀ w ρ C ρ', t w ρ ≠ .exc C ρ') → ∀ ws ρ C ρ', tgAll ts ws ρ ≠ .exc C ρ'
  | [], _, [], _, _, _ => fun z => nomatch z
  | [], _, _ :: _, _, _, _ => fun z => nomatch z
  | _ :: _, _, [], _, _, _ => fun z => nomatch z
  | t :: ts, h, w :: ws, ρ, C, ρ' => by
    unfold tgAll M.bind
    cases e : t w ρ with
    | bad => exact fun z => nomatch z
    | exc C' ρ1 => exact absurd e (h t List.mem_cons_self _ _ _ _)
    | ok o ρ1 => exact tgAll_noexc (fun t m => h t (List.mem_cons_of_mem _ m)) ws ρ1 C ρ'
theorem tgTup_noexc {ts : List (Pf.W → M Unit)} (h : ∀ t ∈ ts, ∀ w ρ C ρ', t w ρ ≠ .exc C ρ') (w : Pf.W) (ρ : Env) (C : Str) (ρ' : Env) : tgTup ts w ρ ≠ .exc C ρ' := by
  cases w with
  | tup ws => exact tgAll_noexc h _ ρ C ρ'
  | lst ws => exact tgAll_noexc h _ ρ C ρ'
  | _ => exact fun z => nomatch z
theorem tgIn_noexc {scT : Scope} (e : Expr) (w : Pf.W) (ρ : Env) (C : Str) (ρ' : Env) : tgIn T scT e w ρ ≠ .exc C ρ' := by
  unfold tgIn
  split
  · split
    · exact tgTup_noexc (fun t ht => by
        obtain ⟨e, _, rfl⟩ := List.mem_map.mp ht
        exact tgOne_noexc e) w ρ C ρ'
    · exact fun z => nomatch z
  · exact tgOne_noexc e w ρ C ρ'
theorem tgOf_noexc {scT : Scope} (e : Expr) (w : Pf.W) (ρ : Env) (C : Str) (ρ' : Env) : tgOf T scT e w ρ ≠ .exc C ρ' := by
  unfold tgOf
  split
  · split
    · exact tgTup_noexc (fun t ht => by
        obtain ⟨e, _, rfl⟩ := List.mem_map.mp ht
        exact tgIn_noexc e) w ρ C ρ'
    · exact fun z => nomatch z
  · exact tgOne_noexc e w ρ C ρ'
/-- a comprehension's own names -/
theorem own_mem {tg : Expr} {x : Str} {i : Nat} (hx : x ∈ tgNames tg) (hi : slotOf T.N x = some i) : i ∈ (ownOf T tg).map (·.2) := by
  unfold ownOf
  exact List.mem_map.mpr ⟨(x, i), List.mem_filterMap.mpr ⟨x, hx, by rw [hi]; rfl⟩, rfl⟩
theorem blk_loc {scope : Scope} {s : Shared} {H : Hp} {C : Addr} {cl : List (Str × Addr)} {fp : List Addr} (x : Str) (h : locIn scope x = true) :
    Loc (X.blk s H scope (compEnvC scope cl C X.env) fp).env.scope x ∧ ((X.blk s H scope (compEnvC scope cl C X.env) fp).fn x = true ∨ (X.blk s H scope (compEnvC scope cl C X.env) fp).env.scope.names.lookup x = some .local) := by
  unfold locIn at h
  split at h
  · rename_i e
    have : (X.blk s H scope (compEnvC scope cl C X.env) fp).env.scope.names.lookup x = some .local := lookup_relS_keep (by decide) e
    exact ⟨.inl this, .inr this⟩
  · rename_i e
    have : (X.blk s H scope (compEnvC scope cl C X.env) fp).env.scope.names.lookup x = some .cell := lookup_relS_keep (by decide) e
    refine ⟨.inr this, .inl ?_⟩
    show (scope.names.lookup x == some .cell) = true
    rw [e]
    rfl
  · cases h
/-- what is walked -/
theorem it_ok (c : COk T k X U) (hF : Fits T.np T.lk F) (IH : RecOk T k R) (tg iter : Expr) : PI X tg iter (tI X F U (itOf T X.env.scope (R X.env.scope).1 tg iter)) := by
  unfold itOf
  split
  · rename_i g p args pos
    split
    · rename_i h
      simp only [Bool.and_eq_true, decide_eq_true_eq, Option.isNone_iff_eq_none] at h
      obtain ⟨⟨⟨h1, h2⟩, h3⟩, rfl⟩ := h
      have hm : X.mg "range" = none := by
        have := c.glo "range"
        rw [h2] at this
        exact this (by decide +kernel)
      split
      · rename_i a
        have hp : plainX a = true := by simpa using h3
        exact pi_r1 (gl_of h1) hm hp (pls_ok c hF IH h3)
      · rename_i a b
        have hp : plainX a = true ∧ plainX b = true := by simpa using h3
        exact pi_r2 (gl_of h1) hm hp.1 hp.2 (pls_ok c hF IH h3)
      · rename_i a b d
        have hp : plainX a = true ∧ plainX b = true ∧ plainX d = true := by simpa using h3
        exact pi_r3 (gl_of h1) hm hp.1 hp.2.1 hp.2.2 (pls_ok c hF IH h3)
      · exact pi_bad
    · split
      · rename_i h
        simp only [Bool.and_eq_true, decide_eq_true_eq, Option.isNone_iff_eq_none] at h
        obtain ⟨⟨⟨⟨h1, h2⟩, h3⟩, rfl⟩, h5⟩ := h
        have hm : X.mg "zip" = none := by
          have := c.glo "zip"
          rw [h2] at this
          exact this (by decide +kernel)
        split
        · rename_i a b _
          have hp : plainX a = true ∧ plainX b = true := by simpa using h3
          cases tg <;> first | (exfalso; cases h5; done) | skip
          exact pi_zipE (gl_of h1) hm hp.1 hp.2 (pls_ok c hF IH h3)
        · exact pi_bad
      · split
        · rename_i h
          simp only [Bool.and_eq_true, decide_eq_true_eq, Option.isNone_iff_eq_none] at h
          obtain ⟨⟨⟨⟨h1, h2⟩, h3⟩, rfl⟩, h5⟩ := h
          have hm : X.mg "enumerate" = none := by
            have := c.glo "enumerate"
            rw [h2] at this
            exact this (by decide +kernel)
          split
          · rename_i a _
            cases tg <;> first | (exfalso; cases h5; done) | skip
            exact pi_enumE (gl_of h1) hm (by simpa using h3) (pls_ok c hF IH h3)
          · exact pi_bad
        · exact pi_itE (pe_plE (IH X U F c hF _).1)
  · rename_i e m apos cpos
    split
    · rename_i h
      simp only [Bool.and_eq_true, decide_eq_true_eq] at h
      obtain ⟨⟨⟨rfl, h2⟩, h3⟩, h4⟩ := h
      cases tg <;> first | (exfalso; cases h4; done) | skip
      exact pi_itItems (pl_ok c hF IH _) h2 h3
    · split
      · rename_i h
        simp only [Bool.and_eq_true, decide_eq_true_eq] at h
        obtain ⟨⟨rfl, h2⟩, h3⟩ := h
        exact pi_itVals (pl_ok c hF IH _) h2 h3
      · exact pi_itE (pe_plE (IH X U F c hF _).1)
  · exact pi_bad
  · exact pi_itE (pl_ok c hF IH _)
end Pf

-- PfTie2
/-! Pf: the evaluator agrees with the model, by induction. -/
namespace Pf
open PySem PySem.Spec PyProof.Rows L2
variable {T : Tx} {k : Nat} {X : Cx} {F : Fr0} {U : WX} {R : Rec}
theorem tyOf_boot {x : Str} {t : String} (h : tyOf x = some t) : bootBuiltins x = some (.type t) := by
  unfold tyOf at h
  split at h
  · rename_i e; subst e; cases h; decide +kernel
  · split at h
    · rename_i e; subst e; cases h; decide +kernel
    · split at h
      · rename_i e; subst e; cases h; decide +kernel
      · split at h
        · rename_i e; subst e; cases h; decide +kernel
        · split at h
          · rename_i e; subst e; cases h; decide +kernel
          · cases h
theorem noSet_marks {op : CmpOp} {b : Expr} (h : noSet b = true) : behindInMarks op b = false := by
  cases b <;> first | rfl | (cases h)
theorem noSet_marks2 {op op' : CmpOp} {b c : Expr} (h : noSet b = true) (h' : noSet c = true) : lastMarks [op, op'] [b, c] = false := by
  show lastMarks [op'] [c] = false
  exact noSet_marks h'
theorem noSlice_plain {b : Expr} (h : noSlice b = true) : PlainIx b := by
  intro o i
  cases b <;> first | rfl | (cases h)
theorem partOk (c : COk T k X U) (hF : Fits T.np T.lk F) (IH : RecOk T k R) (o : Option Expr) : PartOk X F U o (o.map (plOf T X.env.scope (R X.env.scope).1)) := by
  cases o with
  | none => exact .none
  | some e => exact .some (pl_ok c hF IH e)
theorem pe_get (c : COk T k X U) (hF : Fits T.np T.lk F) (IH : RecOk T k R) {o : Expr} {m : Str} {apos pos : Pos} {args : List Expr} {ma : M Pl} (ho : PE X o (tP X F U ma)) (hb : baseX o = true) (hp : args.all plainX = true) (hl : (apos.endLine == pos.line) = true) (hm : isGet m args.length = true) :
    PE X (.Call (.Attribute o m apos) args [] pos) (tE X F U (dgetE ma (evS (args.map fun e => dat ((R X.env.scope).1 e))))) := by
  unfold isGet at hm
  simp only [Bool.and_eq_true, Bool.or_eq_true, decide_eq_true_eq] at hm
  obtain ⟨rfl, hm⟩ := hm
  match args, hp, hm with
  | [], _, hm => simp at hm
  | [a], hp, _ => exact pe_dgetE1 c.hu ho (pe_dat (IH X U F c hF a).1) hb (by simpa using hp) hl
  | [a, b], hp, _ =>
    have hp' : plainX a = true ∧ plainX b = true := by simpa using hp
    exact pe_dgetE2 c.hu ho (pe_dat (IH X U F c hF a).1) (pe_dat (IH X U F c hF b).1) hb hp'.1 hp'.2 hl
  | _ :: _ :: _ :: _, _, hm => simp at hm
theorem dpairs_ok (c : COk T k X U) (hF : Fits T.np T.lk F) (IH : RecOk T k R) {pos : Pos} : ∀ {ks : List (Option Expr)} {vs : List Expr}, ks.all (·.isSome) = true → ks.length = vs.length → PPs X pos ks vs ((dpairs (R X.env.scope).1 ks vs).map fun m => (tDA X F U m.1, tDA X F U m.2))
  | [], [], _, _ => pps_nil
  | [], _ :: _, _, h => by cases h
  | _ :: _, [], _, h => by cases h
  | none :: _, _ :: _, h, _ => by simp at h
  | some e :: ks, v :: vs, h, hl => by
    rw [List.all_cons, Bool.and_eq_true] at h
    have fits : ∀ F' : Fr0, F'.np = F.np → F'.lk = F.lk → Fits T.np T.lk F' := fun F' h1 h2 => ⟨h1 ▸ hF.1, h2 ▸ hF.2⟩
    exact pps_cons (pe_tDA fun F' h1 h2 => pe_dat (IH X U F' c (fits F' h1 h2) e).1) (pe_tDA fun F' h1 h2 => pe_dat (IH X U F' c (fits F' h1 h2) v).1) (dpairs_ok c hF IH h.2 (Nat.succ.inj hl))
theorem pe_methN (c : COk T k X U) (hF : Fits T.np T.lk F) (IH : RecOk T k R) {x m : Str} {p apos pos : Pos} {i : Nat} {args : List Expr} (hx : PE X (.Name x p) (tVar i)) (hp : args.all plainX = true) (hl : (apos.endLine == pos.line) = true) (hlen : args.length < 20) :
    PE X (.Call (.Attribute (.Name x p) m apos) args [] pos) (tE X F U (methN i m (args.map (plOf T X.env.scope (R X.env.scope).1)) (args.map fun e => dat ((R X.env.scope).1 e)))) := by
  unfold methN
  split
  · rename_i e
    subst e
    match args, hp with
    | [], _ => exact pe_bad
    | [a], hp => exact pe_appE hx (pe_dat (IH X U F c hF a).1) (by simpa using hp) hl
    | _ :: _ :: _, _ => exact pe_bad
  · split
    · rename_i e
      subst e
      match args, hp with
      | [], _ => exact pe_bad
      | [a], _ => exact pe_bad
      | [a, b], hp =>
        have hp' : plainX a = true ∧ plainX b = true := by simpa using hp
        exact pe_insE hx (pl_ok c hF IH a) (pe_dat (IH X U F c hF b).1) hp'.1 hp'.2 hl
      | _ :: _ :: _ :: _, _ => exact pe_bad
    · split
      · rename_i e
        subst e
        match args, hp with
        | [], _ => exact pe_popE hx hl
        | [a], hp => exact pe_popAtE hx (pl_ok c hF IH a) (by simpa using hp) hl
        | _ :: _ :: _, _ => exact pe_bad
      · split
        · rename_i hm
          match args, hp, hm with
          | [], _, hm => simp [isStrM] at hm
          | [a], hp, hm => exact pe_methE (by simpa using hm) (pe_plName hx) rfl (pls_ok c hF IH hp) (by simpa using hp) hl
          | _ :: _ :: _, _, hm => simp [isStrM] at hm
        · split
          · rename_i hm
            rw [List.length_map] at hm
            exact pe_get c hF IH (pe_plName hx) rfl hp hl hm
          · exact pe_bad
theorem pe_call (c : COk T k X U) (hF : Fits T.np T.lk F) (IH : RecOk T k R) {g : Str} {p pos : Pos} {a : Expr} {args : List Expr} :
    PE X (.Call (.Name g p) (a :: args) [] pos) (tE X F U (callG T X.env.scope (plOf T X.env.scope (R X.env.scope).1) g a args)) := by
  have hg := c.glo g
  unfold callG
  split
  case isFalse => exact pe_bad
  rename_i hh
  simp only [Bool.and_eq_true] at hh
  obtain ⟨⟨h1, h2⟩, h3⟩ := hh
  split
  · rename_i n e
    rw [e] at hg
    obtain ⟨ad, fd, pn, hm, hk, hb, hn, Fn⟩ := hg
    split
    · rename_i hl
      refine pe_userE Fn c.room (gl_of h1) hm hk hb c.tk (by rw [hn]; exact hl) (okName_of h2).1 h3 (pls_ok c hF IH h3) fun ρ ps ρ' e => ?_
      rw [plS_length e, List.length_map]
    · exact pe_bad
  · exact pe_bad
  · rename_i e
    rw [e] at hg
    split
    · rename_i hb
      exact pe_callE hb c.hu c.calm (gl_of h1) (hg (blt_free hb)) h3 (pls_ok c hF IH h3)
    · exact pe_bad
theorem pe_userX (c : COk T k X U) {o i : Expr} {p pos : Pos} {e : Expr} {es : List Expr} {mf : M Pf.W} {m : M (List Pl)} (hf : PE X (.Subscript o i p) (tD X F U mf)) (hp : (e :: es).all plainX = true) (ha : PA X (e :: es) (tPs X F U m))
    (hml : ∀ ρ ps ρ', m ρ = .ok ps ρ' → ps.length = (e :: es).length) : PE X (.Call (.Subscript o i p) (e :: es) [] pos) (tE X F U (userXE T.G T.C (es.length + 1) mf m)) := by
  have hp' := hp
  rw [List.all_cons, Bool.and_eq_true] at hp'
  refine ⟨fun pins s σ H Q I ⟨G, ρ, r, p⟩ => ?_⟩
  refine Call_ (thn (hf.run pins s σ H _ I ⟨G, ρ, r, post.bind p⟩) fun u s1 ⟨y, H1, I1, ry, G1, ρ1, w, s1', r1, q1, p1⟩ => ?_) rfl
  cases w with
  | fn x =>
    have hg := c.glo x
    cases eg : T.G.lookup x with
    | none =>
      rw [show userX T.G T.C (es.length + 1) m (.fn x) = M.bad by simp only [userX, eg]] at p1
      exact p1.elim
    | some g =>
      cases g with
      | cls =>
        rw [show userX T.G T.C (es.length + 1) m (.fn x) = M.bad by simp only [userX, eg]] at p1
        exact p1.elim
      | con z =>
        rw [show userX T.G T.C (es.length + 1) m (.fn x) = M.bad by simp only [userX, eg]] at p1
        exact p1.elim
      | knd z =>
        rw [show userX T.G T.C (es.length + 1) m (.fn x) = M.bad by simp only [userX, eg]] at p1
        exact p1.elim
      | hnd z z' =>
        rw [show userX T.G T.C (es.length + 1) m (.fn x) = M.bad by simp only [userX, eg]] at p1
        exact p1.elim
      | key z =>
        rw [show userX T.G T.C (es.length + 1) m (.fn x) = M.bad by simp only [userX, eg]] at p1
        exact p1.elim
      | fn n =>
        by_cases hl : es.length + 1 = n
        · rw [show userX T.G T.C (es.length + 1) m (.fn x) = userE T.C x m by simp only [userX, eg]; exact if_pos hl] at p1
          rw [eg] at hg
          obtain ⟨ad, fd, pn, hm, hk, hb, hn, Fn⟩ := hg
          have q1' : Rep X.K X.mg G1 y (.fn x) := q1
          cases q1' with
          | fn hm2 =>
            rw [hm] at hm2
            cases hm2
            obtain rfl : u = Value.ref ad := ry
            have p2 := post.bind (P := pPls X) p1
            have p3 : post X F U (pPls X) G1 σ (m ρ1) (fun vs H2 => vs.length = es.length + 1 ∧ ∃ G2 ρ2 a, Sub G1 G2 ∧ Rel X.K X.mg F G2 H2 σ ρ2 ∧ pPls X G2 H2 σ ρ2 vs a ∧ post X F U (pSl X F) G2 σ (invoke T.C x a ρ2) Q) := by
              cases e1 : m ρ1 with
              | bad => rw [e1] at p2; exact p2
              | exc C ρ' => rw [e1] at p2; exact p2
              | ok pa ρ' =>
                rw [e1] at p2
                exact fun xs G' H' s2 r2 q2 => ⟨by rw [Paired.length q2, hml ρ1 pa ρ' e1]; rfl, p2 xs G' H' s2 r2 q2⟩
            refine PySem.W.callWith_K (h₀ := X.base) I1.ok.mod.kin hk (thn (ha.run pos pins s1 σ H1 _ I1 ⟨G1, ρ1, r1, p3⟩) fun us s2 ⟨vs, H2, I2, r2, hlv, G2, ρ2, ps, s2', r3, q3, p4⟩ => ⟨I2.kIn, ?_⟩) (star_of hp'.1) (plainAll X.env pos es hp'.2).1
            exact run_fnS Fn c.room hb (L2N.passAt c.tk σ) I2 r2 (run_invoke r3 q3 (by rw [hlv, hl, hn]) p4)
        · rw [show userX T.G T.C (es.length + 1) m (.fn x) = M.bad by simp only [userX, eg]; exact if_neg hl] at p1
          exact p1.elim
  | _ => exact p1.elim
theorem pe_comp (c : COk T k X U) (hF : Fits T.np T.lk F) (IH : RecOk T k R) {elt tg iter : Expr} {ifs : List Expr} {scope : Scope} {pos : Pos} (hs : noSet iter = true) (hb : L2.blkC T.N X.env.scope scope (ownOf T tg) = true) (ho : (ownOf T tg).all (fun p => decide (T.np ≤ p.2) && decide (p.2 ∉ T.lk)) = true) {mt : M Bool}
    (ht : ∀ (X' : Cx) (F' : Fr0), COk T k X' U0 → X'.env.scope = relS scope X.env.scope → Fits T.np T.lk F' → PTs X' ifs (tB X' F' U0 mt)) :
    PE X (.ListComp elt [⟨tg, iter, ifs, 0⟩] scope pos) (tE X F U (lcE ((ownOf T tg).map (·.2)) (itOf T X.env.scope (R X.env.scope).1 tg iter) (tgOf T scope tg) mt (dat ((R (relS scope X.env.scope)).1 elt)))) ∧
    ∀ (y : Str) (py spos : Pos) (i : Nat), X.N[i]? = some y → X.env.scope.names.lookup y = some .local → swapsWith (.ListComp elt [⟨tg, iter, ifs, 0⟩] scope pos) (some (.Name y py)) spos.line X.env = pure true →
      PS X (.Assign [.Name y py] (.ListComp elt [⟨tg, iter, ifs, 0⟩] scope pos) spos) (tS X F U (actS (setS T.np T.lk i (lcE ((ownOf T tg).map (·.2)) (itOf T X.env.scope (R X.env.scope).1 tg iter) (tgOf T scope tg) mt (dat ((R (relS scope X.env.scope)).1 elt)))))) := by
  have hi : ∀ i ∈ (ownOf T tg).map (·.2), T.np ≤ i ∧ i ∉ T.lk := fun i h => by
    obtain ⟨q, hq, rfl⟩ := List.mem_map.mp h
    have := List.all_eq_true.mp ho q hq
    rw [Bool.and_eq_true, decide_eq_true_eq, decide_eq_true_eq] at this
    exact this
  have ok : BlkOk X.N X.env.scope scope (ownOf T tg) := by
    rw [c.N]
    exact blkOk_by hb
  have nd : X.N.Nodup := by rw [c.N]; exact c.nd
  have hg : ∀ (s : Shared) (H : Hp) (C : Addr) (cl : List (Str × Addr)) (fp : List Addr), ∀ F, Fits T.np T.lk F → PG (X.blk s H scope (compEnvC scope cl C X.env) fp) tg (gT (X.blk s H scope (compEnvC scope cl C X.env) fp) F ((ownOf T tg).map (·.2)) (tgOf T scope tg)) := fun s H C cl fp F hF =>
    tgOf_ok c.calm c.N c.nd hF (fun x h => blk_loc x h) fun x hx i hi => own_mem hx hi
  have ht' : ∀ (s : Shared) (H : Hp) (C : Addr) (cl : List (Str × Addr)) (fp : List Addr), ∀ F, Fits T.np T.lk F → PTs (X.blk s H scope (compEnvC scope cl C X.env) fp) ifs (tB (X.blk s H scope (compEnvC scope cl C X.env) fp) F U0 mt) := fun s H C cl fp F hF =>
    ht _ F (c.blk s H scope _ fp) rfl hF
  have he : ∀ (s : Shared) (H : Hp) (C : Addr) (cl : List (Str × Addr)) (fp : List Addr), ∀ F, Fits T.np T.lk F → PE (X.blk s H scope (compEnvC scope cl C X.env) fp) elt (tD (X.blk s H scope (compEnvC scope cl C X.env) fp) F U0 (dat ((R (relS scope X.env.scope)).1 elt))) := fun s H C cl fp F hF =>
    pe_dat (IH _ U0 F (c.blk s H scope _ fp) hF elt).1
  exact ⟨pe_lcE c.calm nd hF ok hi (it_ok c hF IH tg iter) hg ht' he hs, fun y py spos i hy hyl hsw => ps_setLcS c.calm nd hF hy hyl hsw ok hi (it_ok c hF IH tg iter) hg ht' he hs⟩
theorem noSet_it {T : Tx} {sc : Scope} {ev : Expr → M Sl} {tg iter : Expr} : noSet iter = true ∨ itOf T sc ev tg iter = M.bad := by
  cases iter <;> first | exact .inl rfl | exact .inr rfl
theorem lcE_bad {is : List Nat} {tm : Pf.W → M Unit} {mt : M Bool} {me : M Pf.W} : lcE is M.bad tm mt me = M.bad := rfl
theorem ptsNil : PTs X [] (tB X F U (M.ret true)) := ⟨fun pins s σ H Q I ⟨G, ρ, r, p⟩ => pts_nil.run pins s σ H Q I (p true G H (.refl _) r rfl)⟩
theorem pe_bool1 {op : PySem.BoolOp} {e : Expr} {pos : Pos} {m : M Sl} (h : PE X e (tE X F U m)) : PE X (.BoolOp op [e] pos) (tE X F U m) := pe_one h
theorem eStep_ok (c : COk T k X U) (hF : Fits T.np T.lk F) (IH : RecOk T k R) (e : Expr) : PE X e (tE X F U (eStep T R X.env.scope e)) := by
  unfold eStep
  dsimp only
  split
  · -- a constant
    rename_i cc n pos
    unfold constW
    cases cc with
    | int i => exact pe_cst pe_int fun _ => .int _
    | str s => exact pe_cst pe_str fun _ => .str _
    | bool b => exact pe_cst pe_bl fun _ => .bl _
    | none => exact pe_cst pe_non fun _ => .non
    | _ => exact pe_bad
  · -- a name
    rename_i x pos
    split
    · rename_i h2
      split
      · rename_i h1
        split
        · rename_i i h3
          exact pe_nameE (name_var c h1 h2 h3)
        · exact pe_bad
      · split
        · rename_i h1
          have hg := c.glo x
          split
          · rename_i n e
            rw [e] at hg
            obtain ⟨ad, fd, pn, hm, _⟩ := hg
            exact pe_cst (pe_glob (v := .ref ad) (gl_of h1) hm rfl (okName_of h2).1) fun _ => .fn hm
          · rename_i w e
            rw [e] at hg
            obtain ⟨u, v, hm, hr, q⟩ := hg
            exact pe_cst (pe_glob (gl_of h1) hm hr (okName_of h2).1) q
          · exact pe_bad
          · rename_i e
            rw [e] at hg
            split
            · rename_i t ht
              exact pe_cst (pe_bltn (v := .ty t) (gl_of h1) (hg (tyOf_free (by rw [ht]; rfl))) (tyOf_boot ht) rfl (okName_of h2).2.2 (okName_of h2).1) fun _ => .ty _
            · exact pe_bad
        · exact pe_bad
    · exact pe_bad
  · exact pe_binE (pl_ok c hF IH _) (pl_ok c hF IH _)
  · exact pe_notE (pl_ok c hF IH _)
  · exact pe_negE (pl_ok c hF IH _)
  · rename_i a es pos
    exact pe_dE (pe_andV (pairedMap (R := fun e m => PE X e (tD X F U m)) (f := fun e => dat ((R X.env.scope).1 e)) (a :: es) fun e _ => pe_dat (IH X U F c hF e).1))
  · rename_i a es pos
    exact pe_dE (pe_orV (pairedMap (R := fun e m => PE X e (tD X F U m)) (f := fun e => dat ((R X.env.scope).1 e)) (a :: es) fun e _ => pe_dat (IH X U F c hF e).1))
  · split
    · rename_i h
      exact pe_cmpE c.hu (pl_ok c hF IH _) (pl_ok c hF IH _) (noSet_marks h)
    · exact pe_bad
  · split
    · rename_i h
      rw [Bool.and_eq_true] at h
      exact pe_chainE c.hu (pl_ok c hF IH _) (pl_ok c hF IH _) (pl_ok c hF IH _) (noSet_marks2 h.1 h.2)
    · exact pe_bad
  · exact pe_ifE (IH X U F c hF _).2 (IH X U F c hF _).1 (IH X U F c hF _).1
  · split
    · rename_i h
      exact pe_lstE (dats_ok c hF IH h)
    · exact pe_bad
  · split
    · rename_i h
      exact pe_tupE (dats_ok c hF IH h)
    · exact pe_bad
  · exact pe_newK
  · split
    · rename_i h
      simp only [Bool.and_eq_true, decide_eq_true_eq] at h
      obtain ⟨⟨⟨h1, h2⟩, h3⟩, h4⟩ := h
      exact pe_dispE (dpairs_ok c hF IH h1 h2) h1 h2 (fun z => by rw [z] at h3; cases h3) h4
    · exact pe_bad
  · rename_i g p a kw f pf pk pos
    split
    · rename_i h
      simp only [Bool.and_eq_true, decide_eq_true_eq, Option.isNone_iff_eq_none] at h
      obtain ⟨⟨⟨⟨⟨⟨rfl, rfl⟩, h3⟩, h4⟩, h5⟩, h6⟩, h7⟩ := h
      have hm := c.glo "sorted"
      rw [h7] at hm
      have hk := c.glo (kmk f)
      split
      · rename_i y e
        rw [e] at hk
        split
        · rename_i e2
          subst e2
          obtain ⟨fa, hf1, hf2⟩ := hk
          exact pe_srtKE hf2 (by have := c.room.dp; omega) c.hu (gl_of h3) (hm (by decide +kernel)) (gl_of h4) hf1 (okName_of h5).1 h6 (pl_ok c hF IH _)
        · exact pe_bad
      · exact pe_bad
    · exact pe_bad
  · rename_i g p g2 p2 a q pos _
    split
    · rename_i hh
      rw [Bool.and_eq_true, decide_eq_true_eq, decide_eq_true_eq] at hh
      obtain ⟨rfl, rfl⟩ := hh
      split
      · rename_i h
        simp only [Bool.and_eq_true, Option.isNone_iff_eq_none] at h
        obtain ⟨⟨⟨⟨h1, h2⟩, h3⟩, h4⟩, h5⟩ := h
        have hm := c.glo "sorted"
        rw [h4] at hm
        have hm2 := c.glo "set"
        rw [h5] at hm2
        exact pe_srtSetE c.calm c.hu (gl_of h1) (hm (by decide +kernel)) (gl_of h2) (hm2 (by decide +kernel)) h3 (pl_ok c hF IH _)
      · exact pe_bad
    · exact pe_call c hF IH
  · exact pe_call c hF IH
  · rename_i o i p a args pos
    split
    · rename_i h
      refine pe_userX c (pe_dat (IH X U F c hF _).1) h (pls_ok c hF IH h) fun ρ ps ρ' e => ?_
      rw [plS_length e, List.length_map]
    · exact pe_bad
  · rename_i o m apos args pos
    split
    · rename_i h
      simp only [Bool.and_eq_true, decide_eq_true_eq] at h
      obtain ⟨⟨⟨h1, h2⟩, h3⟩, h4⟩ := h
      split
      · rename_i x p
        split
        · rename_i h5
          rw [Bool.and_eq_true] at h5
          split
          · rename_i i h6
            exact pe_methN c hF IH (name_var c h5.1 h5.2 h6) h1 h2 h4
          · exact pe_bad
        · exact pe_bad
      · split
        · rename_i hm
          match args, h1, hm with
          | [], _, hm => simp [isStrM] at hm
          | [a], hp, hm => exact pe_methE (by simpa using hm) (pe_plE (IH X U F c hF _).1) h3 (pls_ok c hF IH hp) (by simpa using hp) h2
          | _ :: _ :: _, _, hm => simp [isStrM] at hm
        · split
          · rename_i hm
            exact pe_get c hF IH (pe_plE (IH X U F c hF _).1) h3 h1 h2 hm
          · exact pe_bad
    · exact pe_bad
  · exact pe_revE (pl_ok c hF IH _)
  · exact pe_sliceE (pl_ok c hF IH _) (partOk c hF IH _) (partOk c hF IH _)
  · split
    · rename_i h
      exact pe_itemE c.hu (pl_ok c hF IH _) (pl_ok c hF IH _) (noSlice_plain h)
    · exact pe_bad
  · rename_i elt tg iter ifs scope pos
    split
    · rename_i h
      rw [Bool.and_eq_true] at h
      rcases noSet_it (T := T) (sc := X.env.scope) (ev := (R X.env.scope).1) (tg := tg) (iter := iter) with hs | hs
      · split
        · exact (pe_comp c hF IH hs h.1 h.2 fun X' F' _ _ _ => ptsNil).1
        · rename_i cnd
          exact (pe_comp c hF IH hs h.1 h.2 fun X' F' c' e' hF' => pts_one (e' ▸ (IH X' U0 F' c' hF' cnd).2)).1
        · exact pe_bad
      · split
        · rw [hs]; exact pe_bad
        · rw [hs]; exact pe_bad
        · exact pe_bad
    · exact pe_bad
  · exact pe_bad
theorem pt_chainE {a b d : Expr} {pos : Pos} {op op' : CmpOp} {ma mb mc : M Pl} (hu : X.A.units + 65 < cLine) (ha : PE X a (tP X F U ma)) (hb : PE X b (tP X F U mb)) (hc : PE X d (tP X F U mc)) (hm : lastMarks [op, op'] [b, d] = false) :
    PT X (.Compare a [op, op'] [b, d] pos) (tB X F U (tstE (chainE op op' ma mb mc))) := (pt_chain (cmp_ok hu op) (cmp_ok hu op') ha hb hc hm).imp fun σ H Q h => run_chain (run_tst h)
theorem tStep_ok (c : COk T k X U) (hF : Fits T.np T.lk F) (IH : RecOk T k R) (e : Expr) : PT X e (tB X F U (tStep T R X.env.scope e)) := by
  unfold tStep
  split
  · exact pt_notT (IH X U F c hF _).2
  · rename_i a es pos
    exact (pw_andT (pairedMap (a :: es) fun e _ => (IH X U F c hF e).2)).pt
  · rename_i a es pos
    exact (pw_orT (pairedMap (a :: es) fun e _ => (IH X U F c hF e).2)).pt
  · split
    · rename_i h
      exact pt_cmpE c.hu (pl_ok c hF IH _) (pl_ok c hF IH _) (noSet_marks h)
    · exact pt_bad
  · split
    · rename_i h
      rw [Bool.and_eq_true] at h
      exact pt_chainE c.hu (pl_ok c hF IH _) (pl_ok c hF IH _) (pl_ok c hF IH _) (noSet_marks2 h.1 h.2)
    · exact pt_bad
  · exact pt_bad
  · exact pt_bad
  · exact pt_bad
  · rename_i h1 h2 h3 h4 h5 h6 h7 h8
    refine pt_truE (pl_ok c hF IH _) ?_
    cases e with
    | UnaryOp op a p => cases op <;> first | rfl | exact (h1 _ _ rfl).elim
    | BoolOp op es p => exact (h8 _ _ _ rfl).elim
    | IfExp x y z p => exact (h7 _ _ _ _ rfl).elim
    | Compare x y z p => exact (h6 _ _ _ _ rfl).elim
    | _ => rfl
end Pf

-- PfTie3
/-! Pf: statements agree. -/
namespace Pf
open PySem PySem.Spec PyProof.Rows L2
variable {T : Tx} {k : Nat} {X : Cx} {F : Fr0} {U : WX} {R : Rec}
theorem evN_ok (T : Tx) (k : Nat) : ∀ n, RecOk T k (evN T n)
  | 0 => fun X U F c hF e => ⟨pe_bad, pt_bad⟩
  | n + 1 => fun X U F c hF e => ⟨eStep_ok c hF (evN_ok T k n) e, tStep_ok c hF (evN_ok T k n) e⟩
theorem COk.lock (c : COk T k X U) (l : List Nat) : COk { T with lk := l } k X U := ⟨c.calm, c.N, c.nd, c.room, c.tk, c.glo⟩
/-- a def's own context -/
def StX (X : Cx) : Prop := (∀ x, X.fn x = true) ∧ X.stack = X.env :: X.outer ∧ X.env.frame = some X.env.locals
/-- what the statements' recursion gives -/
def SOk (sc : Scope) (k : Nat) (S : Tx → Stmt → M Fl) : Prop := ∀ (T : Tx) (X : Cx) (U : WX) (F : Fr0), X.env.scope = sc → COk T k X U → PassesOwn (model X.prog X.w) X.A X.env X.xe → StX X → Fits T.np T.lk F → ∀ st, PS X st (tS X F U (S T st))
theorem pss_of {S : Stmt → M Fl} {b : List Stmt} (h : ∀ st, PS X st (tS X F U (S st))) : PSs X b (tS X F U (blkS (b.map S))) := pss_blk (pairedMap (R := fun st m => PS X st (tS X F U m)) b fun st _ => h st)
theorem ps_set1 (c : COk T k X U) (hfn : ∀ x, X.fn x = true) (hF : Fits T.np T.lk F) {x : Str} {p pos : Pos} {i : Nat} {e : Expr} (h1 : locIn X.env.scope x = true) (h2 : slotOf T.N x = some i) (n : Nat) :
    PS X (.Assign [.Name x p] e pos) (tS X F U (actS (setS T.np T.lk i ((evN T (n + 1) X.env.scope).1 e)))) := by
  have hN : X.N.Nodup := by rw [c.N]; exact c.nd
  have hi : X.N[i]? = some x := by rw [c.N]; exact slot_of h2
  have he := (evN_ok T k (n + 1) X U F c hF e).1
  cases e <;> try (first | exact ps_setS hF hN hi (loc_of h1) (.inl (hfn x)) he rfl)
  · rename_i elt gens scope pos'
    have hs : swapsWith (.ListComp elt gens scope pos') (some (.Name x p)) pos.line X.env = pure (X.env.blockKind == .function && X.env.kindOf x == some .local && p.line == pos'.line
      && !(scope.names.any fun (n, k) => n == x && (k == .local || k == .cell))) := rfl
    cases hb : (X.env.blockKind == .function && X.env.kindOf x == some .local && p.line == pos'.line
      && !(scope.names.any fun (n, k) => n == x && (k == .local || k == .cell))) with
    | false =>
      rw [hb] at hs
      exact ps_setS hF hN hi (loc_of h1) (.inl (hfn x)) he hs
    | true =>
      rw [hb] at hs
      have hl : X.env.scope.names.lookup x = some .local := by
        simp only [Bool.and_eq_true] at hb
        have := hb.1.1.2
        exact eq_of_beq this
      show PS X _ (tS X F U (actS (setS T.np T.lk i (eStep T (evN T n) X.env.scope (.ListComp elt gens scope pos')))))
      clear he
      unfold eStep
      dsimp only
      split <;> first | exact ps_bad | (exfalso; rename_i h; cases h; done) | skip
      rename_i e' elt2 tg iter ifs scope2 pos2 heq
      cases heq
      split
      · rename_i h
        rw [Bool.and_eq_true] at h
        rcases noSet_it (T := T) (sc := X.env.scope) (ev := ((evN T n) X.env.scope).1) (tg := tg) (iter := iter) with hn | hn
        · split
          · exact (pe_comp c hF (evN_ok T k n) hn h.1 h.2 fun X' F' _ _ _ => ptsNil).2 x p pos i hi hl hs
          · rename_i cnd
            exact (pe_comp c hF (evN_ok T k n) hn h.1 h.2 fun X' F' c' e' hF' => pts_one (e' ▸ (evN_ok T k n X' U0 F' c' hF' cnd).2)).2 x p pos i hi hl hs
          · exact ps_bad
        · split
          · rw [hn]; exact ps_bad
          · rw [hn]; exact ps_bad
          · exact ps_bad
      · exact ps_bad
  · exact ps_bad
  · exact ps_bad
theorem ps_set1A (c : COk T k X U) (hfn : ∀ x, X.fn x = true) (hF : Fits T.np T.lk F) {x : Str} {p pos : Pos} {i : Nat} {e : Expr} (h1 : locIn X.env.scope x = true) (h2 : slotOf T.N x = some i) (n : Nat) :
    PS X (.Assign [.Name x p] e pos) (tS X F U (actS (setS T.np T.lk i (asgE T x e ((evN T (n + 1) X.env.scope).1 e))))) := by
  unfold asgE
  split
  · split
    · exact ps_setS hF (by rw [c.N]; exact c.nd) (by rw [c.N]; exact slot_of h2) (loc_of h1) (.inl (hfn x)) pe_newT rfl
    · exact ps_set1 c hfn hF h1 h2 n
  · exact ps_set1 c hfn hF h1 h2 n
end Pf

-- PfTie4
/-! Pf: statements agree, all of them. -/
namespace Pf
open PySem PySem.Spec PyProof.Rows L2
variable {T : Tx} {k : Nat} {X : Cx} {F : Fr0} {U : WX}
theorem ps_excS (c : COk T k X U) {x m : Str} {j : Nat} {p p2 pos pos' : Pos} (h1 : globIn X.env.scope x = true) (h2 : okName x = true) (h3 : T.G.lookup x = some .cls) :
    PS X (.Raise (some (.Call (.Name x p) [.Constant (.str m) j p2] [] pos')) none pos) (tS X F U (excS x)) := by
  have hg := c.glo x
  rw [h3] at hg
  obtain ⟨ca, hm, hs, ht, hk, hx⟩ := hg
  exact (L2N.ps_raise c.calm c.tk (L2N.pmk_own PySem.F.excBase_ValueError hx hm hk (raises_own hs ht) (gl_of h1) (okName_of h2).1)).imp fun D σ H ⟨G, ρ, r, q⟩ => q σ G H (.refl _) r ca hm
theorem mem_lk {l : List Nat} : ∀ j ∈ T.lk, j ∈ l ++ T.lk := fun _ h => List.mem_append_right _ h
theorem forS_bad {lk : List Nat} {tg : Pf.W → M Unit} {b : M Fl} : forS lk M.bad tg b = M.bad := rfl
theorem kE0_ok (c : COk T k X U) {a : Addr} {oe : Obj} {pn : List (Addr × Obj)} {F' : Fr0} {n C : Str} {cc : Addr} {i : Nat} (hot : L2H.Hot1 (X.suite a ((a, oe) :: pn)).A (a, oe)) (hmC : X.mg C = some (.ref cc)) (hz : Zc (.ref cc) none oe) (hfl : ∃ vs, oe.data = .fields vs) (hFi : HFi F' i (a, oe)) (hi : T.N[i]? = some n) (e : Expr) :
    PE (X.suite a ((a, oe) :: pn)) e (tE (X.suite a ((a, oe) :: pn)) F' U0 (kE0 T X.env.scope n C e)) := by
  unfold kE0
  split
  · exact pe_cst pe_non fun _ => .non
  · rename_i g pg m pm pos
    split
    · rename_i h
      simp only [Bool.and_eq_true, decide_eq_true_eq] at h
      obtain ⟨⟨⟨⟨rfl, h2⟩, h3⟩, h4⟩, h5⟩ := h
      have hg := c.glo g
      split
      · rename_i cs e1
        rw [e1] at hg
        obtain ⟨f, y, k1, k2, k3, k4⟩ := hg
        split
        · rename_i hC
          obtain ⟨D, m1, m2⟩ := k4 C hC
          rw [hmC] at m1
          cases m1
          exact pe_kind (X := X.suite a ((a, oe) :: pn)) (p := (a, oe)) m2 (by have := c.room.dp; show X.A.depth < _; omega) hot List.mem_cons_self hz hfl (gl_of h2) k1 k2 k3 (okName_of h3).1 (pe_var (X := X.suite a ((a, oe) :: pn)) (by show X.N[i]? = _; rw [c.N]; exact hi) (vis_of h5) (okName_of h4).1 (okName_of h4).2.1) hFi
        · exact pe_bad
      · exact pe_bad
    · exact pe_bad
  · exact pe_bad
theorem kS_ok (c : COk T k X U) (hfn : ∀ x, X.fn x = true) {a : Addr} {oe : Obj} {pn : List (Addr × Obj)} {F' : Fr0} {n C : Str} {cc : Addr} {i : Nat} (hot : L2H.Hot1 (X.suite a ((a, oe) :: pn)).A (a, oe)) (hmC : X.mg C = some (.ref cc)) (hz : Zc (.ref cc) none oe) (hfl : ∃ vs, oe.data = .fields vs) (hF : Fits T.np (i :: T.lk) F') (hFi : HFi F' i (a, oe)) (hi : T.N[i]? = some n) {st : Stmt} :
    PS (X.suite a ((a, oe) :: pn)) st (tS (X.suite a ((a, oe) :: pn)) F' U0 (kS T X.env.scope n i C st)) := by
  have k0 := kE0_ok (F' := F') c hot hmC hz hfl hFi hi
  unfold kS
  split
  · rename_i y py e pos
    split
    · rename_i h
      rw [Bool.and_eq_true] at h
      split
      · rename_i j h2
        refine ps_setS (X := X.suite a ((a, oe) :: pn)) hF (by show X.N.Nodup; rw [c.N]; exact c.nd) (by show X.N[j]? = _; rw [c.N]; exact slot_of h2) (loc_of h.1) (.inl (hfn y)) ?_ ?_
        · unfold kE
          split
          · split
            · rename_i hp
              exact pe_tupE (pa_evS hp (pairedMap _ fun e _ => pe_dat (k0 e)))
            · exact pe_bad
          · exact k0 _
        · cases e <;> first | rfl | (exfalso; cases h.2)
      · exact ps_bad
    · exact ps_bad
  · exact ps_bad
theorem sStep_ok {sc : Scope} {S : Tx → Stmt → M Fl} (hS : SOk sc k S) : SOk sc k (sStep · sc S) := by
  intro T X U F hsc c hp hst hF st
  have hfn := hst.1
  subst hsc
  have IH := evN_ok T k 24
  have hN : X.N.Nodup := by rw [c.N]; exact c.nd
  have hS' : ∀ st, PS X st (tS X F U (S T st)) := hS T X U F rfl c hp hst hF
  show PS X st (tS X F U (sStep T X.env.scope S st))
  unfold sStep
  dsimp only
  split
  · exact ps_nx L2.ps_pass
  · exact ps_nx L2.ps_doc
  · split
    · rename_i h
      exact ps_dropS (IH X U F c hF _).1 h
    · exact ps_bad
  · split
    · rename_i h1
      split
      · rename_i i h2
        exact ps_set1A c hfn hF h1 h2 23
      · exact ps_bad
    · exact ps_bad
  · rename_i es n p e pos
    split
    · rename_i h1
      exact ps_tupS (tgOf_ok c.calm c.N c.nd hF (fun x h => ⟨loc_of h, .inl (hfn x)⟩) fun x hx i hi => own_mem hx hi) (pe_dat (IH X U F c hF _).1) h1 fun w ρ C ρ' => tgOf_noexc _ w ρ C ρ'
    · exact ps_bad
  · rename_i x p kk p2 e pos
    split
    · rename_i h
      simp only [Bool.and_eq_true] at h
      split
      · rename_i i h2
        exact ps_setItemS c.hu (name_var c h.1.1 h.1.2 h2) (pl_ok c hF IH _) (pe_dat (IH X U F c hF _).1) h.2
      · exact ps_bad
    · exact ps_bad
  · split
    · rename_i h1
      split
      · rename_i i h2
        exact ps_augS hF hN (by rw [c.N]; exact slot_of h2) (loc_of h1) (.inl (hfn _)) (pl_ok c hF IH _)
      · exact ps_bad
    · exact ps_bad
  · exact ps_ifS (IH X U F c hF _).2 (pss_of hS') (pss_of hS')
  · rename_i tg it body pos
    rcases noSet_it (T := T) (sc := X.env.scope) (ev := ((evN T 24) X.env.scope).1) (tg := tg) (iter := it) with hn | hn
    · exact ps_forS hp c.calm hF mem_lk (fun w ρ C ρ' => tgOf_noexc _ w ρ C ρ') (it_ok c hF IH tg it)
        (fun F' hF' => tgOf_ok (T := { T with lk := lkOf T X.env.scope it ++ T.lk }) c.calm c.N c.nd hF' (fun x h => ⟨loc_of h, .inl (hfn x)⟩) fun x hx i hi => own_mem hx hi)
        (fun F' hF' => pss_of fun st => hS _ X U F' rfl (c.lock _) hp hst hF' st) hn
    · rw [hn]
      exact ps_bad
  · rename_i body x q n st pos' pos
    split
    · rename_i h
      simp only [Bool.and_eq_true, decide_eq_true_eq] at h
      obtain ⟨⟨⟨h1, h2⟩, h3⟩, h4⟩ := h
      split
      · rename_i y cs i e1 e2
        split
        · rename_i e3
          subst e3
          have hg := c.glo (hmk y)
          rw [e1] at hg
          obtain ⟨cy, hm, hcs⟩ := hg
          refine ps_tryS hF hst.2.1 hst.2.2 hN (by rw [c.N]; exact slot_of e2) h4 ⟨gl_of h1, (okName_of h2).1, .inl hm⟩ c.tk hcs
            (fun W pn xe tkW pW => pss_of fun st => hS T (X.tr pn xe) W F rfl (c.tr tkW) pW hst hF st) fun a oe C cc pn F' hC hmC hz hfl hot hF' hFi => ?_
          exact pss_blk (.cons (kS_ok c hst.1 hot hmC hz hfl hF' hFi (slot_of e2)) .nil)
        · exact ps_bad
      · exact ps_bad
    · exact ps_bad
  · exact ps_whileS hp (IH X U F c hF _).2 (pss_of hS')
  · split
    · rename_i h1
      split
      · rename_i h2
        split
        · rename_i i h3
          exact ps_retMove (name_var c h1 h2 h3)
        · exact ps_bad
      · exact ps_bad
    · exact ps_retS (IH X U F c hF _).1
  · exact ps_retS (IH X U F c hF _).1
  · exact ps_retN'
  · exact ps_breakS
  · exact ps_contS
  · split
    · rename_i h
      rw [Bool.and_eq_true] at h
      split
      · rename_i h3
        exact ps_excS c h.1 h.2 h3
      · exact ps_bad
    · exact ps_bad
  · exact ps_bad
theorem sN_ok {sc : Scope} : ∀ n, SOk sc k (sN sc n)
  | 0 => fun T X U F _ c hp hfn hF st => ps_bad
  | n + 1 => sStep_ok (sN_ok n)
end Pf

-- PfDef
/-! Pf: the text's defs. -/
namespace Pf
open PySem PySem.Spec PyProof.Rows L2
variable {P : Program} {w : World} {K : PySem.W.Frag} {mg : Str → Option Value} {base : Heap} {G H G' H' : Hp} {A0 : Addr → Prop} {vs : List V}
theorem Rel.start {N : List Str} {args : List Sl} (r : Rel K mg (fr0 G H A0 vs) G H (vs.map some) args) : Rel K mg (fr0 G H A0 vs) G H (L2.start N vs) (args ++ List.replicate (N.length - vs.length) .e) := by
  have hl : args.length = vs.length := by have := r.len; simpa using this.symm
  have low : ∀ {i : Nat} {t : Sl}, (args ++ List.replicate (N.length - vs.length) .e)[i]? = some t → t ≠ .e → i < vs.length ∧ args[i]? = some t := fun {i t} h ht => by
    by_cases hi : i < args.length
    · rw [List.getElem?_append_left hi] at h
      exact ⟨hl ▸ hi, h⟩
    · rw [List.getElem?_append_right (by omega), List.getElem?_replicate] at h
      split at h
      · exact absurd (Option.some.inj h).symm ht
      · cases h
  have top : ∀ {i : Nat}, i < vs.length → (L2.start N vs)[i]? = (vs.map some)[i]? := fun {i} h => by
    unfold L2.start
    exact List.getElem?_append_left (by simpa using h)
  refine ⟨r.sub, ?_, fun i w e => ?_, fun i w e => ?_, fun i j w w' a e e' h h' => ?_, r.frame, fun i hi => ?_, r.new⟩
  · unfold L2.start
    rw [List.length_append, List.length_append, List.length_map, List.length_replicate, List.length_replicate, hl]
  · obtain ⟨h1, h2⟩ := low e (fun z => nomatch z)
    rw [top h1]
    exact r.dat i w h2
  · obtain ⟨h1, h2⟩ := low e (fun z => nomatch z)
    rw [top h1]
    exact r.own i w h2
  · obtain ⟨h1, h2⟩ := low e (fun z => nomatch z)
    obtain ⟨h3, h4⟩ := low e' (fun z => nomatch z)
    rw [top h1] at h
    rw [top h3] at h'
    exact r.sep i j w w' a h2 h4 h h'
  · rcases hi with hi | hi
    · exact top hi
    · cases hi
theorem take_get {ρ : Env} {n i : Nat} {t : Sl} (h : (ρ.take n)[i]? = some t) : i < n ∧ ρ[i]? = some t := by
  rw [List.getElem?_take] at h
  split at h
  · exact ⟨by assumption, h⟩
  · cases h
theorem Rel.fin {σ' : L2.St} {ρ' : Env} (r : Rel K mg (fr0 G H A0 vs) G' H' σ' ρ') : Rel K mg (fr0 G H A0 vs) G' H' (vs.map some) (ρ'.take vs.length) := by
  have pr : ∀ {i : Nat}, i < vs.length → σ'[i]? = (vs.map some)[i]? := fun h => r.par _ (.inl h)
  refine ⟨r.sub, ?_, fun i w e => ?_, fun i w e => ?_, fun i j w w' a e e' h h' => ?_, r.frame, fun i _ => rfl, r.new⟩
  · rw [List.length_map, List.length_take]
    by_cases hv : vs.length = 0
    · omega
    · have h1 := pr (i := vs.length - 1) (by omega)
      rw [List.getElem?_eq_getElem (l := vs.map some) (by simp; omega)] at h1
      have h2 := (List.getElem?_eq_some_iff.mp h1).1
      have := r.len
      omega
  · obtain ⟨h1, h2⟩ := take_get e
    rw [← pr h1]
    exact r.dat i w h2
  · obtain ⟨h1, h2⟩ := take_get e
    rw [← pr h1]
    exact r.own i w h2
  · obtain ⟨h1, h2⟩ := take_get e
    obtain ⟨h3, h4⟩ := take_get e'
    rw [← pr h1] at h
    rw [← pr h3] at h'
    exact r.sep i j w w' a h2 h4 h h'
theorem Rel.finSl {σ' : L2.St} {ρ' : Env} {v : V} {s : Sl} (r : Rel K mg (fr0 G H A0 vs) G' H' σ' ρ') (q : SlRep K mg (fr0 G H A0 vs) G' H' σ' ρ' v s) : SlRep K mg (fr0 G H A0 vs) G' H' (vs.map some) (ρ'.take vs.length) v s := by
  cases s with
  | e => exact q
  | d w => exact q
  | o w =>
    obtain ⟨a, h1, h2, h3, h4, h5⟩ := q
    refine ⟨a, h1, h2, h3, h4, fun i w' e => ?_⟩
    obtain ⟨h6, h7⟩ := take_get e
    rw [← show σ'[i]? = (vs.map some)[i]? from r.par _ (.inl h6)]
    exact h5 i w' h7
def defName : Stmt → Str
  | .FunctionDef x .. => x
  | _ => ""
/-- a def of the text, one row of the table -/
structure DRow where
  st : Stmt
  N : List Str
  ps : List Str
def Glob (P : Program) (w : World) (K : PySem.W.Frag) (mg : Str → Option Value) (base : Heap) (G : List (Str × GK)) (C : Orc) (k : Nat) : Prop := ∀ x, match G.lookup x with
  | some (.fn n) => ∃ a fd pn, mg x = some (.ref a) ∧ PySem.W.keepIn K (.ref a) = true ∧ Binds K fd pn [] ∧ pn.length = n ∧ FnOk P w K mg base (L2N.CX P w) k a fd pn (spOf K mg pn.length (C x))
  | some .cls => ∃ c, mg x = some (.ref c) ∧ PySem.W.subIn K (.ref c) (.type "BaseException") = some true ∧ PySem.W.typeIn K (.ref c) = some (.type "type") ∧ PySem.W.keepIn K (.ref c) = true ∧
      PySem.W.excIn K c [.type "ValueError", .type "Exception", .type "BaseException", .type "object"] "ValueError.__new__" = true
  | some (.con w) => ∃ u v, mg x = some u ∧ RelV v u ∧ ∀ G, Rep K mg G v w
  | some (.knd cs) => ∃ a y, mg x = some (.ref a) ∧ PySem.W.keepIn K (.ref a) = true ∧ (∀ (fd : FuncData) o, K.lookup a = some o → o.data = .func fd → Binds K fd [y] []) ∧ ∀ C ∈ cs, ∃ D, mg C = some (.ref D) ∧ KindOk P w K mg base a y D (.str (C ++ "+"))
  | some (.hnd y cs) => ∃ cy, mg y = some (.ref cy) ∧ ∀ C ∈ cs, ∀ c, mg C = some (.ref c) → PySem.W.exmOne K (.ref c) (.ref cy) = some true
  | some (.key y) => ∃ f, mg y = some (.ref f) ∧ KeyFn P w K f
  | none => x ∈ freeL → mg x = none
noncomputable def defRun (G : List (Str × GK)) (C : Orc) (d : DRow) : List Sl → CRes :=
  bodyRun (blkS ((defBody d.st).map (sN (defScope d.st) 20 ⟨G, d.N, d.ps.length, [], C, defName d.st⟩))) d.N.length d.ps.length
theorem def_ok {Gl : List (Str × GK)} {C : Orc} {x : Str} {d : DRow} {f : Addr} {fd : FuncData} {k : Nat} (F : Fun K x x d.st f fd) (S : FnScope d.N d.ps (defScope d.st)) (g : Glob P w K mg base Gl C k) :
    FnOk P w K mg base (L2N.CX P w) (k + 1) f fd d.ps (spOf K mg d.ps.length (defRun Gl C d)) := by
  obtain ⟨oc, od, kV, doc, pm, an, cdv, ct, osl, rfl, lk, hcd⟩ := F.ex
  refine fn_of lk hcd S (fun vs H Q E h => h.1) (fun A outer s H vs Q E hr h => ?_)
  obtain ⟨hl, G, args, A0, r, h⟩ := h
  let T : Tx := ⟨Gl, d.N, d.ps.length, [], C, defName d.st⟩
  have al : args.length = d.ps.length := by have := r.len; rw [List.length_map, hl] at this; exact this.symm
  have c : COk T k (cxOf (L2N.CX P w) P w K mg base d.N x (defScope d.st) f cdv A outer s H E) (fun cls dd _ H => E cls dd H) :=
    ⟨rfl, rfl, S.nd, hr, L2N.takes_of rfl rfl rfl rfl, g⟩
  refine ⟨tS (cxOf (L2N.CX P w) P w K mg base d.N x (defScope d.st) f cdv A outer s H E) (fr0 G H A0 vs) (fun cls dd _ H => E cls dd H) (blkS ((defBody d.st).map (sN (defScope d.st) 20 T))), ?_, ?_⟩
  · exact pss_of fun st => sN_ok 20 T _ _ _ rfl c (passes_of rfl) ⟨fun _ => rfl, rfl, rfl⟩ ⟨Nat.le_of_eq hl, fun j hj => absurd (show j ∈ ([] : List Nat) from hj) (by simp)⟩ st
  · refine ⟨G, args ++ List.replicate (d.N.length - vs.length) Sl.e, Rel.start (N := d.N) r, ?_⟩
    unfold defRun bodyRun at h
    rw [if_pos al] at h
    rw [hl]
    cases e : blkS ((defBody d.st).map (sN (defScope d.st) 20 T)) (args ++ List.replicate (d.N.length - d.ps.length) .e) with
    | bad => rw [e] at h; exact h.elim
    | exc C' ρ' =>
      rw [e] at h
      intro σ' G' H' s' r' c hc
      exact h G' H' s' (by rw [← hl]; exact r'.fin) c hc
    | ok fl ρ' =>
      rw [e] at h
      cases fl with
      | nx => 
        intro σ' G' H' s' r'
        exact h .non G' H' s' (by rw [← hl]; exact r'.fin) .non
      | rt s0 =>
        intro v σ' G' H' s' r' q
        exact h v G' H' s' (by rw [← hl]; exact r'.fin) (by rw [← hl]; exact r'.finSl q)
      | bk => exact h.elim
      | ct => exact h.elim
/-- calls k deep -/
noncomputable def callN (G : List (Str × GK)) (defs : List (Str × DRow)) : Nat → Orc
  | 0 => fun _ _ => .bad
  | k + 1 => fun x args => match defs.lookup x with
    | some d => defRun G (callN G defs k) d args
    | none => .bad
theorem callN_at {G : List (Str × GK)} {defs : List (Str × DRow)} {x : Str} {d : DRow} (h : defs.lookup x = some d) (k : Nat) (args : List Sl) : callN G defs (k + 1) x args = defRun G (callN G defs k) d args := by
  simp only [callN, h]
/-- what the module has: its defs, classes and built-in names -/
structure Tab (K : PySem.W.Frag) (mg : Str → Option Value) (G : List (Str × GK)) (defs : List (Str × DRow)) : Prop where
  fn : ∀ x n, G.lookup x = some (.fn n) → ∃ d a fd, defs.lookup x = some d ∧ mg x = some (.ref a) ∧ PySem.W.keepIn K (.ref a) = true ∧ Binds K fd d.ps [] ∧ d.ps.length = n ∧ Fun K x x d.st a fd ∧ FnScope d.N d.ps (defScope d.st)
  cls : ∀ x, G.lookup x = some .cls → ∃ c, mg x = some (.ref c) ∧ PySem.W.subIn K (.ref c) (.type "BaseException") = some true ∧ PySem.W.typeIn K (.ref c) = some (.type "type") ∧ PySem.W.keepIn K (.ref c) = true ∧
      PySem.W.excIn K c [.type "ValueError", .type "Exception", .type "BaseException", .type "object"] "ValueError.__new__" = true
  con : ∀ x z, G.lookup x = some (.con z) → ∃ u v, mg x = some u ∧ RelV v u ∧ ∀ G, Rep K mg G v z
  none : ∀ x, G.lookup x = none → x ∈ freeL → mg x = none
  knd : ∀ x cs, G.lookup x = some (.knd cs) → ∃ a y, mg x = some (.ref a) ∧ PySem.W.keepIn K (.ref a) = true ∧ (∀ (fd : FuncData) o, K.lookup a = some o → o.data = .func fd → Binds K fd [y] []) ∧ ∀ C ∈ cs, ∃ D, mg C = some (.ref D) ∧ ∀ P w base, KindOk P w K mg base a y D (.str (C ++ "+"))
  hnd : ∀ x y cs, G.lookup x = some (.hnd y cs) → ∃ cy, mg y = some (.ref cy) ∧ ∀ C ∈ cs, ∀ c, mg C = some (.ref c) → PySem.W.exmOne K (.ref c) (.ref cy) = some true
  key : ∀ x y, G.lookup x = some (.key y) → ∃ f, mg y = some (.ref f) ∧ ∀ P w, KeyFn P w K f
theorem Tab.kndG {G : List (Str × GK)} {defs : List (Str × DRow)} (t : Tab K mg G defs) {x : Str} {cs : List Str} (e : G.lookup x = some (.knd cs)) : ∃ a y, mg x = some (.ref a) ∧ PySem.W.keepIn K (.ref a) = true ∧ (∀ (fd : FuncData) o, K.lookup a = some o → o.data = .func fd → Binds K fd [y] []) ∧ ∀ C ∈ cs, ∃ D, mg C = some (.ref D) ∧ KindOk P w K mg base a y D (.str (C ++ "+")) := by
  obtain ⟨a, y, h1, h2, h3, h4⟩ := t.knd x cs e
  refine ⟨a, y, h1, h2, h3, fun C hC => ?_⟩
  obtain ⟨D, h5, h6⟩ := h4 C hC
  exact ⟨D, h5, h6 P w base⟩
theorem Tab.keyG {G : List (Str × GK)} {defs : List (Str × DRow)} (t : Tab K mg G defs) {x y : Str} (e : G.lookup x = some (.key y)) : ∃ f, mg y = some (.ref f) ∧ KeyFn P w K f := by
  obtain ⟨f, h1, h2⟩ := t.key x y e
  exact ⟨f, h1, h2 P w⟩
theorem Tab.ok {G : List (Str × GK)} {defs : List (Str × DRow)} (t : Tab K mg G defs) : ∀ k, Glob P w K mg base G (callN G defs k) k := by
  intro k
  induction k with
  | zero =>
    intro x
    cases e : G.lookup x with
    | none => exact t.none x e
    | some g =>
      cases g with
      | fn n =>
        obtain ⟨d, a, fd, h1, h2, h3, h4, h5, h6, h7⟩ := t.fn x n e
        refine ⟨a, fd, d.ps, h2, h3, h4, h5, ⟨fun vs H Q E h => h.1, fun A outer s H args us vs Q E hr e0 hb hv hs => ?_⟩⟩
        obtain ⟨_, _, _, _, _, z⟩ := hs
        exact z.elim
      | cls => exact t.cls x e
      | con z => exact t.con x z e
      | knd cs => exact t.kndG e
      | hnd y cs => exact t.hnd x y cs e
      | key y => exact t.keyG e
  | succ k ih =>
    intro x
    cases e : G.lookup x with
    | none => exact t.none x e
    | some g =>
      cases g with
      | fn n =>
        obtain ⟨d, a, fd, h1, h2, h3, h4, h5, h6, h7⟩ := t.fn x n e
        refine ⟨a, fd, d.ps, h2, h3, h4, h5, ?_⟩
        have q := def_ok (P := P) (w := w) (base := base) h6 h7 ih
        have e2 : callN G defs (k + 1) x = defRun G (callN G defs k) d := by
          funext args
          simp only [callN, h1]
        rw [e2]
        exact q
      | cls => exact t.cls x e
      | con z => exact t.con x z e
      | knd cs => exact t.kndG e
      | hnd y cs => exact t.hnd x y cs e
      | key y => exact t.keyG e
end Pf

-- PfKind
/-! Pf: a def that is called while an exception is handled, with that exception. -/
namespace Pf
open PySem PySem.Spec PyProof.Rows L2 HotX
open L2H (Hot1 RoomH PinOk)
section
variable {X : Cx} {F : Fr0} {U : WX} {G H : Hp} {σ : L2.St} {ρ : Env}
/-! ### isinstance of the exception -/
theorem isE_ok {a D : Addr} {oe : Obj} (C : ExcC X.K D) (hz : Zc (.ref D) none oe) (hf : ∃ vs, oe.data = .fields vs) (hp : (a, oe) ∈ X.pn) : CallR X (.builtin "isinstance") (rIsE X.K D a) := by
  rintro pins s σ H xs us Q I r ⟨c, cv, b, rfl, hcv, e, q⟩
  cases r with
  | cons rx rr => cases rr with
    | cons rt rr =>
      cases rr
      cases rx
      cases hcv _ rt
      have hget := (I.pin (a, oe) (List.mem_append_left _ hp)).1
      obtain ⟨vs, hv⟩ := hf
      have J : PySem.W.InstAt s.heap a oe D none := by
        obtain ⟨oc, od, oda, osl⟩ := oe
        obtain ⟨z1, z2⟩ := hz
        dsimp only at z1 z2 hv
        subst z1 z2 hv
        exact ⟨hget, rfl, rfl, trivial⟩
      exact PySem.W.kia_one (PySem.W.handS_kitx_exc C.hg C.hk C.hs C.hd C.ha C.hn C.ht C.hm) I.kIn J e (fun z => nomatch z) fun tk => ⟨.bl b, H, I.kept (t' := tk) fun _ _ z => z, rfl, q⟩
/-- the class of a name, and whether D's instances are of it -/
def KitC (K : PySem.W.Frag) (mg : Str → Option Value) (D : Addr) (x : Str) (b : Bool) : Prop :=
  (∃ c, mg x = some (.ref c) ∧ PySem.W.kitOne K (.ref D) (.ref c) = some b) ∨ (mg x = none ∧ bootBuiltins x = some (.type "ValueError") ∧ PySem.W.kitOne K (.ref D) (.type "ValueError") = some b)
/-- what stands while p's object, one of D's, is handled -/
structure HC (T : Tx) (X : Cx) (p : Addr × Obj) (D : Addr) (cT : Str → Option Bool) : Prop where
  N : X.N = T.N
  nd : T.N.Nodup
  hot : Hot1 X.A p
  pn : p ∈ X.pn
  z : Zc (.ref D) none p.2
  fl : ∃ vs, p.2.data = .fields vs
  ec : ExcC X.K D
  iss : X.mg "isinstance" = none
  zip : X.mg "zip" = none
  cls : ∀ x b, cT x = some b → KitC X.K X.mg D x b
/-- the def's first slot holds it -/
def HF (F : Fr0) (p : Addr × Obj) : Prop := 0 < F.np ∧ F.σ0[0]? = some (some (.ref p.1))
def hP (T : Tx) (sc : Scope) : Expr → M Pl
  | .Name x _ => if seen sc x && okName x then (match slotOf T.N x with
    | some i => plName i
    | none => M.bad) else M.bad
  | _ => M.bad
def hV (T : Tx) (sc : Scope) (x : Str) : M Sl := if seen sc x && okName x then (match slotOf T.N x with
    | some i => nameE i
    | none => M.bad) else M.bad
def tgPair (ts : List (Pf.W → M Unit)) : Pf.W → M Unit
  | .tup ws => tgAll ts ws
  | _ => M.bad
noncomputable def hE (T : Tx) (sc : Scope) (cT : Str → Option Bool) : Nat → Expr → M Sl
  | 0, _ => M.bad
  | n + 1, e => match e with
    | .Constant (.str s) _ _ => cst (.str s)
    | .BinOp a .Add b _ => binE (W.bin .Add) (hP T sc a) (plE (hE T sc cT n b))
    | .List es _ => if es.all plainX then lstE (evS (es.map fun e => dat (hE T sc cT n e))) else M.bad
    | .Call (.Name f _) [.Name x _, .Name c _] [] _ =>
      if decide (f = ("isinstance" : Str)) && globIn sc f && seen sc x && okName x && decide (slotOf T.N x = some 0) && globIn sc c && okName c then (match cT c with
        | some b => cst (.bl b)
        | none => M.bad) else M.bad
    | .Call (.Attribute (.Constant (.str s) _ _) m apos) [a] [] pos => if isStrM m 1 && plainX a && (apos.endLine == pos.line) then methE (plE (cst (.str s))) m (plS [plE (hE T sc cT n a)]) else M.bad
    | .ListComp (.Name y _) [⟨.Tuple ts k tp, .Call (.Name z _) [a, b] [] _, [.Name u _], 0⟩] scope _ =>
      if decide (z = ("zip" : Str)) && globIn sc z && L2.blkC T.N sc scope (ownOf T (.Tuple ts k tp)) && (ownOf T (.Tuple ts k tp)).all (fun p => decide (T.np ≤ p.2) && decide (p.2 ∉ T.lk)) && ts.all isNameX && plainX a && plainX b then
        lcE ((ownOf T (.Tuple ts k tp)).map (·.2)) (itZip (plS [hP T sc a, hP T sc b])) (tgPair (ts.map (tgOne T scope)))
          (truE (hP T (relS scope sc) (.Name u ⟨0, 0, 0, 0⟩))) (dat (hV T (relS scope sc) y)) else M.bad
    | _ => M.bad
variable {T : Tx} {p : Addr × Obj} {D : Addr} {cT : Str → Option Bool}
theorem pl_bad {e : Expr} : PE X e (tP X F U M.bad) := ⟨fun _ _ _ _ _ _ ⟨_, _, _, h⟩ => h.elim⟩
theorem hP_ok (hN : X.N = T.N) {e e' : Expr} (he : e' = e ∨ ∃ x q q', e = .Name x q ∧ e' = .Name x q') : PE X e (tP X F U (hP T X.env.scope e')) := by
  have key : ∀ {x : Str} {q q' : Pos}, PE X (.Name x q) (tP X F U (hP T X.env.scope (.Name x q'))) := fun {x q q'} => by
    unfold hP
    dsimp only
    split
    · rename_i h
      rw [Bool.and_eq_true] at h
      split
      · rename_i i h3
        exact pe_plName (pe_var (by rw [hN]; exact slot_of h3) (vis_of h.1) (okName_of h.2).1 (okName_of h.2).2.1)
      · exact pl_bad
    · exact pl_bad
  rcases he with rfl | ⟨x, q, q', rfl, rfl⟩
  · cases e' <;> first | exact key | exact pl_bad
  · exact key
theorem hV_ok (hN : X.N = T.N) {x : Str} {q : Pos} : PE X (.Name x q) (tE X F U (hV T X.env.scope x)) := by
  unfold hV
  split
  · rename_i h
    rw [Bool.and_eq_true] at h
    split
    · rename_i i h3
      exact pe_nameE (pe_var (by rw [hN]; exact slot_of h3) (vis_of h.1) (okName_of h.2).1 (okName_of h.2).2.1)
    · exact pe_bad
  · exact pe_bad
theorem tgAll_len : ∀ {ts : List (Pf.W → M Unit)} {ws : List Pf.W} {ρ ρ' : Env} {o : Unit}, tgAll ts ws ρ = .ok o ρ' → ws.length = ts.length
  | [], [], _, _, _, _ => rfl
  | [], _ :: _, _, _, _, e => by cases e
  | _ :: _, [], _, _, _, e => by cases e
  | t :: ts, w :: ws, ρ, ρ', o, e => by
    unfold tgAll M.bind at e
    split at e
    · exact congrArg (· + 1) (tgAll_len e)
    · cases e
    · cases e
theorem run_pair {n : Nat} {ts : List (Pf.W → M Unit)} {is : List Nat} {v : V} {Q : L2.St → Hp → Prop} (hl : n = ts.length) (h : gT X F is (tgPair ts) v σ H Q) : gTup X.K n (gTs X F is (tgAll ts)) v σ H Q := by
  obtain ⟨G, ρ, w, r, q, k⟩ := h
  cases w with
  | tup ws => cases id q with
    | tup h1 h2 =>
      refine ⟨_, _, rfl, SqT.of (r.sub _ _ h1), ?_, G, ρ, ws, r, h2, k⟩
      have k' : (match tgAll ts ws ρ with
        | .ok _ ρ' => ∀ σ', Rel X.K X.mg F G H σ' ρ' → wipe σ' is = wipe σ is → Q σ' H
        | _ => False) := k
      rw [h2.length, hl]
      split at k'
      · rename_i e
        exact tgAll_len e
      · exact k'.elim
  | _ => exact k.elim
theorem kit_name {x : Str} {b : Bool} {q : Pos} (h : KitC X.K X.mg D x b) (hg : Gl X x) (ho : okName x = true) : ∃ (c : V) (cv : Value), PE X (.Name x q) (tC c) ∧ (∀ u, RelV c u → u = cv) ∧ PySem.W.kitOne X.K (.ref D) cv = some b := by
  rcases h with ⟨c, h1, h2⟩ | ⟨h1, h2, h3⟩
  · exact ⟨.ref c, .ref c, pe_glob (v := .ref c) hg h1 rfl (okName_of ho).1, fun _ e => e, h2⟩
  · exact ⟨.ty "ValueError", .type "ValueError", pe_bltn (v := .ty "ValueError") hg h1 h2 rfl (okName_of ho).2.2 (okName_of ho).1, fun _ e => e, h3⟩
theorem hE_ok (c : HC T X p D cT) (hF : Fits T.np T.lk F) (hf : HF F p) : ∀ n e, PE X e (tE X F U (hE T X.env.scope cT n e))
  | 0, e => pe_bad
  | n + 1, e => by
    have hN : X.N.Nodup := by rw [c.N]; exact c.nd
    unfold hE
    split
    · exact pe_cst pe_str fun _ => .str _
    · exact pe_binE (hP_ok c.N (.inl rfl)) (pe_plE (hE_ok c hF hf n _))
    · split
      · rename_i h
        exact pe_lstE (pa_evS h (pairedMap _ fun e _ => pe_dat (hE_ok c hF hf n e)))
      · exact pe_bad
    · rename_i f pf x px y py pos
      split
      · rename_i h
        simp only [Bool.and_eq_true, decide_eq_true_eq] at h
        obtain ⟨⟨⟨⟨⟨⟨rfl, h2⟩, h3⟩, h4⟩, h5⟩, h6⟩, h7⟩ := h
        split
        · rename_i b hb
          obtain ⟨cc, cv, k1, k2, k3⟩ := kit_name (q := py) (c.cls _ _ hb) (gl_of h6) h7
          refine (pe_callB (id := "isinstance") (isE_ok c.ec c.z c.fl c.pn) (gl_of h2) c.iss (by decide +kernel)
            (pa_cons (pe_var (by rw [c.N]; exact slot_of h5) (vis_of h3) (okName_of h4).1 (okName_of h4).2.1) (pa_cons k1 pa_nil))).imp fun σ H Q ⟨G, ρ, r, q⟩ => ?_
          exact ⟨.ref p.1, (r.par 0 (.inl hf.1)).trans hf.2, cc, cv, b, rfl, k2, k3, q (.bl b) G H (.refl _) r (.bl b)⟩
        · exact pe_bad
      · exact pe_bad
    · split
      · rename_i h
        simp only [Bool.and_eq_true] at h
        exact pe_methE h.1.1 (pe_plE (pe_cst pe_str fun _ => .str _)) rfl (pa_plS (by simp [h.1.2]) (.cons (pe_plE (hE_ok c hF hf n _)) .nil)) h.1.2 h.2
      · exact pe_bad
    · rename_i y py ts k tp z pz a b ps u pu scope pos
      split
      · rename_i h
        simp only [Bool.and_eq_true, decide_eq_true_eq] at h
        obtain ⟨⟨⟨⟨⟨⟨rfl, h2⟩, h3⟩, h4⟩, h5⟩, h6⟩, h7⟩ := h
        have hi : ∀ i ∈ (ownOf T (.Tuple ts k tp)).map (·.2), T.np ≤ i ∧ i ∉ T.lk := fun i hm => by
          obtain ⟨q, hq, rfl⟩ := List.mem_map.mp hm
          have := List.all_eq_true.mp h4 q hq
          rwa [Bool.and_eq_true, decide_eq_true_eq, decide_eq_true_eq] at this
        have bo : BlkOk X.N X.env.scope scope (ownOf T (.Tuple ts k tp)) := by rw [c.N]; exact blkOk_by h3
        have ha : PA X [a, b] (tPs X F U (plS [hP T X.env.scope a, hP T X.env.scope b])) := pa_plS (by simp [h6, h7]) (.cons (hP_ok c.N (.inl rfl)) (.cons (hP_ok c.N (.inl rfl)) .nil))
        refine (lcHot (te := fun σ H Q => ∃ F, Fits T.np T.lk F ∧ tD X F U0 (dat (hV T (relS scope X.env.scope) y)) σ H Q)
          (tt := fun σ H Q => ∃ F, Fits T.np T.lk F ∧ tB X F U0 (truE (hP T (relS scope X.env.scope) (.Name u ⟨0, 0, 0, 0⟩))) σ H Q)
          (g := fun v σ H Q => ∃ F, Fits T.np T.lk F ∧ gT X F ((ownOf T (.Tuple ts k tp)).map (·.2)) (tgPair (ts.map (tgOne T scope))) v σ H Q)
          (wi := fun σ H R => tI X F U (itZip (plS [hP T X.env.scope a, hP T X.env.scope b])) σ H R) c.hot c.pn hN
          ⟨fun pins s σ H R I q => (pipZip (gl_of h2) c.zip ha (star_of h6) (plainAll X.env ps [b] (by simp [h7])).1).run pins s σ H R I (run_zip q)⟩ bo
          (fun s H C cl fp hot => PG.ex fun F' hF' => ?_) (fun s H C cl fp => PTs.ex fun F' hF' => ?_) (fun s H C cl fp => PE.ex fun F' hF' => ?_) (fun _ => rfl)).imp fun σ H Q q => run_lc hF hi q
        · obtain ⟨n1, n2⟩ := names_assign (X.blk s H scope (compEnvC scope cl C X.env) fp).env ts h5
          refine (pgTupHot hot (pgs_all (F := F') (ts := ts.map (tgOne T scope)) (is := (ownOf T (.Tuple ts k tp)).map (·.2)) (pairedMap ts fun e he => ⟨tgOne_ok (T := T) c.N c.nd hF' (fun x hx => blk_loc x hx) fun x hx i hi => own_mem ?_ hi, fun es' => ?_⟩)) n1 n2).imp fun v σ H Q q => run_pair (X := X) (ts := ts.map (tgOne T scope)) (is := (ownOf T (.Tuple ts k tp)).map (·.2)) (by rw [List.length_map]) q
          · have hn := List.all_eq_true.mp h5 e he
            cases e <;> first | (exfalso; cases hn; done) | skip
            exact List.mem_flatMap.mpr ⟨_, he, hx⟩
          · have hn := List.all_eq_true.mp h5 e he
            cases e <;> first | (exfalso; cases hn; done) | rfl
        · exact pts_one (pt_truE (hP_ok (X := X.blk s H scope (compEnvC scope cl C X.env) fp) c.N (.inr ⟨u, pu, _, rfl, rfl⟩)) rfl)
        · exact pe_dat (hV_ok (X := X.blk s H scope (compEnvC scope cl C X.env) fp) c.N)
      · exact pe_bad
    · exact pe_bad
end
end Pf

-- PfKind2
/-! Pf: such a def as a whole, its call. -/
namespace Pf
open PySem PySem.Spec PyProof.Rows L2 HotX
open L2H (Hot1 RoomH PinOk)
noncomputable def hS (T : Tx) (sc : Scope) (cT : Str → Option Bool) : Stmt → M Fl
  | .Assign [.Name x _] e _ => if locIn sc x && noComp e then (match slotOf T.N x with
    | some i => actS (setS T.np T.lk i (hE T sc cT 8 e))
    | none => M.bad) else M.bad
  | .Expr (.Call (.Attribute (.Name x _) m apos) [a] [] pos) _ => if decide (m = ("append" : Str)) && seen sc x && okName x && plainX a && (apos.endLine == pos.line) then (match slotOf T.N x with
    | some i => dropS (appE i (dat (hE T sc cT 8 a)))
    | none => M.bad) else M.bad
  | .Return (some e) _ => retS (hE T sc cT 8 e)
  | _ => M.bad
noncomputable def hotRun (N : List Str) (sc : Scope) (cT : Str → Option Bool) (body : List Stmt) : Option Pf.W :=
  match blkS (body.map (hS ⟨[], N, 1, [], fun _ _ => .bad, ""⟩ sc cT)) (List.replicate N.length .e) with
  | .ok (.rt (.d w)) _ => some w
  | _ => none
section
variable {X : Cx} {F : Fr0} {U : WX} {G H G' H' : Hp} {σ σ' : L2.St} {ρ ρ' : Env} {T : Tx} {p : Addr × Obj} {D : Addr} {cT : Str → Option Bool}
theorem hS_ok (c : HC T X p D cT) (hfn : ∀ x, X.fn x = true) (hF : Fits T.np T.lk F) (hf : HF F p) (st : Stmt) : PS X st (tS X F U (hS T X.env.scope cT st)) := by
  have hN : X.N.Nodup := by rw [c.N]; exact c.nd
  unfold hS
  split
  · rename_i x px e pos
    split
    · rename_i h
      rw [Bool.and_eq_true] at h
      split
      · rename_i i h2
        refine ps_setS hF hN (by rw [c.N]; exact slot_of h2) (loc_of h.1) (.inl (hfn x)) (hE_ok c hF hf 8 e) ?_
        cases e <;> first | rfl | (exfalso; cases h.2)
      · exact ps_bad
    · exact ps_bad
  · rename_i x px m apos a pos pos2
    split
    · rename_i h
      simp only [Bool.and_eq_true, decide_eq_true_eq] at h
      obtain ⟨⟨⟨⟨rfl, h2⟩, h3⟩, h4⟩, h5⟩ := h
      split
      · rename_i i h6
        exact ps_dropS (pe_appE (pe_var (by rw [c.N]; exact slot_of h6) (vis_of h2) (okName_of h3).1 (okName_of h3).2.1) (pe_dat (hE_ok c hF hf 8 a)) h4 h5) rfl
      · exact ps_bad
    · exact ps_bad
  · exact ps_retS (hE_ok c hF hf 8 _)
  · exact ps_bad
end
variable {P : Program} {w : World} {K : PySem.W.Frag} {mg : Str → Option Value} {base : Heap} {G H G' H' : Hp}
/-- no slots -/
theorem Rel.bare {A0 : Addr → Prop} {vs : List V} {σ : L2.St} {ρ : Env} (r : Rel K mg (fr0 G H A0 vs) G' H' σ ρ) : Rel K mg (fr0 G H A0 []) G' H' [] [] :=
  ⟨r.sub, rfl, fun i w e => by simp at e, fun i w e => by simp at e, fun i j w w' a e => by simp at e, r.frame, fun i h => rfl, r.new⟩
theorem Rel.bare0 (s : Sub G H) (v : V) : Rel K mg (fr0 G H (fun _ => False) [v]) G H ([v].map some) [.e] :=
  ⟨s, rfl, fun i w e => by
    match i, e with
    | 0, e => cases e
    | i + 1, e => simp at e, fun i w e => by
    match i, e with
    | 0, e => cases e
    | i + 1, e => simp at e, fun i j w w' a e => by
    match i, e with
    | 0, e => cases e
    | i + 1, e => simp at e, fun a o h _ => h, fun i _ => rfl, fun a o h => .inl h⟩
theorem kind_ok {nm x : Str} {d : DRow} {f : Addr} {fd : FuncData} {D : Addr} {cT : Str → Option Bool} {out : Pf.W} (Fd : Fun K nm nm d.st f fd) (S : FnScope d.N d.ps (defScope d.st)) (hps : d.ps = [x]) (C : ExcC K D) (hi : mg "isinstance" = none) (hz : mg "zip" = none)
    (cls : ∀ x b, cT x = some b → KitC K mg D x b) (hr : hotRun d.N (defScope d.st) cT (defBody d.st) = some out) :
    KindOk P w K mg base f x D out := by
  intro A outer s H G args Q E p rm hot hpin e0 hb hzc hfl hsub hQ
  obtain ⟨oc, od, kV, doc, pm, an, cdv, ct, osl, rfl, lk, hcd⟩ := Fd.ex
  have KX : K.In s.heap := e0.mod.kin.keeps fun b o e => (e0.bs b o e).1
  have lim : s.heap.NoLimit := e0.mod.nolimit.keeps fun b o e => (e0.bs b o e).1
  have hl : [V.ref p.1].length = d.ps.length := by rw [hps]; rfl
  have kinds : ∀ y ∈ d.ps.zip [Value.ref p.1], (defScope d.st).names.lookup y.1 = some .local ∨ ((defScope d.st).names.lookup y.1 = some .cell ∧ ((cellsFrom (s.heap.objs.size + 1) (defScope d.st).names []).lookup y.1).isSome = true) := fun ⟨n, v⟩ hy =>
    (S.par n (List.of_mem_zip hy).1).imp id fun q => ⟨q, PySem.W.cellsFrom_some _ _ _ (.inl q)⟩
  refine codeAny_call_function rm (KX _ _ lk) rfl S.co S.gen rfl (PySem.W.codeRec_of KX hcd) (hb _ _ lk rfl _ _ _ _ ?_)
  rw [show [(x, Value.ref p.1)] = d.ps.zip [Value.ref p.1] by rw [hps]; rfl]
  refine wpAny_newFunctionEnv_cells S.kind kinds fun env he t st => ?_
  subst he
  refine ⟨lim.keeps st.toInCall.keep, codeAny_func ?_⟩
  have I := L2H.inv_startH (CX := L2N.CX P w) (E := E) (vs := [V.ref p.1]) S hpin e0 hl (.cons rfl .nil) st
  generalize hX : L2H.cxH (L2N.CX P w) P w K mg base d.N nm (defScope d.st) f cdv A outer s H E p = X at I
  have ke : X.K = K := by rw [← hX]; rfl
  have hc : HC ⟨[], d.N, 1, [], fun _ _ => .bad, ""⟩ X p D cT := by
    subst hX
    exact ⟨rfl, S.nd, hot, List.mem_cons_self, hzc, hfl, C, hi, hz, cls⟩
  have hsc : X.env.scope = defScope d.st := by subst hX; rfl
  have body : PSs X (defBody d.st) (tS X (fr0 G H (fun _ => False) [V.ref p.1]) (fun _ _ _ _ => False) (blkS ((defBody d.st).map (hS ⟨[], d.N, 1, [], fun _ _ => .bad, ""⟩ (defScope d.st) cT)))) := by
    refine pss_of fun st => ?_
    rw [← hsc]
    exact hS_ok hc (fun _ => by subst hX; rfl) ⟨Nat.le_refl _, fun j hj => by cases hj⟩ ⟨Nat.zero_lt_one, rfl⟩ st
  subst hX
  refine wpAny_mono (body.run [] t (L2.start d.N [V.ref p.1]) H { nx := fun _ H' => Q .non H', rt := Q } I ⟨G, _, Rel.start (N := d.N) (Rel.bare0 hsub _), ?_⟩) (fun fl t' hs => ?_) fun e t' hs => hs
  · have e1 : [Sl.e] ++ List.replicate (d.N.length - [V.ref p.1].length) Sl.e = List.replicate d.N.length Sl.e := by
      have : 1 ≤ d.N.length := by
        have := congrArg List.length S.pre
        rw [List.length_take, hps] at this
        simp at this
        omega
      rw [show d.N.length = (d.N.length - 1) + 1 by omega, List.replicate_succ]
      rfl
    rw [e1]
    unfold hotRun at hr
    split at hr
    · rename_i w' ρ' e2
      cases hr
      rw [e2]
      exact fun v σ' G' H' s' r' q => hQ v G' H' s' r'.bare q
    · cases hr
  · have fin : ∀ {σ' : L2.St} {H' : Hp} {v : V} {u : Value}, Inv (L2H.cxH (L2N.CX P w) P w K mg base d.N nm (defScope d.st) f cdv A outer s H E p) [] σ' H' t' → RelV v u → Q v H' → CE outer P w H s Q u t' := fun {σ' H' v u} J rv q => ⟨v, H', J.os, J.bare, J.base, J.hok, rv, q⟩
    cases fl with
    | ret u =>
      obtain ⟨v, σ', H', J, rv, q⟩ := hs
      exact fin J rv q
    | next =>
      obtain ⟨σ', H', J, q⟩ := hs
      exact fin (v := V.non) (u := Value.none) J rfl q
    | brk =>
      obtain ⟨_, _, _, q⟩ := hs
      exact q.elim
    | cont =>
      obtain ⟨_, _, _, q⟩ := hs
      exact q.elim
end Pf

-- PfEnd
/-! Pf: the head, the table of the law's module, the law. -/
namespace Pf
open PySem PySem.Spec PyProof.Rows L2
/-- the law from what its def computes of every script -/
theorem walk_pf {l : PySem.W.OpenLaw} {n k : Nat} {q : Program} {loose : List Str} {XP : (Str → Option Value) → Heap → Prop} {YP : World → Heap → Prop} {d : DefRec} {x : Str} {φ : List Sl → CRes}
    (hn : l.most = some n) (hn2 : n ≤ sizeLine) (hdf : d.params.defaults = []) (hr : Room k callerA)
    (hφ : ∀ ns : List Int, ns.length ≤ n → (∀ z ∈ ns, Builtin.Int.intBits z ≤ 1048576) → ∃ outs, φ [.d (.scr ns)] = .ret (.d (.bl true)) outs)
    (F : ∀ (w : World) (mg : Str → Option Value) (fa : Addr) (h : Heap), YP w h → h.Ns mainGlobals mg → mg d.name = some (.ref fa) →
      ∃ (K : PySem.W.Frag) (fd : FuncData), K.In h ∧ (∀ (s : Shared) (u : Value), BindsTo s fd ⟨[u], []⟩ [(x, u)]) ∧
        ∀ base : Heap, K.In base → base.Ns mainGlobals mg → FnOk l.prog w K mg base (L2N.CX l.prog w) k fa fd [x] (spOf K mg 1 φ)) :
    PySem.W.WalkO q loose XP YP l.row.toRowW d [] (fun f vs => PySem.call f vs) := by
  refine Att.attach_callB hn hdf fun w s₀ s₁ mg mb fa o pm cd doc a vs ns G Y ho hd hcd hmg hobj hints hlen hbits hg => ?_
  obtain ⟨K, fd, KX, hb, hF⟩ := F w mg fa _ Y G.T.g hmg
  refine law_call KX G.T.g G.T.b G.T.builtins G.T.nolimit hg hobj hints (Nat.le_trans hlen hn2) hr hF hb (fun H hO hS => ?_) fun H e s' h => ?_
  · refine ⟨rfl, fun b => if b = a then H a else none, [.d (.scr ns)], fun _ => False, ?_, ?_⟩
    · have sq : SqL K (fun b => if b = a then H a else none) a (ns.map V.int) := by
        rcases hS with h | h
        · refine .inl ?_
          rcases h with h | ⟨o, h⟩
          · exact .inl (by show (if a = a then H a else none) = _; rw [if_pos rfl]; exact h)
          · exact .inr ⟨o, by show (if a = a then H a else none) = _; rw [if_pos rfl]; exact h⟩
        · exact .inr h
      refine ⟨fun b o e => ?_, rfl, fun i w e => ?_, fun i w e => ?_, fun i j w w' c e => ?_, fun b o e _ => e, fun i _ => rfl, fun b o e => .inl e⟩
      · have e' : (if b = a then H a else none) = some o := e
        split at e'
        · rename_i z; rw [z]; exact e'
        · cases e'
      · match i, e with
        | 0, e => cases e; exact ⟨_, rfl, .scr sq⟩
        | i + 1, e => simp at e
      · match i, e with
        | 0, e => cases e
        | i + 1, e => simp at e
      · match i, e with
        | 0, e => cases e
        | i + 1, e => simp at e
    · obtain ⟨outs, e⟩ := hφ ns hlen hbits
      rw [e]
      intro v G' H' _ _ r
      cases r
      rfl
  · obtain ⟨_, _, _, _, _, _, _, _, _, _, _, _, z⟩ := h
    exact z

/-! ### the table -/
abbrev bltNames : List Str := freeL
def ddOf (p : Str × DRow) : He.DefD := ⟨(p.1, none), p.1, p.1, defArgs p.2.st, defBody p.2.st, defScope p.2.st, [], []⟩
inductive Cn where
  | int (i : Int) | str (s : Str)
def Cn.w : Cn → Pf.W
  | .int i => .int i
  | .str s => .str s
def Cn.fa (x : Str) : Cn → He.Fa
  | .int i => .int x i
  | .str s => .str x s
/-- a module: its defs, its classes, its constants, the names that stay free; keys: defs that give a tuple's first item; kds: defs that tell the kind of an exception of the classes cs; hnds: classes in except clauses, and what they catch -/
structure Mo where
  defs : List (Str × DRow)
  cls : List Str
  cons : List (Str × Cn)
  free : List Str
  keys : List Str := []
  kds : List (Str × DRow) := []
  cs : List Str := []
  hnds : List (Str × List Str) := []
def Mo.fn (m : Mo) : List He.DefD := (m.defs ++ m.kds).map ddOf
def Mo.fa (m : Mo) : List He.Fa :=
  (m.defs ++ m.kds).map (fun p => He.Fa.glo p.1) ++ (m.cls.map He.Fa.glo ++ (m.cls.map He.Fa.exc ++ (m.cons.map (fun p => p.2.fa p.1) ++ (m.free.map He.Fa.free ++ m.hnds.flatMap fun p => p.2.map fun c => He.Fa.exm c p.1 true))))
def Mo.G (m : Mo) : List (Str × GK) :=
  m.defs.map (fun p => (p.1, .fn p.2.ps.length)) ++ (m.cls.map (fun c => (c, .cls)) ++ (m.cons.map (fun p => (p.1, .con p.2.w)) ++ (m.kds.map (fun p => (p.1, .knd m.cs)) ++ (m.hnds.map (fun p => (hmk p.1, .hnd p.1 p.2)) ++ m.keys.map fun y => (kmk y, .key y)))))
/-- what isinstance asks of the class D -/
def excB (K : PySem.W.Frag) (D : Addr) : Bool :=
  decide (PySem.W.findIn K (.ref D) "__getattribute__" = some (some (.builtin "BaseException.__getattribute__"))) && (decide (PySem.W.findIn K (.ref D) "__getattr__" = some none) && (decide (PySem.W.subIn K (.ref D) (.type "BaseException") = some true) && (PySem.W.hasDictIn K D &&
    (decide (PySem.W.findIn K (.ref D) "__class__" = some (some (.builtin "object.__class__"))) && (decide (PySem.W.specialIn K (.builtin "object.__class__") "__get__" = some (some (.builtin "getset_descriptor.__get__"))) && (decide (PySem.W.takesIn K (.builtin "object.__class__") = some true) && decide (PySem.W.mroIn K D (.type "object") = some true)))))))
theorem excB_ok {K : PySem.W.Frag} {D : Addr} (h : excB K D = true) : ExcC K D := by
  simp only [excB, Bool.and_eq_true, decide_eq_true_eq] at h
  obtain ⟨h1, h2, h3, h4, h5, h6, h7, h8⟩ := h
  exact ⟨h1, h2, h3, h4, h5, h6, h7, h8⟩
/-- each class of cs is its own, and ValueError's -/
def kitB (K : PySem.W.Frag) (cs : List Str) : Bool :=
  cs.all fun C => excB K (He.ga K C) && (cs.all (fun x => decide (PySem.W.kitOne K (.ref (He.ga K C)) (.ref (He.ga K x)) = some (decide (C = x)))) && decide (PySem.W.kitOne K (.ref (He.ga K C)) (.type "ValueError") = some true))
def Mo.ex (m : Mo) (K : PySem.W.Frag) : Bool := kitB K m.cs
def kT (cs : List Str) (C : Str) : Str → Option Bool := fun x => if x ∈ cs then some (decide (C = x)) else if x = ("ValueError" : Str) then some true else none
/-- a def's parameters take their values in order -/
def BindsOk (p : Str × DRow) : Prop := ∀ (kV doc pm : Value) (an : Option Addr) (cdv ct : Value) (us : List Value), us.length = p.2.ps.length → bindArgs (PySem.W.fnOf p.1 p.1 (defArgs p.2.st) (defBody p.2.st) (defScope p.2.st) .none kV doc pm an cdv ct) ⟨us, []⟩ = pure (p.2.ps.zip us)
def RowOk (p : Str × DRow) : Prop := FnScope p.2.N p.2.ps (defScope p.2.st) ∧ BindsOk p
theorem lookup_map {A B C : Type} [BEq A] [LawfulBEq A] {f : B → C} : ∀ {l : List (A × B)} {x : A} {c : C}, (l.map fun p => (p.1, f p.2)).lookup x = some c → ∃ b, l.lookup x = some b ∧ f b = c
  | [], _, _, h => by simp at h
  | (a, b) :: l, x, c, h => by
    rw [List.map_cons, List.lookup_cons] at h
    rw [List.lookup_cons]
    split at h
    · rename_i e
      rw [e]
      exact ⟨b, rfl, Option.some.inj h⟩
    · rename_i e
      rw [e]
      exact lookup_map h
/-- what a module's looks must say -/
structure MoOk (m : Mo) (K : PySem.W.Frag) : Prop where
  says : He.SaysD m.fa m.fn K
  ex : m.ex K = true
  rows : ∀ p ∈ m.defs ++ m.kds, RowOk p
  frees : bltNames.all (fun x => decide (x ∈ m.free) || (m.G.lookup x).isSome) = true
  first : ∀ y ∈ m.keys, ∃ d, (y, d) ∈ m.defs ∧ isFirstD d.st d.ps = true
  knds : m.kds = [] ∨ (("ValueError" : Str) ∈ m.free ∧ ("isinstance" : Str) ∈ m.free ∧ ("zip" : Str) ∈ m.free ∧ ∀ C ∈ m.cs, C ∈ m.cls)
  hcls : ∀ p ∈ m.hnds, p.1 ∈ m.cls ∧ ∀ C ∈ p.2, C ∈ m.cls
  kd : ∀ p ∈ m.kds, (∃ x, p.2.ps = [x]) ∧ ∀ C ∈ m.cs, hotRun p.2.N (defScope p.2.st) (kT m.cs C) (defBody p.2.st) = some (.str (C ++ "+"))
section
variable {m : Mo} {K : PySem.W.Frag} {h : Heap} {mg : Str → Option Value}
theorem MoOk.fact (c : MoOk m K) {f : He.Fa} (hf : f ∈ m.fa) : f.ok K = true := c.says.facts hf
theorem MoOk.glo (c : MoOk m K) (X : K.In h) (N : h.Ns mainGlobals mg) {x : Str} (hx : (∃ d, (x, d) ∈ m.defs ++ m.kds) ∨ x ∈ m.cls) : mg x = some (.ref (He.ga K x)) := by
  refine He.glo_ok X N (c.fact ?_)
  rcases hx with ⟨d, hd⟩ | hx
  · exact List.mem_append_left _ (List.mem_map.mpr ⟨_, hd, rfl⟩)
  · exact List.mem_append_right _ (List.mem_append_left _ (List.mem_map.mpr ⟨x, hx, rfl⟩))
theorem MoOk.fre (c : MoOk m K) (X : K.In h) (N : h.Ns mainGlobals mg) {x : Str} (hx : x ∈ m.free) : mg x = none :=
  He.free_ok X N (c.fact (List.mem_append_right _ (List.mem_append_right _ (List.mem_append_right _ (List.mem_append_right _ (List.mem_append_left _ (List.mem_map.mpr ⟨x, hx, rfl⟩)))))))
theorem MoOk.fun_ (c : MoOk m K) {x : Str} {d : DRow} (hm : (x, d) ∈ m.defs ++ m.kds) : ∃ fd, Fun K x x d.st (He.ga K x) fd ∧ FunD K x x (defArgs d.st) (defBody d.st) (defScope d.st) [] [] (He.ga K x) fd := by
  obtain ⟨fd, FD⟩ := c.says.defs (d := ddOf (x, d)) (List.mem_map.mpr ⟨_, hm, rfl⟩)
  refine ⟨fd, ?_, FD⟩
  obtain ⟨oc, od, dV, kV, doc, pm, an, cdv, ct, osl, e, l, c, hd, _⟩ := FD.ex
  rcases hd with ⟨_, e2⟩ | ⟨e2, _⟩
  · subst e2
    exact ⟨⟨oc, od, kV, doc, pm, an, cdv, ct, osl, e, l, c⟩, FD.kp⟩
  · exact absurd rfl e2
theorem MoOk.split {x : Str} {g : GK} (e : m.G.lookup x = some g) : (∃ d, m.defs.lookup x = some d ∧ g = .fn d.ps.length) ∨ (x ∈ m.cls ∧ g = .cls) ∨ (∃ z, (x, z) ∈ m.cons ∧ g = .con z.w) ∨ ((∃ d, (x, d) ∈ m.kds) ∧ g = .knd m.cs) ∨ (∃ p ∈ m.hnds, g = .hnd p.1 p.2) ∨ ∃ y ∈ m.keys, g = .key y := by
  unfold Mo.G at e
  rw [List.lookup_append] at e
  cases e1 : (m.defs.map (fun p => (p.1, GK.fn p.2.ps.length))).lookup x with
  | some g1 =>
    rw [e1] at e
    obtain ⟨d, h1, h2⟩ := lookup_map (f := fun d : DRow => GK.fn d.ps.length) e1
    cases e
    exact .inl ⟨d, h1, h2.symm⟩
  | none =>
    rw [e1, Option.none_or] at e
    right
    rcases List.mem_append.mp (mem_of_lookup e) with h | h
    · obtain ⟨a, ha, z⟩ := List.mem_map.mp h
      cases z
      exact .inl ⟨ha, rfl⟩
    · rcases List.mem_append.mp h with h | h
      · obtain ⟨a, ha, z⟩ := List.mem_map.mp h
        cases z
        exact .inr (.inl ⟨a.2, ha, rfl⟩)
      · rcases List.mem_append.mp h with h | h
        · obtain ⟨a, ha, z⟩ := List.mem_map.mp h
          cases z
          exact .inr (.inr (.inl ⟨⟨a.2, ha⟩, rfl⟩))
        · rcases List.mem_append.mp h with h | h
          · obtain ⟨a, ha, z⟩ := List.mem_map.mp h
            cases z
            exact .inr (.inr (.inr (.inl ⟨a, ha, rfl⟩)))
          · obtain ⟨a, ha, z⟩ := List.mem_map.mp h
            cases z
            exact .inr (.inr (.inr (.inr ⟨a, ha, rfl⟩)))
theorem tab_of (X : K.In h) (N : h.Ns mainGlobals mg) (c : MoOk m K) : Tab K mg m.G m.defs := by
  refine ⟨fun x n e => ?_, fun x e => ?_, fun x z e => ?_, fun x e hx => ?_, fun x cs e => ?_, fun x y cs e => ?_, fun x y e => ?_⟩
  · rcases MoOk.split e with ⟨d, h1, h2⟩ | ⟨_, h2⟩ | ⟨_, _, h2⟩ | ⟨_, h2⟩ | ⟨_, _, h2⟩ | ⟨_, _, h2⟩ <;> cases h2
    have hm : (x, d) ∈ m.defs ++ m.kds := List.mem_append_left _ (mem_of_lookup h1)
    obtain ⟨fd, FU, _⟩ := c.fun_ hm
    obtain ⟨ok1, ok2⟩ := c.rows _ hm
    exact ⟨d, _, fd, h1, c.glo X N (.inl ⟨d, hm⟩), FU.kp, FU.binds ok2, rfl, FU, ok1⟩
  · rcases MoOk.split e with ⟨d, h1, h2⟩ | ⟨hm, _⟩ | ⟨_, _, h2⟩ | ⟨_, h2⟩ | ⟨_, _, h2⟩ | ⟨_, _, h2⟩
    · cases h2
    · obtain ⟨h1, h2, h3, h4⟩ := He.exc_ok (c.fact (f := .exc x) (List.mem_append_right _ (List.mem_append_right _ (List.mem_append_left _ (List.mem_map.mpr ⟨x, hm, rfl⟩)))))
      exact ⟨He.ga K x, c.glo X N (.inr hm), h3, h4, h2, h1⟩
    all_goals cases h2
  · rcases MoOk.split e with ⟨d, h1, h2⟩ | ⟨_, h2⟩ | ⟨y, hm, h2⟩ | ⟨_, h2⟩ | ⟨_, _, h2⟩ | ⟨_, _, h2⟩ <;> cases h2
    have hfa := c.fact (f := y.fa x) (List.mem_append_right _ (List.mem_append_right _ (List.mem_append_right _ (List.mem_append_left _ (List.mem_map.mpr ⟨(x, y), hm, rfl⟩)))))
    cases y with
    | int i =>
      obtain ⟨t, ht⟩ := He.int_ok X N hfa
      exact ⟨_, .int i, ht, ⟨t, rfl⟩, fun _ => .int i⟩
    | str s =>
      obtain ⟨t, ht⟩ := He.str_ok X N hfa
      exact ⟨_, .str s, ht, ⟨t, rfl⟩, fun _ => .str s⟩
  · have := List.all_eq_true.mp c.frees x (show x ∈ bltNames from hx)
    rw [Bool.or_eq_true, decide_eq_true_eq] at this
    rcases this with h1 | h1
    · exact c.fre X N h1
    · rw [e] at h1
      cases h1
  · rcases MoOk.split e with ⟨d, h1, h2⟩ | ⟨_, h2⟩ | ⟨y, hm, h2⟩ | ⟨⟨d, hd⟩, h2⟩ | ⟨_, _, h2⟩ | ⟨_, _, h2⟩ <;> cases h2
    have hm : (x, d) ∈ m.defs ++ m.kds := List.mem_append_right _ hd
    obtain ⟨fd, FU, _⟩ := c.fun_ hm
    obtain ⟨ok1, ok2⟩ := c.rows _ hm
    obtain ⟨⟨y, hy⟩, hr⟩ := c.kd _ hd
    rcases c.knds with hk | ⟨hv, hi, hz, hcl⟩
    · rw [hk] at hd
      cases hd
    have hb := FU.binds ok2
    have hy' : d.ps = [y] := hy
    rw [hy'] at hb
    refine ⟨_, y, c.glo X N (.inl ⟨d, hm⟩), FU.kp, fun fd' o h1 h2 => ?_, fun C hC => ⟨_, c.glo X N (.inr (hcl C hC)), fun P w base => ?_⟩⟩
    · obtain ⟨oc, od, kV, doc, pm, an, cdv, ct, osl, e1, l1, _⟩ := FU.ex
      rw [l1] at h1
      cases h1
      cases h2
      exact hb
    · have hx := List.all_eq_true.mp (show kitB K m.cs = true from c.ex) C hC
      simp only [Bool.and_eq_true, decide_eq_true_eq] at hx
      obtain ⟨x1, x2, x3⟩ := hx
      refine kind_ok FU ok1 hy (excB_ok x1) (c.fre X N hi) (c.fre X N hz) (fun z b hb => ?_) (hr C hC)
      unfold kT at hb
      split at hb
      · rename_i hz'
        cases hb
        exact .inl ⟨_, c.glo X N (.inr (hcl z hz')), of_decide_eq_true (List.all_eq_true.mp x2 z hz')⟩
      · split at hb
        · rename_i hz'
          subst hz'
          cases hb
          exact .inr ⟨c.fre X N hv, by decide +kernel, x3⟩
        · cases hb
  · rcases MoOk.split e with ⟨d, h1, h2⟩ | ⟨_, h2⟩ | ⟨_, _, h2⟩ | ⟨_, h2⟩ | ⟨p, hp, h2⟩ | ⟨_, _, h2⟩ <;> cases h2
    obtain ⟨k1, k2⟩ := c.hcls p hp
    refine ⟨_, c.glo X N (.inr k1), fun C hC a ha => ?_⟩
    rw [c.glo X N (.inr (k2 C hC))] at ha
    cases ha
    exact He.exm_ok (c.fact (f := .exm C p.1 true) (List.mem_append_right _ (List.mem_append_right _ (List.mem_append_right _ (List.mem_append_right _ (List.mem_append_right _ (List.mem_flatMap.mpr ⟨p, hp, List.mem_map.mpr ⟨C, hC, rfl⟩⟩)))))))
  · rcases MoOk.split e with ⟨d, h1, h2⟩ | ⟨_, h2⟩ | ⟨_, _, h2⟩ | ⟨_, h2⟩ | ⟨_, _, h2⟩ | ⟨y', hy, h2⟩ <;> cases h2
    obtain ⟨d, hd, hf⟩ := c.first y hy
    have hm : (y, d) ∈ m.defs ++ m.kds := List.mem_append_left _ hd
    obtain ⟨fd, FU, FD⟩ := c.fun_ hm
    obtain ⟨ok1, ok2⟩ := c.rows _ hm
    exact ⟨_, c.glo X N (.inl ⟨d, hm⟩), fun P w => keyFn_of FU ok1 (fun s us hu => FunD.bindsA FD ok2 s us hu) hf⟩
/-- the law's def -/
theorem law_fn {x : Str} {d : DRow} {f : Addr} (X : K.In h) (N : h.Ns mainGlobals mg) (c : MoOk m K) (hl : m.defs.lookup x = some d) (hfa : mg x = some (.ref f)) :
    ∃ fd : FuncData, (∀ (s : Shared) (us : List Value), us.length = d.ps.length → BindsTo s fd ⟨us, []⟩ (d.ps.zip us)) ∧
      ∀ (P : Program) (w : World) (base : Heap) (k : Nat), FnOk P w K mg base (L2N.CX P w) (k + 1) f fd d.ps (spOf K mg d.ps.length (callN m.G m.defs (k + 1) x)) := by
  have hm : (x, d) ∈ m.defs ++ m.kds := List.mem_append_left _ (mem_of_lookup hl)
  obtain ⟨fd, FU, FD⟩ := c.fun_ hm
  rw [c.glo X N (.inl ⟨d, hm⟩)] at hfa
  cases hfa
  obtain ⟨ok1, ok2⟩ := c.rows _ hm
  refine ⟨fd, fun s us hu => FunD.bindsA FD ok2 s us hu, fun P w base k => ?_⟩
  have q := def_ok (P := P) (w := w) (base := base) FU ok1 ((tab_of X N c).ok k)
  have e2 : callN m.G m.defs (k + 1) x = defRun m.G (callN m.G m.defs k) d := by
    funext args
    simp only [callN, hl]
  rw [e2]
  exact q
end
end Pf

-- PfRun
/-! Pf: what a run comes to, step by step, as equations. -/
namespace Pf
open PySem
variable {α β : Type} {ρ : Env}
def obind (o : Out β) (f : β → M α) : Out α := match o with
  | .ok a ρ => f a ρ
  | .exc C ρ => .exc C ρ
  | .bad => .bad
@[simp] theorem obind_ok {a : β} {f : β → M α} : obind (.ok a ρ) f = f a ρ := rfl
@[simp] theorem obind_exc {C : Str} {f : β → M α} : obind (.exc C ρ) f = .exc C ρ := rfl
@[simp] theorem obind_bad {f : β → M α} : obind .bad f = .bad := rfl
@[simp] theorem r_bind {m : M β} {f : β → M α} : M.bind m f ρ = obind (m ρ) f := rfl
@[simp] theorem r_ret {a : α} : M.ret a ρ = .ok a ρ := rfl
@[simp] theorem r_bad : (M.bad : M α) ρ = .bad := rfl
def oof (o : Option α) (ρ : Env) : Out α := match o with
  | some a => .ok a ρ
  | none => .bad
@[simp] theorem oof_some {a : α} : oof (some a) ρ = .ok a ρ := rfl
@[simp] theorem oof_none : oof (none : Option α) ρ = .bad := rfl
@[simp] theorem r_of {o : Option α} : M.of o ρ = oof o ρ := by cases o <;> rfl
@[simp] theorem r_ite {c : Prop} [Decidable c] {a b : M α} : (if c then a else b) ρ = if c then a ρ else b ρ := by split <;> rfl
@[simp] theorem r_vw {p : Pl} : vw p ρ = oof (p.view ρ) ρ := by
  unfold vw
  cases p.view ρ <;> rfl
@[simp] theorem r_plName {i : Nat} : plName i ρ = oof (((ρ[i]?).bind Sl.view).map fun _ => Pl.sl i) ρ := by
  unfold plName
  show (match (ρ[i]?).bind Sl.view with
    | some _ => _
    | none => _) = _
  cases (ρ[i]?).bind Sl.view <;> rfl
@[simp] theorem view_sl {i : Nat} : (Pl.sl i).view ρ = (ρ[i]?).bind Sl.view := rfl
@[simp] theorem view_tm {w : W} : (Pl.tm w).view ρ = some w := rfl
@[simp] theorem sl_e : Sl.view .e = none := rfl
@[simp] theorem sl_d {w : W} : Sl.view (.d w) = some w := rfl
@[simp] theorem sl_o {w : W} : Sl.view (.o w) = some w := rfl
def rdO (s : Option Sl) (i : Nat) (ρ : Env) : Out W := match s with
  | some (.d w) => .ok w ρ
  | some (.o w) => .ok w (ρ.set i (.d w))
  | _ => .bad
@[simp] theorem rdO_d {w : W} {i : Nat} : rdO (some (.d w)) i ρ = .ok w ρ := rfl
@[simp] theorem rdO_o {w : W} {i : Nat} : rdO (some (.o w)) i ρ = .ok w (ρ.set i (.d w)) := rfl
@[simp] theorem r_rdD {i : Nat} : rdD i ρ = rdO (ρ[i]?) i ρ := rfl
def moR (r : Option (α × W)) (i : Nat) (ρ : Env) : Out α := match r with
  | some (a, w) => .ok a (ρ.set i (.o w))
  | none => .bad
@[simp] theorem moR_some {a : α} {w : W} {i : Nat} : moR (some (a, w)) i ρ = .ok a (ρ.set i (.o w)) := rfl
def moO (s : Option Sl) (f : W → Option (α × W)) (i : Nat) (ρ : Env) : Out α := match s with
  | some (.o w) => moR (f w) i ρ
  | _ => .bad
@[simp] theorem moO_o {w : W} {f : W → Option (α × W)} {i : Nat} : moO (some (.o w)) f i ρ = moR (f w) i ρ := rfl
@[simp] theorem r_mutO {i : Nat} {f : W → Option (α × W)} : mutO i f ρ = moO (ρ[i]?) f i ρ := by
  unfold mutO moO
  cases ρ[i]? with
  | none => rfl
  | some s =>
    cases s with
    | e => rfl
    | d w => rfl
    | o w =>
      dsimp only
      unfold moR
      cases f w with
      | none => rfl
      | some r => rfl
def neO (s : Option Sl) (ρ : Env) : Out Unit := match s with
  | some (.o (.lst _)) => .ok () ρ
  | _ => .bad
@[simp] theorem neO_o {ws : List W} : neO (some (.o (.lst ws))) ρ = .ok () ρ := rfl
@[simp] theorem r_needO {i : Nat} : needO i ρ = neO (ρ[i]?) ρ := rfl
@[simp] theorem r_asg {np i : Nat} {lk : List Nat} {s : Sl} : asg np lk i s ρ = if np ≤ i ∧ i ∉ lk ∧ i < ρ.length then .ok () (ρ.set i s) else .bad := rfl
def oseq (o : Out Fl) (b : M Fl) : Out Fl := match o with
  | .ok .nx ρ => b ρ
  | o => o
@[simp] theorem oseq_nx {b : M Fl} : oseq (.ok .nx ρ) b = b ρ := rfl
@[simp] theorem oseq_rt {b : M Fl} {s : Sl} : oseq (.ok (.rt s) ρ) b = .ok (.rt s) ρ := rfl
@[simp] theorem oseq_bk {b : M Fl} : oseq (.ok .bk ρ) b = .ok .bk ρ := rfl
@[simp] theorem oseq_ct {b : M Fl} : oseq (.ok .ct ρ) b = .ok .ct ρ := rfl
@[simp] theorem oseq_exc {b : M Fl} {C : Str} : oseq (.exc C ρ) b = .exc C ρ := rfl
@[simp] theorem r_seqS {a b : M Fl} : seqS a b ρ = oseq (a ρ) b := by
  show obind (a ρ) _ = _
  unfold obind oseq
  cases a ρ with
  | ok f ρ' => cases f <;> rfl
  | exc C ρ' => rfl
  | bad => rfl
def mvO (s : Option Sl) (np i : Nat) (ρ : Env) : Out Sl := match s with
  | some (.d w) => .ok (.d w) ρ
  | some (.o w) => if np ≤ i then .ok (.o w) (ρ.set i .e) else .ok (.d w) (ρ.set i (.d w))
  | _ => .bad
@[simp] theorem mvO_d {np i : Nat} {w : W} : mvO (some (.d w)) np i ρ = .ok (.d w) ρ := rfl
@[simp] theorem mvO_o {np i : Nat} {w : W} : mvO (some (.o w)) np i ρ = if np ≤ i then .ok (.o w) (ρ.set i .e) else .ok (.d w) (ρ.set i (.d w)) := rfl
@[simp] theorem r_moveE {np i : Nat} : moveE np i ρ = mvO (ρ[i]?) np i ρ := rfl
@[simp] theorem r_excS {c : Str} : excS c ρ = .exc c ρ := rfl
def ores (r : CRes) (n : Nat) (ps : List Pl) (ρ : Env) : Out Sl := match r with
  | .ret r outs => if outs.length = n then .ok r (backIn ρ ps outs) else .bad
  | .exc c outs => if outs.length = n then .exc c (backIn ρ ps outs) else .bad
  | .bad => .bad
@[simp] theorem ores_ret {r : Sl} {outs : List Sl} {n : Nat} {ps : List Pl} : ores (.ret r outs) n ps ρ = if outs.length = n then .ok r (backIn ρ ps outs) else .bad := rfl
@[simp] theorem ores_exc {c : Str} {outs : List Sl} {n : Nat} {ps : List Pl} : ores (.exc c outs) n ps ρ = if outs.length = n then .exc c (backIn ρ ps outs) else .bad := rfl
def ocall (ss : Option (List Sl)) (C : Orc) (f : Str) (ps : List Pl) (ρ : Env) : Out Sl := match ss with
  | some ss => if (ownIx ρ ps).Nodup then ores (C f ss) ss.length ps ρ else .bad
  | none => .bad
@[simp] theorem ocall_some {ss : List Sl} {C : Orc} {f : Str} {ps : List Pl} : ocall (some ss) C f ps ρ = if (ownIx ρ ps).Nodup then ores (C f ss) ss.length ps ρ else .bad := rfl
@[simp] theorem r_invoke {C : Orc} {f : Str} {ps : List Pl} : invoke C f ps ρ = ocall (argsOf ρ ps) C f ps ρ := by
  unfold invoke ocall
  cases argsOf ρ ps with
  | none => rfl
  | some ss =>
    dsimp only
    split
    · unfold ores
      cases C f ss <;> rfl
    · rfl
/-- a def's end -/
def fin (np : Nat) (o : Out Fl) : CRes := match o with
  | .ok .nx ρ => .ret (.d .non) (ρ.take np)
  | .ok (.rt s) ρ => .ret s (ρ.take np)
  | .exc C ρ => .exc C (ρ.take np)
  | _ => .bad
@[simp] theorem fin_nx {np : Nat} : fin np (.ok .nx ρ) = .ret (.d .non) (ρ.take np) := rfl
@[simp] theorem fin_rt {np : Nat} {s : Sl} : fin np (.ok (.rt s) ρ) = .ret s (ρ.take np) := rfl
@[simp] theorem fin_exc {np : Nat} {C : Str} : fin np (.exc C ρ) = .exc C (ρ.take np) := rfl
theorem body_fin {m : M Fl} {N np : Nat} {args : List Sl} (h : args.length = np) : bodyRun m N np args = fin np (m (args ++ List.replicate (N - np) .e)) := by
  unfold bodyRun fin
  rw [if_pos h]
  all_goals rfl
@[simp] theorem r_lockedM {lk : List Nat} {gs : List (Nat × W)} : lockedM lk gs ρ = if ∀ g ∈ gs, g.1 ∈ lk then .ok () ρ else .bad := rfl
@[simp] theorem u_forS {lk : List Nat} {it : M (List W × List (Nat × W))} {tg : W → M Unit} {body : M Fl} : forS lk it tg body = M.bind it fun x => M.bind (lockedM lk x.2) fun _ => forL x.2 tg body x.1 := rfl
def gdP (s : Option Sl) (i : Nat) : List (Nat × W) := match s with
  | some (.o w) => [(i, w)]
  | _ => []
@[simp] theorem gdP_d {w : W} {i : Nat} : gdP (some (.d w)) i = [] := rfl
@[simp] theorem gdP_o {w : W} {i : Nat} : gdP (some (.o w)) i = [(i, w)] := rfl
@[simp] theorem u_gdS {i : Nat} : gdOf ρ (.sl i) = gdP (ρ[i]?) i := rfl
@[simp] theorem u_gdT {w : W} : gdOf ρ (.tm w) = [] := rfl
@[simp] theorem u_itE {a : M Pl} : itE a = M.bind a fun p => M.bind (vw p) fun w => itM p w := rfl
@[simp] theorem itM_l {p : Pl} {ws : List W} : itM p (.lst ws) ρ = .ok (ws, gdOf ρ p) ρ := rfl
@[simp] theorem itM_t {p : Pl} {ws : List W} : itM p (.tup ws) ρ = .ok (ws, gdOf ρ p) ρ := rfl
@[simp] theorem itM_s {p : Pl} {s : Str} : itM p (.str s) ρ = .ok (s.cps.toList.map fun c => .str ⟨#[c]⟩, gdOf ρ p) ρ := rfl
@[simp] theorem itM_d {p : Pl} {t : Bool} {kvs : List (W × W)} : itM p (.dct t kvs) = M.bind (frzP p) fun _ => M.ret (kvs.map (·.1), []) := rfl
@[simp] theorem frzP_s {i : Nat} : frzP (.sl i) = M.bind (rdD i) fun _ => M.ret () := rfl
@[simp] theorem frzP_t {w : W} : frzP (.tm w) = M.ret () := rfl
@[simp] theorem u_itItems {a : M Pl} : itItems a = M.bind a fun p => M.bind (vw p) fun w => itmM p w := rfl
@[simp] theorem itmM_d {p : Pl} {kvs : List (W × W)} : itmM p (.dct false kvs) = M.bind (frzP p) fun _ => M.ret (kvs.map fun z => .tup [z.1, z.2], []) := rfl
@[simp] theorem u_itVals {a : M Pl} : itVals a = M.bind a fun p => M.bind (vw p) fun w => valM p w := rfl
@[simp] theorem valM_d {p : Pl} {kvs : List (W × W)} : valM p (.dct false kvs) = M.bind (frzP p) fun _ => M.ret (kvs.map (·.2), []) := rfl
@[simp] theorem u_dgetE {a : M Pl} {es : M (List W)} : dgetE a es = M.bind a fun p => M.bind (vw p) fun x => M.bind (needD x) fun _ => M.bind es fun ws => M.bind (vw p) fun y => M.of (getW y ws) := rfl
@[simp] theorem needD_d {t : Bool} {kvs : List (W × W)} : needD (.dct t kvs) = M.ret () := rfl
@[simp] theorem getW_1 {t : Bool} {kvs : List (W × W)} {k : W} : getW (.dct t kvs) [k] = if W.keyOk t k then some (.d ((valW kvs k).getD .non)) else none := rfl
@[simp] theorem getW_2 {t : Bool} {kvs : List (W × W)} {k x : W} : getW (.dct t kvs) [k, x] = if W.keyOk t k then some (.d ((valW kvs k).getD x)) else none := rfl
@[simp] theorem u_dispS0 : dispS [] = M.ret [] := rfl
@[simp] theorem u_dispS {k v : M W} {r : List (M W × M W)} : dispS ((k, v) :: r) = M.bind k fun a => M.bind v fun b => M.bind (dispS r) fun ps => M.ret ((a, b) :: ps) := rfl
def dispF : Out (List (W × W)) → Out Sl
  | .ok ps ρ' => if ps.length ≤ 15 ∧ ps.all (fun p => p.1.key1) = true then .ok (.o (.dct false (mergeW [] ps))) ρ' else .bad
  | _ => .bad
@[simp] theorem dispF_ok {ps : List (W × W)} : dispF (.ok ps ρ) = if ps.length ≤ 15 ∧ ps.all (fun p => p.1.key1) = true then .ok (.o (.dct false (mergeW [] ps))) ρ else .bad := rfl
@[simp] theorem r_dispE {m : M (List (W × W))} : dispE m ρ = dispF (m ρ) := by
  unfold dispE dispF
  cases m ρ <;> rfl
@[simp] theorem key1_i {i : Int} : W.key1 (.int i) = true := rfl
@[simp] theorem key1_s {s : Str} : W.key1 (.str s) = true := rfl
@[simp] theorem keyOk_f {k : W} : W.keyOk false k = k.key1 := by cases k <;> rfl
@[simp] theorem keyOk_t {ks : List W} : W.keyOk true (.tup ks) = ks.all W.key1 := rfl
@[simp] theorem items_lst {ws : List W} : itemsOf (.lst ws) = some ws := rfl
@[simp] theorem items_tup {ws : List W} : itemsOf (.tup ws) = some ws := rfl
@[simp] theorem items_str {s : Str} : itemsOf (.str s) = some (s.cps.toList.map fun c => .str ⟨#[c]⟩) := rfl
def rg1 : List W → Option (List W × List (Nat × W))
  | [.int j] => if inHalf j then some (rangeL 0 j, []) else none
  | _ => none
def rg2 : List W → Option (List W × List (Nat × W))
  | [.int i, .int j] => if inHalf i && inHalf j then some (rangeL i j, []) else none
  | _ => none
@[simp] theorem rg1_i {j : Int} : rg1 [.int j] = if inHalf j then some (rangeL 0 j, []) else none := rfl
@[simp] theorem rg2_i {i j : Int} : rg2 [.int i, .int j] = if inHalf i && inHalf j then some (rangeL i j, []) else none := rfl
@[simp] theorem u_itR1 {m : M (List Pl)} : itR1 m = M.bind m fun ps => M.bind (vwL ps) fun ws => M.of (rg1 ws) := by
  unfold itR1
  congr 1
  funext ps
  congr 1
  funext ws
  match ws with
  | [] => rfl
  | [.int j] => rw [rg1_i]; dsimp only; split <;> rfl
  | [.non] => rfl
  | [.bl _] => rfl
  | [.str _] => rfl
  | [.tup _] => rfl
  | [.lst _] => rfl
  | [.dct _ _] => rfl
  | [.set _] => rfl
  | [.scr _] => rfl
  | [.fn _] => rfl
  | [.ty _] => rfl
  | [.exn _] => rfl
  | x :: _ :: _ => cases x <;> rfl
@[simp] theorem u_itR2 {m : M (List Pl)} : itR2 m = M.bind m fun ps => M.bind (vwL ps) fun ws => M.of (rg2 ws) := by
  unfold itR2
  congr 1
  funext ps
  congr 1
  funext ws
  match ws with
  | [] => rfl
  | [x] => cases x <;> rfl
  | [x, y] => cases x <;> cases y <;> first | rfl | (rw [rg2_i]; dsimp only; split <;> rfl)
  | x :: y :: _ :: _ => cases x <;> cases y <;> rfl
@[simp] theorem u_itR3 {m : M (List Pl)} : itR3 m = M.bind m fun ps => M.bind (vwL ps) fun ws => M.of (rg3 ws) := rfl
@[simp] theorem rg3_i {i j c : Int} : rg3 [.int i, .int j, .int c] = if c ≠ 0 ∧ c.natAbs < 1073741824 ∧ Builtin.Range.small i j c = true ∧ 0 ≤ Builtin.Range.rangeSize i j c then some (rangeC i c (Builtin.Range.rangeSize i j c).toNat, []) else none := rfl
@[simp] theorem u_userXE {G : List (Str × GK)} {C : Orc} {n : Nat} {mf : M W} {m : M (List Pl)} : userXE G C n mf m = M.bind mf fun w => userX G C n m w := rfl
theorem userX_fn {G : List (Str × GK)} {C : Orc} {n : Nat} {m : M (List Pl)} {x : Str} (h : G.lookup x = some (.fn n)) : userX G C n m (.fn x) = userE C x m := by
  simp [userX, h]
def methO (x : W) (m : Str) (es : M (List Pl)) : M Sl := match x with
  | .str s => M.bind es fun ps => M.bind (vwL ps) fun ws => M.of (W.meth (.str s) m ws)
  | _ => M.bad
@[simp] theorem methO_s {s : Str} {m : Str} {es : M (List Pl)} : methO (.str s) m es = M.bind es fun ps => M.bind (vwL ps) fun ws => M.of (W.meth (.str s) m ws) := rfl
@[simp] theorem u_methE {a : M Pl} {m : Str} {es : M (List Pl)} : methE a m es = M.bind a fun p => M.bind (vw p) fun x => methO x m es := rfl
def appF (w : W) : W → Option (Unit × W) := fun x => match x with
  | .lst ws => if ws.length < sizeLine then some ((), .lst (ws ++ [w])) else none
  | _ => none
@[simp] theorem appF_l {w : W} {ws : List W} : appF w (.lst ws) = if ws.length < sizeLine then some ((), .lst (ws ++ [w])) else none := rfl
@[simp] theorem u_appE {i : Nat} {m : M W} : appE i m = M.bind (needO i) fun _ => M.bind m fun w => M.bind (mutO i (appF w)) fun _ => cst .non := rfl
def insF (w k : W) : W → Option (Unit × W) := fun x => match x, k with
  | .lst ws, .int k => if ws.length < sizeLine ∧ 0 ≤ k ∧ k < 2 ^ 62 then some ((), .lst (ws.take k.toNat ++ w :: ws.drop k.toNat)) else none
  | _, _ => none
@[simp] theorem insF_l {w : W} {k : Int} {ws : List W} : insF w (.int k) (.lst ws) = if ws.length < sizeLine ∧ 0 ≤ k ∧ k < 2 ^ 62 then some ((), .lst (ws.take k.toNat ++ w :: ws.drop k.toNat)) else none := rfl
@[simp] theorem u_insE {i : Nat} {ma : M Pl} {m : M W} : insE i ma m = M.bind (needO i) fun _ => M.bind ma fun p => M.bind m fun w => M.bind (vw p) fun k => M.bind (mutO i (insF w k)) fun _ => cst .non := rfl
def popF : W → Option (W × W) := fun x => match x with
  | .lst ws => (ws[ws.length - 1]?).map fun w => (w, .lst ws.dropLast)
  | _ => none
@[simp] theorem popF_l {ws : List W} : popF (.lst ws) = (ws[ws.length - 1]?).map fun w => (w, .lst ws.dropLast) := rfl
@[simp] theorem u_popE {i : Nat} : popE i = M.bind (needO i) fun _ => M.bind (mutO i popF) fun w => cst w := rfl
def popAtF (k : W) : W → Option (W × W) := fun x => match x, k with
  | .lst ws, .int k => if -(2 ^ 62) ≤ k ∧ k < 2 ^ 62 then (ixOf ws.length k).bind fun j => (ws[j]?).map fun w => (w, .lst (ws.eraseIdx j)) else none
  | _, _ => none
@[simp] theorem popAtF_l {k : Int} {ws : List W} : popAtF (.int k) (.lst ws) = if -(2 ^ 62) ≤ k ∧ k < 2 ^ 62 then (ixOf ws.length k).bind fun j => (ws[j]?).map fun w => (w, .lst (ws.eraseIdx j)) else none := rfl
@[simp] theorem u_popAtE {i : Nat} {ma : M Pl} : popAtE i ma = M.bind (needO i) fun _ => M.bind ma fun p => M.bind (vw p) fun k => M.bind (mutO i (popAtF k)) fun w => cst w := rfl
def setF (kw w : W) : W → Option (Unit × W) := fun x => match x, kw with
  | .lst ws, .int k => (ixOf ws.length k).map fun j => ((), .lst (ws.set j w))
  | .dct t kvs, k => if W.keyOk t k ∧ kvs.length < sizeLine then some ((), .dct t (putW kvs k w)) else none
  | _, _ => none
@[simp] theorem setF_d {k w : W} {t : Bool} {kvs : List (W × W)} : setF k w (.dct t kvs) = if W.keyOk t k ∧ kvs.length < sizeLine then some ((), .dct t (putW kvs k w)) else none := rfl
@[simp] theorem setF_l {k : Int} {w : W} {ws : List W} : setF (.int k) w (.lst ws) = (ixOf ws.length k).map fun j => ((), .lst (ws.set j w)) := rfl
@[simp] theorem u_setItemS {i : Nat} {k : M Pl} {m : M W} : setItemS i k m = M.bind m fun w => M.bind (plName i) fun _ => M.bind k fun p => M.bind (vw p) fun kw => mutO i (setF kw w) := rfl
@[simp] theorem u_augS {np i : Nat} {lk : List Nat} {op : Operator} {m : M Pl} : augS np lk i op m = M.bind (plName i) fun _ => M.bind (vw (.sl i)) fun x => M.bind m fun q => M.bind (vw q) fun y => M.bind (M.of (augW op x y)) fun z => asg np lk i (.d z) := rfl
@[simp] theorem opt_map_some {f : β → α} {b : β} : (some b).map f = some (f b) := rfl
section
variable {m a b c : M Pl} {ms : List (M Pl)} {e e1 e2 : M Sl} {d : M W} {ds : List (M W)} {t : M Bool} {ts : List (M Bool)} {i np : Nat} {lk : List Nat} {w : W} {C : Orc}
@[simp] theorem u_dat : dat e = M.bind e fun s => M.of s.view := rfl
@[simp] theorem u_plE : plE e = M.bind (dat e) fun w => M.ret (.tm w) := rfl
@[simp] theorem u_cst : cst w = M.ret (.d w) := rfl
@[simp] theorem u_nameE : nameE i = M.bind (rdD i) fun w => M.ret (.d w) := rfl
@[simp] theorem u_binE {f : W → W → Option Sl} : binE f a b = M.bind a fun p => M.bind b fun q => M.bind (vw p) fun x => M.bind (vw q) fun y => M.of (f x y) := rfl
@[simp] theorem u_unE {f : W → Option Sl} : unE f a = M.bind a fun p => M.bind (vw p) fun x => M.of (f x) := rfl
@[simp] theorem u_cmpE {op : CmpOp} : cmpE op a b = binE (fun x y => (W.cmp op x y).map fun b => .d (.bl b)) a b := rfl
@[simp] theorem u_chainE {op op' : CmpOp} : chainE op op' a b c = M.bind a fun p => M.bind b fun q => M.bind (vw p) fun x => M.bind (vw q) fun y => M.bind (M.of (W.cmp op x y)) fun k =>
    if k then M.bind c fun r => M.bind (vw q) fun y' => M.bind (vw r) fun z => M.of ((W.cmp op' y' z).map fun b => .d (.bl b)) else cst (.bl false) := rfl
@[simp] theorem u_evS0 : evS [] = M.ret [] := rfl
@[simp] theorem u_evS : evS (d :: ds) = M.bind d fun w => M.bind (evS ds) fun ws => M.ret (w :: ws) := rfl
@[simp] theorem u_plS0 : plS [] = M.ret [] := rfl
@[simp] theorem u_plS : plS (m :: ms) = M.bind m fun p => M.bind (plS ms) fun ps => M.ret (p :: ps) := rfl
@[simp] theorem u_vwL0 : vwL [] = M.ret [] := rfl
@[simp] theorem u_vwL {p : Pl} {ps : List Pl} : vwL (p :: ps) = M.bind (vw p) fun w => M.bind (vwL ps) fun ws => M.ret (w :: ws) := rfl
@[simp] theorem u_lstE {m : M (List W)} : lstE m = M.bind m fun ws => M.of (if ws.length ≤ sizeLine then some (.o (.lst ws)) else none) := rfl
@[simp] theorem u_tupE {m : M (List W)} : tupE m = M.bind m fun ws => M.of (if ws.length ≤ sizeLine then some (.d (.tup ws)) else none) := rfl
@[simp] theorem u_callE {f : Str} {m : M (List Pl)} : callE f m = M.bind m fun ps => M.bind (vwL ps) fun ws => M.of (W.call f ws) := rfl
@[simp] theorem u_truE : truE a = M.bind a fun p => M.bind (vw p) fun w => M.of w.tru := rfl
@[simp] theorem u_boolE : boolE t = M.bind t fun b => cst (.bl b) := rfl
@[simp] theorem u_ifE {x y : M α} : ifE t x y = M.bind t fun c => if c then x else y := rfl
@[simp] theorem u_notT : notT t = M.bind t fun b => M.ret (!b) := rfl
@[simp] theorem u_andT0 : andT [] = M.ret true := rfl
@[simp] theorem u_andT1 : andT [t] = t := rfl
@[simp] theorem u_andT {t' : M Bool} : andT (t :: t' :: ts) = M.bind t fun c => if c then andT (t' :: ts) else M.ret false := rfl
@[simp] theorem u_orT0 : orT [] = M.ret false := rfl
@[simp] theorem u_orT1 : orT [t] = t := rfl
@[simp] theorem u_orT {t' : M Bool} : orT (t :: t' :: ts) = M.bind t fun c => if c then M.ret true else orT (t' :: ts) := rfl
@[simp] theorem u_andV1 : andV [d] = d := rfl
@[simp] theorem u_andV {d' : M W} : andV (d :: d' :: ds) = M.bind d fun w => M.bind (M.of w.tru) fun c => if c then andV (d' :: ds) else M.ret w := rfl
@[simp] theorem u_orV1 : orV [d] = d := rfl
@[simp] theorem u_orV {d' : M W} : orV (d :: d' :: ds) = M.bind d fun w => M.bind (M.of w.tru) fun c => if c then M.ret w else orV (d' :: ds) := rfl
@[simp] theorem u_dE : dE d = M.bind d fun w => M.ret (.d w) := rfl
@[simp] theorem u_setS : setS np lk i e = M.bind e fun s => asg np lk i s := rfl
@[simp] theorem u_userE {f : Str} {m : M (List Pl)} : userE C f m = M.bind m fun ps => invoke C f ps := rfl
@[simp] theorem u_nxS : nxS = M.ret .nx := rfl
@[simp] theorem u_actS {m : M Unit} : actS m = M.bind m fun _ => M.ret .nx := rfl
@[simp] theorem u_dropS : dropS e = M.bind e fun _ => M.ret .nx := rfl
@[simp] theorem u_retS : retS e = M.bind e fun s => M.ret (.rt s) := rfl
@[simp] theorem u_blkS0 : blkS [] = nxS := rfl
@[simp] theorem u_blkS {s : M Fl} {ss : List (M Fl)} : blkS (s :: ss) = seqS s (blkS ss) := rfl
@[simp] theorem u_tstE : tstE e = M.bind e fun s => M.of (match s.view with
  | some (.bl b) => some b
  | _ => none) := rfl
@[simp] theorem u_tgName : tgName np lk i w = asg np lk i (.d w) := rfl
@[simp] theorem u_tgAll0 : tgAll [] [] = M.ret () := rfl
@[simp] theorem u_tgAll {t : W → M Unit} {ts : List (W → M Unit)} {ws : List W} : tgAll (t :: ts) (w :: ws) = M.bind (t w) fun _ => tgAll ts ws := rfl
@[simp] theorem u_tgTupT {ts : List (W → M Unit)} {ws : List W} : tgTup ts (.tup ws) = tgAll ts ws := rfl
@[simp] theorem u_tgTupL {ts : List (W → M Unit)} {ws : List W} : tgTup ts (.lst ws) = tgAll ts ws := rfl
@[simp] theorem u_argsOf0 : argsOf ρ [] = some [] := rfl
@[simp] theorem u_argsOf {p : Pl} {ps : List Pl} : argsOf ρ (p :: ps) = (argSl ρ p).bind fun s => (argsOf ρ ps).map fun ss => s :: ss := by
  rw [argsOf]
  cases argSl ρ p with
  | none => rfl
  | some s => cases argsOf ρ ps <;> rfl
def asl : Option Sl → Option Sl
  | some (.d w) => some (.d w)
  | some (.o w) => some (.o w)
  | _ => none
@[simp] theorem asl_d : asl (some (.d w)) = some (.d w) := rfl
@[simp] theorem asl_o : asl (some (.o w)) = some (.o w) := rfl
@[simp] theorem u_argSl : argSl ρ (.sl i) = asl (ρ[i]?) := by
  unfold argSl asl
  dsimp only
  all_goals (rcases ρ[i]? with _ | s <;> first | rfl | (cases s <;> rfl))
@[simp] theorem u_argTm : argSl ρ (.tm w) = some (.d w) := rfl
def ownP (s : Option Sl) (i : Nat) (r : List Nat) : List Nat := match s with
  | some (.o _) => i :: r
  | _ => r
@[simp] theorem ownP_o {r : List Nat} : ownP (some (.o w)) i r = i :: r := rfl
@[simp] theorem ownP_d {r : List Nat} : ownP (some (.d w)) i r = r := rfl
@[simp] theorem u_own0 : ownIx ρ [] = [] := rfl
@[simp] theorem u_ownS {ps : List Pl} : ownIx ρ (.sl i :: ps) = ownP (ρ[i]?) i (ownIx ρ ps) := by
  unfold ownP
  rw [ownIx]
  all_goals (rcases ρ[i]? with _ | s <;> first | rfl | (cases s <;> rfl))
@[simp] theorem u_ownT {ps : List Pl} : ownIx ρ (.tm w :: ps) = ownIx ρ ps := rfl
def backP (s : Option Sl) (i : Nat) (x : Sl) (r : Env) : Env := match s with
  | some (.o _) => r.set i x
  | _ => r
@[simp] theorem backP_o {x : Sl} {r : Env} : backP (some (.o w)) i x r = r.set i x := rfl
@[simp] theorem backP_d {x : Sl} {r : Env} : backP (some (.d w)) i x r = r := rfl
@[simp] theorem u_back0 {ss : List Sl} : backIn ρ [] ss = ρ := by cases ss <;> rfl
@[simp] theorem u_backS {ps : List Pl} {s : Sl} {ss : List Sl} : backIn ρ (.sl i :: ps) (s :: ss) = backP (ρ[i]?) i s (backIn ρ ps ss) := by
  unfold backP
  rw [backIn]
  all_goals (rcases ρ[i]? with _ | s <;> first | rfl | (cases s <;> rfl))
@[simp] theorem u_backT {ps : List Pl} {s : Sl} {ss : List Sl} : backIn ρ (.tm w :: ps) (s :: ss) = backIn ρ ps ss := rfl
def intW : W → Option (Option Int)
  | .int i => some (some i)
  | _ => none
@[simp] theorem u_intW {i : Int} : intW (.int i) = some (some i) := rfl
@[simp] theorem u_sliceE {lo hi : Option (M Pl)} : sliceE a lo hi = M.bind a fun p => M.bind (partM lo) fun l => M.bind (partM hi) fun h => M.bind (vw p) fun x => M.of (W.slice x l h) := rfl
@[simp] theorem u_partN : partM none = M.ret none := rfl
@[simp] theorem u_partS : partM (some m) = M.bind m fun p => M.bind (vw p) fun w => M.of (intW w) := by
  unfold partM
  funext ρ
  show M.bind m _ ρ = M.bind m _ ρ
  congr 1
  funext p
  congr 1
  funext w
  cases w <;> rfl
end
/-- a block whose end has a name -/
def blkT : List (M Fl) → M Fl → M Fl
  | [], t => t
  | m :: ms, t => seqS m (blkT ms t)
@[simp] theorem u_blkT0 {t : M Fl} : blkT [] t = t := rfl
@[simp] theorem u_blkT {s t : M Fl} {ss : List (M Fl)} : blkT (s :: ss) t = seqS s (blkT ss t) := rfl
/-! ### loops -/
/-- a for whose body goes on: I at what is done; it ends by itself, or leaves with R -/
theorem for_ok {gs : List (Nat × W)} {tg : W → M Unit} {body : M Fl} {ws : List W} (I : List W → Env → Prop) (R : Fl → Env → Prop) (X : Str → Env → Prop)
    (hs : ∀ pre w post ρ, ws = pre ++ w :: post → I pre ρ → (∀ g ∈ gs, still ρ g) ∧ ((∃ ρ', obind (tg w ρ) (fun _ => body) = .ok .nx ρ' ∧ I (pre ++ [w]) ρ') ∨ (∃ ρ', obind (tg w ρ) (fun _ => body) = .ok .ct ρ' ∧ I (pre ++ [w]) ρ') ∨
      (∃ ρ', obind (tg w ρ) (fun _ => body) = .ok .bk ρ' ∧ R .nx ρ') ∨ (∃ s ρ', obind (tg w ρ) (fun _ => body) = .ok (.rt s) ρ' ∧ R (.rt s) ρ') ∨ ∃ C ρ', obind (tg w ρ) (fun _ => body) = .exc C ρ' ∧ X C ρ'))
    (he : ∀ ρ, I ws ρ → ∀ g ∈ gs, still ρ g) (h0 : I [] ρ) :
    (∃ ρ', forL gs tg body ws ρ = .ok .nx ρ' ∧ I ws ρ') ∨ (∃ f ρ', forL gs tg body ws ρ = .ok f ρ' ∧ R f ρ') ∨ ∃ C ρ', forL gs tg body ws ρ = .exc C ρ' ∧ X C ρ' := by
  have gd : ∀ ρ, (∀ g ∈ gs, still ρ g) → guardM gs ρ = .ok () ρ := fun ρ h => by unfold guardM; rw [if_pos h]
  have go : ∀ post pre ρ, ws = pre ++ post → I pre ρ → (∃ ρ', forL gs tg body post ρ = .ok .nx ρ' ∧ I ws ρ') ∨ (∃ f ρ', forL gs tg body post ρ = .ok f ρ' ∧ R f ρ') ∨ ∃ C ρ', forL gs tg body post ρ = .exc C ρ' ∧ X C ρ' := by
    intro post
    induction post with
    | nil =>
      intro pre ρ e i
      rw [List.append_nil] at e
      subst e
      refine .inl ⟨ρ, ?_, i⟩
      unfold forL
      rw [r_bind, gd ρ (he ρ i)]
      rfl
    | cons w post ih =>
      intro pre ρ e i
      obtain ⟨h1, h2⟩ := hs pre w post ρ e i
      have st : forL gs tg body (w :: post) ρ = obind (obind (tg w ρ) (fun _ => body)) (fun f => match f with
          | .nx => forL gs tg body post
          | .ct => forL gs tg body post
          | .bk => M.ret .nx
          | .rt s => M.ret (.rt s)) := by
        rw [forL, r_bind, gd ρ h1, obind_ok, r_bind]
        cases tg w ρ with
        | ok u ρ1 =>
          show M.bind body _ ρ1 = _
          rw [r_bind]
          rfl
        | exc C ρ1 => rfl
        | bad => rfl
      rw [st]
      rcases h2 with ⟨ρ', h3, h4⟩ | ⟨ρ', h3, h4⟩ | ⟨ρ', h3, h4⟩ | ⟨s, ρ', h3, h4⟩ | ⟨C, ρ', h3, h4⟩
      · rw [h3]
        exact ih (pre ++ [w]) ρ' (by rw [e]; simp) h4
      · rw [h3]
        exact ih (pre ++ [w]) ρ' (by rw [e]; simp) h4
      · rw [h3]
        exact .inr (.inl ⟨_, _, rfl, h4⟩)
      · rw [h3]
        exact .inr (.inl ⟨_, _, rfl, h4⟩)
      · rw [h3]
        exact .inr (.inr ⟨_, _, rfl, h4⟩)
  exact go ws [] ρ rfl h0
/-- a for that goes through, nothing else -/
theorem for_all {gs : List (Nat × W)} {tg : W → M Unit} {body : M Fl} {ws : List W} (I : List W → Env → Prop)
    (hs : ∀ pre w post ρ, ws = pre ++ w :: post → I pre ρ → (∀ g ∈ gs, still ρ g) ∧ ∃ ρ', obind (tg w ρ) (fun _ => body) = .ok .nx ρ' ∧ I (pre ++ [w]) ρ')
    (he : ∀ ρ, I ws ρ → ∀ g ∈ gs, still ρ g) (h0 : I [] ρ) : ∃ ρ', forL gs tg body ws ρ = .ok .nx ρ' ∧ I ws ρ' := by
  rcases for_ok I (fun _ _ => False) (fun _ _ => False) (fun pre w post ρ e i => ⟨(hs pre w post ρ e i).1, .inl (hs pre w post ρ e i).2⟩) he h0 with h | ⟨_, _, _, z⟩ | ⟨_, _, _, z⟩
  · exact h
  · exact z.elim
  · exact z.elim
/-- a while that ends by its test -/
theorem while_ok {c : M Bool} {b : M Fl} (I : Nat → Env → Prop) (J : Env → Prop)
    (hs : ∀ n ρ, I n ρ → (∃ ρ1, c ρ = .ok false ρ1 ∧ J ρ1) ∨ ∃ ρ1 ρ2, c ρ = .ok true ρ1 ∧ (b ρ1 = .ok .nx ρ2 ∨ b ρ1 = .ok .ct ρ2) ∧ ∃ m, m < n ∧ I m ρ2) {n : Nat} (h0 : I n ρ) : ∃ ρ', whileS c b ρ = .ok .nx ρ' ∧ J ρ' := by
  have go : ∀ n ρ, I n ρ → ∃ m ρ', whileN c b m ρ = some (.ok .nx ρ') ∧ J ρ' := by
    intro n
    induction n using Nat.strongRecOn with
    | _ n ih =>
      intro ρ i
      rcases hs n ρ i with ⟨ρ1, h1, h2⟩ | ⟨ρ1, ρ2, h1, h2, m, hm, im⟩
      · exact ⟨1, ρ1, by simp only [whileN, h1], h2⟩
      · obtain ⟨j, ρ', h3, h4⟩ := ih m hm ρ2 im
        refine ⟨j + 1, ρ', ?_, h4⟩
        rcases h2 with h2 | h2
        · simp only [whileN, h1, h2]; exact h3
        · simp only [whileN, h1, h2]; exact h3
  obtain ⟨m, ρ', h1, h2⟩ := go n ρ h0
  refine ⟨ρ', ?_, h2⟩
  unfold whileS
  have ex : ∃ n o, whileN c b n ρ = some o := ⟨m, _, h1⟩
  rw [dif_pos ex]
  have h3 := Classical.choose_spec (Classical.choose_spec ex)
  have mono : ∀ n ρ o, whileN c b n ρ = some o → ∀ j, whileN c b (n + j) ρ = some o := by
    intro n
    induction n with
    | zero => intro ρ o h; simp [whileN] at h
    | succ n ih =>
      intro ρ o h j
      rw [Nat.add_right_comm]
      unfold whileN at h ⊢
      cases e : c ρ with
      | bad => rw [e] at h; exact h
      | exc C ρ1 => rw [e] at h; exact h
      | ok k ρ1 =>
        rw [e] at h
        cases k with
        | false => exact h
        | true =>
          dsimp only at h ⊢
          cases e2 : b ρ1 with
          | bad => rw [e2] at h; exact h
          | exc C ρ2 => rw [e2] at h; exact h
          | ok f ρ2 =>
            rw [e2] at h
            cases f with
            | nx => exact ih _ _ h j
            | ct => exact ih _ _ h j
            | bk => exact h
            | rt s => exact h
  have e1 := mono _ _ _ h1 (Classical.choose ex)
  have e2 := mono _ _ _ h3 m
  rw [Nat.add_comm] at e2
  rw [e1] at e2
  exact (Option.some.inj e2).symm
/-- a comprehension: I at what is done and what is made -/
theorem lc_ok {is : List Nat} {it : M (List W × List (Nat × W))} {tg : W → M Unit} {test : M Bool} {elt : M W} {xs : List W} {gs : List (Nat × W)} {ρ1 : Env} (hit : it ρ = .ok (xs, gs) ρ1) (hn : noOwn ρ1 is = true) (hg : ∀ g ∈ gs, g.1 ∉ is) (hsz : xs.length ≤ sizeLine)
    (I : List W → List W → Env → Prop) (h0 : I [] [] (clear ρ1 is))
    (hs : ∀ pre w post acc ρ, xs = pre ++ w :: post → I pre acc ρ → (∀ g ∈ gs, still ρ g) ∧ ((∃ ρ2 y ρ3, obind (tg w ρ) (fun _ => test) = .ok true ρ2 ∧ elt ρ2 = .ok y ρ3 ∧ I (pre ++ [w]) (acc ++ [y]) (clear ρ3 is)) ∨
      ∃ ρ2, obind (tg w ρ) (fun _ => test) = .ok false ρ2 ∧ I (pre ++ [w]) acc (clear ρ2 is)))
    (he : ∀ acc ρ, I xs acc ρ → ∀ g ∈ gs, still ρ g) : ∃ acc ρ', lcE is it tg test elt ρ = .ok (.o (.lst acc)) (restore ρ1 ρ' is) ∧ I xs acc ρ' := by
  have gd : ∀ ρ, (∀ g ∈ gs, still ρ g) → guardM gs ρ = .ok () ρ := fun ρ h => by unfold guardM; rw [if_pos h]
  have go : ∀ post pre acc ρ, xs = pre ++ post → acc.length ≤ pre.length → I pre acc ρ → ∃ acc' ρ', lcL gs is tg test elt post acc ρ = .ok acc' ρ' ∧ I xs acc' ρ' := by
    intro post
    induction post with
    | nil =>
      intro pre acc ρ e hl i
      rw [List.append_nil] at e
      subst e
      refine ⟨acc, ρ, ?_, i⟩
      unfold lcL
      rw [r_bind, gd ρ (he acc ρ i)]
      rfl
    | cons w post ih =>
      intro pre acc ρ e hl i
      obtain ⟨g1, g2⟩ := hs pre w post acc ρ e i
      have hacc : acc.length < sizeLine := by
        have : xs.length = pre.length + (post.length + 1) := by rw [e]; simp
        omega
      have st : lcL gs is tg test elt (w :: post) acc ρ = obind (obind (tg w ρ) (fun _ => test)) (fun c => if c then M.bind elt fun x => lenM acc.length (M.bind (clrM is) fun _ => lcL gs is tg test elt post (acc ++ [x]))
          else M.bind (clrM is) fun _ => lcL gs is tg test elt post acc) := by
        rw [lcL, r_bind, gd ρ g1, obind_ok, r_bind]
        cases tg w ρ with
        | ok u ρ1 =>
          show M.bind test _ ρ1 = _
          rw [r_bind]
          rfl
        | exc C ρ1 => rfl
        | bad => rfl
      rw [st]
      rcases g2 with ⟨ρ2, y, ρ3, h1, h2, h3⟩ | ⟨ρ2, h1, h3⟩
      · obtain ⟨acc', ρ', h4, h5⟩ := ih (pre ++ [w]) (acc ++ [y]) _ (by rw [e]; simp) (by simp; omega) h3
        refine ⟨acc', ρ', ?_, h5⟩
        rw [h1, obind_ok, if_pos rfl, r_bind, h2, obind_ok]
        unfold lenM
        rw [if_pos hacc]
        exact h4
      · obtain ⟨acc', ρ', h4, h5⟩ := ih (pre ++ [w]) acc _ (by rw [e]; simp) (by simp; omega) h3
        refine ⟨acc', ρ', ?_, h5⟩
        rw [h1, obind_ok, if_neg (by decide)]
        exact h4
  obtain ⟨acc', ρ', h4, h5⟩ := go xs [] [] (clear ρ1 is) rfl (Nat.le_refl _) h0
  refine ⟨acc', ρ', ?_, h5⟩
  unfold lcE M.bind
  rw [hit]
  dsimp only
  rw [if_pos ⟨hn, hg⟩, h4]
/-! ### zip -/
def zipM (ps : List Pl) (ws : List W) : M (List W × List (Nat × W)) := fun ρ => match ps, ws with
  | [p, q], [.lst xs, .lst ys] => .ok ((xs.zip ys).map fun z => .tup [z.1, z.2], gdOf ρ p ++ gdOf ρ q) ρ
  | _, _ => .bad
@[simp] theorem zipM_l {p q : Pl} {xs ys : List W} {ρ : Env} : zipM [p, q] [.lst xs, .lst ys] ρ = .ok ((xs.zip ys).map fun z => .tup [z.1, z.2], gdOf ρ p ++ gdOf ρ q) ρ := rfl
@[simp] theorem u_itZip {m : M (List Pl)} : itZip m = M.bind m fun ps => M.bind (vwL ps) fun ws => zipM ps ws := rfl
/-! ### except suites -/
def kndE (cs : List Str) (C : Str) : M Sl := if C ∈ cs then cst (.str (C ++ "+")) else M.bad
def onx (i : Nat) : Out Fl → Out Fl
  | .ok .nx ρ2 => .ok .nx (ρ2.set i .e)
  | _ => .bad
def otry (np : Nat) (lk : List Nat) (i : Nat) (cs : List Str) (hd : Str → M Fl) : Out Fl → Out Fl
  | .exc C ρ' => if C ∈ cs ∧ np ≤ i ∧ i ∉ lk ∧ i < ρ'.length then onx i (hd C (ρ'.set i .e)) else .bad
  | o => o
@[simp] theorem onx_nx {i : Nat} {ρ : Env} : onx i (.ok .nx ρ) = .ok .nx (ρ.set i .e) := rfl
@[simp] theorem otry_ok {np i : Nat} {lk : List Nat} {cs : List Str} {hd : Str → M Fl} {f : Fl} {ρ : Env} : otry np lk i cs hd (.ok f ρ) = .ok f ρ := rfl
@[simp] theorem otry_exc {np i : Nat} {lk : List Nat} {cs : List Str} {hd : Str → M Fl} {C : Str} {ρ : Env} : otry np lk i cs hd (.exc C ρ) = if C ∈ cs ∧ np ≤ i ∧ i ∉ lk ∧ i < ρ.length then onx i (hd C (ρ.set i .e)) else .bad := rfl
@[simp] theorem r_tryS {np i : Nat} {lk : List Nat} {cs : List Str} {m : M Fl} {hd : Str → M Fl} {ρ : Env} : tryS np lk i cs m hd ρ = otry np lk i cs hd (m ρ) := by
  unfold tryS otry
  cases m ρ with
  | exc C ρ' =>
    dsimp only
    split
    · unfold onx
      rfl
    · rfl
  | ok f ρ' => rfl
  | bad => rfl
@[simp] theorem u_kndE {cs : List Str} {C : Str} : kndE cs C = if C ∈ cs then M.ret (.d (.str (C ++ "+"))) else M.bad := rfl
@[simp] theorem u_srtKE {a : M Pl} : srtKE a = M.bind a fun p => M.bind (vw p) fun x => M.of (W.srtKey x) := rfl
@[simp] theorem u_srtSetE {a : M Pl} : srtSetE a = M.bind a fun p => M.bind (vw p) fun x => M.of (W.srtSet x) := rfl
end Pf

-- PfVal
/-! Pf: the operators at values of known kinds. -/
namespace Pf
open PySem
section
variable {i j : Int} {x y : Str} {xs ys : List W} {a b : W} {p q : Bool} {ns : List Int}
@[simp] theorem add_ii : W.add (.int i) (.int j) = some (.d (.int (i + j))) := rfl
@[simp] theorem add_ss : W.add (.str x) (.str y) = if x.length + y.length ≤ sizeLine then some (.d (.str (x ++ y))) else none := rfl
@[simp] theorem add_ll : W.add (.lst xs) (.lst ys) = if xs.length + ys.length ≤ sizeLine then some (.o (.lst (xs ++ ys))) else none := rfl
@[simp] theorem add_tt : W.add (.tup xs) (.tup ys) = if xs.length + ys.length ≤ sizeLine then some (.d (.tup (xs ++ ys))) else none := rfl
@[simp] theorem sub_ii : W.sub (.int i) (.int j) = some (.d (.int (i - j))) := rfl
@[simp] theorem mul_ii : W.mul (.int i) (.int j) = if mulOk i j then some (.d (.int (i * j))) else none := rfl
@[simp] theorem mul_li : W.mul (.lst xs) (.int j) = if 0 ≤ j ∧ j < 2 ^ 62 ∧ xs.length * j.toNat ≤ sizeLine then some (.o (.lst (List.replicate j.toNat xs).flatten)) else none := rfl
@[simp] theorem mul_si : W.mul (.str x) (.int j) = if 0 ≤ j ∧ j < 1000000 ∧ x.length * j.toNat ≤ 10000000 ∧ (strRep x j).length ≤ 10000000 then some (.d (.str (strRep x j))) else none := rfl
@[simp] theorem fdiv_ii : W.fdiv (.int i) (.int j) = if 0 < j ∧ j.natAbs.log2 < 9000 then some (.d (.int (i / j))) else none := rfl
@[simp] theorem mod_ii : W.mod (.int i) (.int j) = if 0 < j then some (.d (.int (i % j))) else none := rfl
@[simp] theorem pow_ii : W.pow (.int i) (.int j) = if 0 ≤ j ∧ j ≤ 1000000 ∧ i.natAbs < 2 ^ 64 then some (.d (.int (i ^ j.toNat))) else none := rfl
@[simp] theorem cmp_Eq : W.cmp .Eq a b = W.isEq a b := rfl
@[simp] theorem cmp_Ne : W.cmp .NotEq a b = (W.isEq a b).map (!·) := rfl
@[simp] theorem cmp_Lt : W.cmp .Lt a b = W.lt a b := rfl
@[simp] theorem cmp_Le : W.cmp .LtE a b = W.le a b := rfl
@[simp] theorem cmp_Gt : W.cmp .Gt a b = W.lt b a := rfl
@[simp] theorem cmp_Ge : W.cmp .GtE a b = W.le b a := rfl
@[simp] theorem cmp_In : W.cmp .In a b = W.isIn a b := rfl
@[simp] theorem cmp_Ni : W.cmp .NotIn a b = (W.isIn a b).map (!·) := rfl
@[simp] theorem cmp_Is : W.cmp .Is a .non = some a.isNon := rfl
@[simp] theorem cmp_Isn : W.cmp .IsNot a .non = some (!a.isNon) := rfl
@[simp] theorem lt_ii : W.lt (.int i) (.int j) = some (decide (i < j)) := rfl
@[simp] theorem lt_ss : W.lt (.str x) (.str y) = some (decide (x.cps.toList < y.cps.toList)) := rfl
@[simp] theorem le_ii : W.le (.int i) (.int j) = some (decide (i ≤ j)) := rfl
@[simp] theorem isNon_n : W.isNon .non = true := rfl
@[simp] theorem isNon_i : W.isNon (.int i) = false := rfl
@[simp] theorem isNon_s : W.isNon (.str x) = false := rfl
@[simp] theorem isNon_b : W.isNon (.bl p) = false := rfl
@[simp] theorem isNon_t : W.isNon (.tup xs) = false := rfl
@[simp] theorem isNon_l : W.isNon (.lst xs) = false := rfl
@[simp] theorem isEq_ii : W.isEq (.int i) (.int j) = some (decide (i = j)) := by
  have e : W.isEq (.int i) (.int j) = some (i == j) := rfl
  rw [e]
  congr 1
@[simp] theorem isEq_bb : W.isEq (.bl p) (.bl q) = some (p == q) := rfl
@[simp] theorem tru_n : W.tru .non = some false := rfl
@[simp] theorem tru_b : W.tru (.bl p) = some p := rfl
@[simp] theorem tru_i : W.tru (.int i) = some (i != 0) := rfl
@[simp] theorem tru_s : W.tru (.str x) = if x.length ≤ sizeLine then some (x.length != 0) else none := rfl
@[simp] theorem tru_t : W.tru (.tup xs) = some (!xs.isEmpty) := rfl
@[simp] theorem tru_l : W.tru (.lst xs) = some (!xs.isEmpty) := rfl
@[simp] theorem itemW_t : itemW (.tup xs) (.int i) = ((ixOf xs.length i).bind fun j => xs[j]?).map .d := rfl
@[simp] theorem itemW_l : itemW (.lst xs) (.int i) = ((ixOf xs.length i).bind fun j => xs[j]?).map .d := rfl
@[simp] theorem itemW_c : itemW (.scr ns) (.int i) = (((ixOf ns.length i).bind fun j => ns[j]?).map W.int).map .d := rfl
theorem itemW_s : itemW (.str x) (.int i) = (if x.length ≤ sizeLine then ((ixOf x.cps.toList.length i).bind fun j => x.cps.toList[j]?).map fun c => W.str ⟨#[c]⟩ else none).map .d := rfl
@[simp] theorem itemW_d {t : Bool} {kvs : List (W × W)} {k : W} : itemW (.dct t kvs) k = (if W.keyOk t k then valW kvs k else none).map .d := by
  unfold itemW
  cases k <;> rfl
@[simp] theorem isIn_d {t : Bool} {kvs : List (W × W)} {k : W} : W.isIn k (.dct t kvs) = if W.keyOk t k then some (valW kvs k).isSome else none := by
  cases k <;> rfl
@[simp] theorem len_d {t : Bool} {kvs : List (W × W)} : W.len (.dct t kvs) = some kvs.length := rfl
@[simp] theorem slice_t {lo hi : Option Int} : W.slice (.tup xs) lo hi = some (.d (.tup (cutL xs lo hi))) := rfl
@[simp] theorem slice_l {lo hi : Option Int} : W.slice (.lst xs) lo hi = some (.o (.lst (cutL xs lo hi))) := rfl
@[simp] theorem slice_s {lo hi : Option Int} : W.slice (.str x) lo hi = if x.length ≤ sizeLine then some (.d (.str (L2.cutS x lo hi))) else none := rfl
@[simp] theorem negW_i : negW (.int i) = some (.d (.int (-i))) := rfl
@[simp] theorem revW_l : revW (.lst xs) = some (.o (.lst xs.reverse)) := rfl
@[simp] theorem aug_add : augW .Add (.int i) (.int j) = some (.int (i + j)) := rfl
@[simp] theorem aug_sub : augW .Sub (.int i) (.int j) = some (.int (i - j)) := rfl
@[simp] theorem aug_ss : augW .Add (.str x) (.str y) = if x.length + y.length ≤ sizeLine then some (.str (x ++ y)) else none := rfl
@[simp] theorem call_inst : W.call "isinstance" [a, b] = (W.isInst a b).map fun b => .d (.bl b) := rfl
@[simp] theorem call_len_t : W.call "len" [.tup xs] = some (.d (.int xs.length)) := rfl
@[simp] theorem call_len_l : W.call "len" [.lst xs] = some (.d (.int xs.length)) := rfl
@[simp] theorem call_len_c : W.call "len" [.scr ns] = some (.d (.int ns.length)) := rfl
@[simp] theorem call_len_s : W.call "len" [.str x] = (if x.length ≤ sizeLine then some x.length else none).map fun (n : Nat) => .d (.int n) := rfl
@[simp] theorem call_all : W.call "all" [.lst xs] = (bools xs).map fun bs => .d (.bl (bs.all id)) := rfl
@[simp] theorem call_any : W.call "any" [.lst xs] = (bools xs).map fun bs => .d (.bl (bs.any id)) := rfl
@[simp] theorem call_int_i : W.call "int" [.int i] = some (.d (.int i)) := rfl
@[simp] theorem call_int_b : W.call "int" [.bl p] = some (.d (.int (if p then 1 else 0))) := rfl
@[simp] theorem call_max : W.call "max" [.int i, .int j] = some (.d (.int (if j > i then j else i))) := rfl
@[simp] theorem call_min : W.call "min" [.int i, .int j] = some (.d (.int (if j < i then j else i))) := rfl
@[simp] theorem call_list_l : W.call "list" [.lst xs] = some (.o (.lst xs)) := rfl
@[simp] theorem call_list_t : W.call "list" [.tup xs] = some (.o (.lst xs)) := rfl
@[simp] theorem call_tuple_l : W.call "tuple" [.lst xs] = some (.d (.tup xs)) := rfl
@[simp] theorem call_tuple_t : W.call "tuple" [.tup xs] = some (.d (.tup xs)) := rfl
@[simp] theorem meth_join : W.meth (.str x) "join" [.lst xs] = (strsOf xs).bind fun ys => if joinLen x ys ≤ 16777216 then some (.d (.str (Txt.join x ys))) else none := rfl
@[simp] theorem meth_split : W.meth (.str x) "split" [.str y] = if y.length ≠ 0 ∧ x.length + 2 ≤ sizeLine then some (.o (.lst ((Txt.split x y).map W.str))) else none := rfl
@[simp] theorem meth_count : W.meth (.str x) "count" [.str y] = some (.d (.int (Txt.count x y))) := rfl
@[simp] theorem call_int_s : W.call "int" [.str x] = if x.length ≤ 640 then (PySem.intText? x).map fun n => .d (.int n) else none := rfl
@[simp] theorem call_max_l : W.call "max" [.lst xs] = (intsOf xs).bind fun ns => (maxOf ns).map fun m => .d (.int m) := rfl
@[simp] theorem call_min_l : W.call "min" [.lst xs] = (intsOf xs).bind fun ns => (minOf ns).map fun m => .d (.int m) := rfl
@[simp] theorem inst_int_i : W.isInst (.int i) (.ty "int") = some true := rfl
@[simp] theorem inst_int_b : W.isInst (.bl p) (.ty "int") = some true := rfl
@[simp] theorem inst_int_s : W.isInst (.str x) (.ty "int") = some false := rfl
@[simp] theorem inst_int_n : W.isInst .non (.ty "int") = some false := rfl
@[simp] theorem inst_int_t : W.isInst (.tup xs) (.ty "int") = some false := rfl
@[simp] theorem inst_int_l : W.isInst (.lst xs) (.ty "int") = some false := rfl
@[simp] theorem inst_bool_i : W.isInst (.int i) (.ty "bool") = some false := rfl
@[simp] theorem inst_bool_b : W.isInst (.bl p) (.ty "bool") = some true := rfl
@[simp] theorem inst_bool_s : W.isInst (.str x) (.ty "bool") = some false := rfl
@[simp] theorem inst_bool_n : W.isInst .non (.ty "bool") = some false := rfl
@[simp] theorem inst_bool_t : W.isInst (.tup xs) (.ty "bool") = some false := rfl
@[simp] theorem inst_bool_l : W.isInst (.lst xs) (.ty "bool") = some false := rfl
@[simp] theorem inst_str_i : W.isInst (.int i) (.ty "str") = some false := rfl
@[simp] theorem inst_str_b : W.isInst (.bl p) (.ty "str") = some false := rfl
@[simp] theorem inst_str_s : W.isInst (.str x) (.ty "str") = some true := rfl
@[simp] theorem inst_str_n : W.isInst .non (.ty "str") = some false := rfl
@[simp] theorem inst_str_t : W.isInst (.tup xs) (.ty "str") = some false := rfl
@[simp] theorem inst_str_l : W.isInst (.lst xs) (.ty "str") = some false := rfl
@[simp] theorem inst_tuple_i : W.isInst (.int i) (.ty "tuple") = some false := rfl
@[simp] theorem inst_tuple_b : W.isInst (.bl p) (.ty "tuple") = some false := rfl
@[simp] theorem inst_tuple_s : W.isInst (.str x) (.ty "tuple") = some false := rfl
@[simp] theorem inst_tuple_n : W.isInst .non (.ty "tuple") = some false := rfl
@[simp] theorem inst_tuple_t : W.isInst (.tup xs) (.ty "tuple") = some true := rfl
@[simp] theorem inst_tuple_l : W.isInst (.lst xs) (.ty "tuple") = some false := rfl
@[simp] theorem inst_list_i : W.isInst (.int i) (.ty "list") = some false := rfl
@[simp] theorem inst_list_b : W.isInst (.bl p) (.ty "list") = some false := rfl
@[simp] theorem inst_list_s : W.isInst (.str x) (.ty "list") = some false := rfl
@[simp] theorem inst_list_n : W.isInst .non (.ty "list") = some false := rfl
@[simp] theorem inst_list_t : W.isInst (.tup xs) (.ty "list") = some false := rfl
@[simp] theorem inst_list_l : W.isInst (.lst xs) (.ty "list") = some true := rfl
@[simp] theorem inst_lt_i : W.isInst (.int i) (.tup [.ty "list", .ty "tuple"]) = some false := rfl
@[simp] theorem inst_lt_b : W.isInst (.bl p) (.tup [.ty "list", .ty "tuple"]) = some false := rfl
@[simp] theorem inst_lt_s : W.isInst (.str x) (.tup [.ty "list", .ty "tuple"]) = some false := rfl
@[simp] theorem inst_lt_n : W.isInst .non (.tup [.ty "list", .ty "tuple"]) = some false := rfl
@[simp] theorem inst_lt_t : W.isInst (.tup xs) (.tup [.ty "list", .ty "tuple"]) = some true := rfl
@[simp] theorem inst_lt_l : W.isInst (.lst xs) (.tup [.ty "list", .ty "tuple"]) = some true := rfl
end
theorem log2_lt {n k : Nat} (h : n < 2 ^ k) : n.log2 ≤ k := by
  by_cases h0 : n = 0
  · subst h0; exact Nat.le_trans (by decide : Nat.log2 0 ≤ 0) (Nat.zero_le k)
  · exact Nat.le_of_lt ((Nat.log2_lt h0).mpr h)
theorem mulOk_of {i j : Int} (m n : Nat) (h1 : i.natAbs < 2 ^ m) (h2 : j.natAbs < 2 ^ n) (h : m + n < 1000000) : mulOk i j = true := by
  unfold mulOk
  have := log2_lt h1
  have := log2_lt h2
  exact decide_eq_true (by omega)
theorem lg_of {j : Int} (m : Nat) (h1 : j.natAbs < 2 ^ m) (h : m < 9000) : j.natAbs.log2 < 9000 := by
  have := log2_lt h1
  omega
@[simp] theorem lg2 : Nat.log2 2 < 9000 := lg_of (j := 2) 10 (by decide) (by decide)
@[simp] theorem lg8 : Nat.log2 8 < 9000 := lg_of (j := 8) 10 (by decide) (by decide)
@[simp] theorem lg128 : Nat.log2 128 < 9000 := lg_of (j := 128) 10 (by decide) (by decide)
@[simp] theorem ix0 {n : Nat} : ixOf (n + 1) 0 = some 0 := by unfold ixOf; rw [if_pos (by decide), if_pos (by omega)]; rfl
theorem ixOf_lt {n : Nat} {i : Int} (h0 : 0 ≤ i) (h : i < n) : ixOf n i = some i.toNat := by unfold ixOf; rw [if_pos h0, if_pos h]
variable {α : Type} {ρ ρ1 : Env} {lk is : List Nat} {it : M (List W × List (Nat × W))} {tg : W → M Unit} {body : M Fl} {test : M Bool} {elt : M W} {xs : List W} {gs : List (Nat × W)}
theorem forS_ok (hit : it ρ = .ok (xs, gs) ρ1) (hlk : ∀ g ∈ gs, g.1 ∈ lk) (I : List W → Env → Prop) (R : Fl → Env → Prop) (X : Str → Env → Prop)
    (hs : ∀ pre w post ρ, xs = pre ++ w :: post → I pre ρ → (∀ g ∈ gs, still ρ g) ∧ ((∃ ρ', obind (tg w ρ) (fun _ => body) = .ok .nx ρ' ∧ I (pre ++ [w]) ρ') ∨ (∃ ρ', obind (tg w ρ) (fun _ => body) = .ok .ct ρ' ∧ I (pre ++ [w]) ρ') ∨
      (∃ ρ', obind (tg w ρ) (fun _ => body) = .ok .bk ρ' ∧ R .nx ρ') ∨ (∃ s ρ', obind (tg w ρ) (fun _ => body) = .ok (.rt s) ρ' ∧ R (.rt s) ρ') ∨ ∃ C ρ', obind (tg w ρ) (fun _ => body) = .exc C ρ' ∧ X C ρ'))
    (he : ∀ ρ, I xs ρ → ∀ g ∈ gs, still ρ g) (h0 : I [] ρ1) :
    (∃ ρ', forS lk it tg body ρ = .ok .nx ρ' ∧ I xs ρ') ∨ (∃ f ρ', forS lk it tg body ρ = .ok f ρ' ∧ R f ρ') ∨ ∃ C ρ', forS lk it tg body ρ = .exc C ρ' ∧ X C ρ' := by
  have e : forS lk it tg body ρ = forL gs tg body xs ρ1 := by
    rw [u_forS, r_bind, hit, obind_ok, r_bind, r_lockedM, if_pos hlk, obind_ok]
  rw [e]
  exact for_ok I R X hs he h0
theorem forS_all (hit : it ρ = .ok (xs, gs) ρ1) (hlk : ∀ g ∈ gs, g.1 ∈ lk) (I : List W → Env → Prop)
    (hs : ∀ pre w post ρ, xs = pre ++ w :: post → I pre ρ → (∀ g ∈ gs, still ρ g) ∧ ∃ ρ', obind (tg w ρ) (fun _ => body) = .ok .nx ρ' ∧ I (pre ++ [w]) ρ')
    (he : ∀ ρ, I xs ρ → ∀ g ∈ gs, still ρ g) (h0 : I [] ρ1) : ∃ ρ', forS lk it tg body ρ = .ok .nx ρ' ∧ I xs ρ' := by
  have e : forS lk it tg body ρ = forL gs tg body xs ρ1 := by
    rw [u_forS, r_bind, hit, obind_ok, r_bind, r_lockedM, if_pos hlk, obind_ok]
  rw [e]
  exact for_all I hs he h0
/-- over what no slot owns -/
theorem forS_ok0 (hit : it ρ = .ok (xs, []) ρ1) (I : List W → Env → Prop) (R : Fl → Env → Prop) (X : Str → Env → Prop)
    (hs : ∀ pre w post ρ, xs = pre ++ w :: post → I pre ρ → (∃ ρ', obind (tg w ρ) (fun _ => body) = .ok .nx ρ' ∧ I (pre ++ [w]) ρ') ∨ (∃ ρ', obind (tg w ρ) (fun _ => body) = .ok .ct ρ' ∧ I (pre ++ [w]) ρ') ∨
      (∃ ρ', obind (tg w ρ) (fun _ => body) = .ok .bk ρ' ∧ R .nx ρ') ∨ (∃ s ρ', obind (tg w ρ) (fun _ => body) = .ok (.rt s) ρ' ∧ R (.rt s) ρ') ∨ ∃ C ρ', obind (tg w ρ) (fun _ => body) = .exc C ρ' ∧ X C ρ')
    (h0 : I [] ρ1) : (∃ ρ', forS lk it tg body ρ = .ok .nx ρ' ∧ I xs ρ') ∨ (∃ f ρ', forS lk it tg body ρ = .ok f ρ' ∧ R f ρ') ∨ ∃ C ρ', forS lk it tg body ρ = .exc C ρ' ∧ X C ρ' :=
  forS_ok hit (by simp) I R X (fun pre w post ρ e i => ⟨by simp, hs pre w post ρ e i⟩) (fun _ _ => by simp) h0
theorem forS_all0 (hit : it ρ = .ok (xs, []) ρ1) (I : List W → Env → Prop) (hs : ∀ pre w post ρ, xs = pre ++ w :: post → I pre ρ → ∃ ρ', obind (tg w ρ) (fun _ => body) = .ok .nx ρ' ∧ I (pre ++ [w]) ρ')
    (h0 : I [] ρ1) : ∃ ρ', forS lk it tg body ρ = .ok .nx ρ' ∧ I xs ρ' :=
  forS_all hit (by simp) I (fun pre w post ρ e i => ⟨by simp, hs pre w post ρ e i⟩) (fun _ _ => by simp) h0
/-- a comprehension over what no slot owns, without a test -/
theorem lc_all0 (hit : it ρ = .ok (xs, []) ρ1) (hn : noOwn ρ1 is = true) (hsz : xs.length ≤ sizeLine) (I : List W → List W → Env → Prop) (h0 : I [] [] (clear ρ1 is))
    (hs : ∀ pre w post acc ρ, xs = pre ++ w :: post → I pre acc ρ → ∃ y ρ3, obind (tg w ρ) (fun _ => elt) = .ok y ρ3 ∧ I (pre ++ [w]) (acc ++ [y]) (clear ρ3 is)) :
    ∃ acc ρ', lcE is it tg (M.ret true) elt ρ = .ok (.o (.lst acc)) (restore ρ1 ρ' is) ∧ I xs acc ρ' :=
  lc_ok hit hn (by simp) hsz I h0 (fun pre w post acc ρ e i => ⟨by simp, .inl (by
    obtain ⟨y, ρ3, h1, h2⟩ := hs pre w post acc ρ e i
    cases e2 : tg w ρ with
    | ok u ρ2 =>
      rw [e2] at h1
      exact ⟨ρ2, y, ρ3, rfl, h1, h2⟩
    | exc C ρ2 => rw [e2] at h1; cases h1
    | bad => rw [e2] at h1; cases h1)⟩) (fun _ _ _ => by simp)
/-- .. with a test -/
theorem lc_if0 (hit : it ρ = .ok (xs, []) ρ1) (hn : noOwn ρ1 is = true) (hsz : xs.length ≤ sizeLine) (I : List W → List W → Env → Prop) (h0 : I [] [] (clear ρ1 is))
    (hs : ∀ pre w post acc ρ, xs = pre ++ w :: post → I pre acc ρ → (∃ ρ2 y ρ3, obind (tg w ρ) (fun _ => test) = .ok true ρ2 ∧ elt ρ2 = .ok y ρ3 ∧ I (pre ++ [w]) (acc ++ [y]) (clear ρ3 is)) ∨
      ∃ ρ2, obind (tg w ρ) (fun _ => test) = .ok false ρ2 ∧ I (pre ++ [w]) acc (clear ρ2 is)) :
    ∃ acc ρ', lcE is it tg test elt ρ = .ok (.o (.lst acc)) (restore ρ1 ρ' is) ∧ I xs acc ρ' :=
  lc_ok hit hn (by simp) hsz I h0 (fun pre w post acc ρ e i => ⟨by simp, hs pre w post acc ρ e i⟩) (fun _ _ _ => by simp)
/-! ### enumerate -/
def enumM (ps : List Pl) (ws : List W) : M (List W × List (Nat × W)) := fun ρ => match ps, ws with
  | [p], [.lst xs] => .ok (enumL xs, gdOf ρ p) ρ
  | [_], [.str z] => .ok (enumL (z.cps.toList.map fun c => .str ⟨#[c]⟩), []) ρ
  | _, _ => .bad
@[simp] theorem enumM_s {p : Pl} {z : Str} {ρ : Env} : enumM [p] [.str z] ρ = .ok (enumL (z.cps.toList.map fun c => .str ⟨#[c]⟩), []) ρ := rfl
@[simp] theorem enumM_l {p : Pl} {xs : List W} {ρ : Env} : enumM [p] [.lst xs] ρ = .ok (enumL xs, gdOf ρ p) ρ := rfl
@[simp] theorem u_itEnum {m : M (List Pl)} : itEnum m = M.bind m fun ps => M.bind (vwL ps) fun ws => enumM ps ws := rfl
end Pf

-- PfKnd
set_option maxHeartbeats 4000000
/-! Pf: the def that tells the kind of what is handled. -/
namespace P
open PySem Pf
abbrev kcs : List Str := ["NoBase", "NoChange", "NoChanges", "NoLists", "NoName", "NoNumber", "NoPieces", "NoRow", "NoSpans", "NoText", "NothingLeft", "TooMany", "Twice"]
def isE (cT : Str → Option Bool) (c : Str) : M Sl := match cT c with
  | some b => cst (.bl b)
  | none => M.bad
def k0 : M Fl := actS (setS 1 [] 2 (binE (W.bin .Add) (plName 2) (plE (lstE (evS [dat (cst (.str "NoSpans")), dat (cst (.str "NoText")), dat (cst (.str "NothingLeft")), dat (cst (.str "TooMany")), dat (cst (.str "Twice")), dat (cst (.str "+"))])))))
noncomputable def kl : M Sl := lcE [3, 4] (itZip (plS [plName 2, plName 1])) (tgPair [tgName 1 [] 3, tgName 1 [] 4]) (truE (plName 4)) (dat (nameE 3))
noncomputable def kindB (cT : Str → Option Bool) : M Fl := blkS [
  actS (setS 1 [] 1 (lstE (evS [dat (isE cT "NoBase"), dat (isE cT "NoChange"), dat (isE cT "NoChanges"), dat (isE cT "NoLists")]))),
  actS (setS 1 [] 1 (binE (W.bin .Add) (plName 1) (plE (lstE (evS [dat (isE cT "NoName"), dat (isE cT "NoNumber"), dat (isE cT "NoPieces"), dat (isE cT "NoRow")]))))),
  actS (setS 1 [] 1 (binE (W.bin .Add) (plName 1) (plE (lstE (evS [dat (isE cT "NoSpans"), dat (isE cT "NoText"), dat (isE cT "NothingLeft"), dat (isE cT "TooMany")]))))),
  actS (setS 1 [] 1 (binE (W.bin .Add) (plName 1) (plE (lstE (evS [dat (isE cT "Twice")]))))),
  dropS (appE 1 (dat (isE cT "ValueError"))),
  actS (setS 1 [] 2 (lstE (evS [dat (cst (.str "NoBase")), dat (cst (.str "NoChange")), dat (cst (.str "NoChanges")), dat (cst (.str "NoLists")), dat (cst (.str "NoName")), dat (cst (.str "NoNumber")), dat (cst (.str "NoPieces")), dat (cst (.str "NoRow"))]))),
  k0,
  retS (methE (plE (cst (.str ""))) "join" (plS [plE kl]))]
def sel (ws : List Str) (bs : List Bool) : List Pf.W := ((ws.zip bs).filter (·.2)).map fun z => .str z.1
theorem kl_run (ws : List Str) (bs : List Bool) (h : ws.length ≤ sizeLine) :
    kl [.e, .o (.lst (bs.map Pf.W.bl)), .o (.lst (ws.map Pf.W.str)), .e, .e] = .ok (.o (.lst (sel ws bs))) [.e, .o (.lst (bs.map Pf.W.bl)), .o (.lst (ws.map Pf.W.str)), .e, .e] := by
  obtain ⟨acc, ρ', h1, h2, h3⟩ := lc_ok (is := [3, 4]) (it := itZip (plS [plName 2, plName 1])) (tg := tgPair [tgName 1 [] 3, tgName 1 [] 4]) (test := truE (plName 4)) (elt := dat (nameE 3))
    (xs := (ws.zip bs).map fun z => .tup [.str z.1, .bl z.2]) (gs := [(2, .lst (ws.map Pf.W.str)), (1, .lst (bs.map Pf.W.bl))])
    (ρ := [.e, .o (.lst (bs.map Pf.W.bl)), .o (.lst (ws.map Pf.W.str)), .e, .e]) (ρ1 := [.e, .o (.lst (bs.map Pf.W.bl)), .o (.lst (ws.map Pf.W.str)), .e, .e])
    (by simp [List.zip_map, Function.comp_def]) (by rfl) (by simp) (by simp; omega)
    (fun pre acc ρ => ρ = [.e, .o (.lst (bs.map Pf.W.bl)), .o (.lst (ws.map Pf.W.str)), .e, .e] ∧ ∃ qs, pre = qs.map (fun z : Str × Bool => .tup [.str z.1, .bl z.2]) ∧ acc = (qs.filter (·.2)).map fun z => .str z.1)
    ⟨rfl, [], rfl, rfl⟩ (by
      rintro pre w post acc ρ e ⟨rfl, qs, rfl, rfl⟩
      refine ⟨by simp [still], ?_⟩
      obtain ⟨x, b, rfl⟩ : ∃ x b, w = .tup [.str x, .bl b] := by
        have : w ∈ (ws.zip bs).map fun z => Pf.W.tup [.str z.1, .bl z.2] := by rw [e]; simp
        obtain ⟨z, _, rfl⟩ := List.mem_map.mp this
        exact ⟨_, _, rfl⟩
      cases b with
      | true => exact .inl ⟨[.e, .o (.lst (bs.map Pf.W.bl)), .o (.lst (ws.map Pf.W.str)), .d (.str x), .d (.bl true)], .str x, [.e, .o (.lst (bs.map Pf.W.bl)), .o (.lst (ws.map Pf.W.str)), .d (.str x), .d (.bl true)], by simp [tgPair], by simp, rfl, qs ++ [(x, true)], by simp, by simp⟩
      | false => exact .inr ⟨[.e, .o (.lst (bs.map Pf.W.bl)), .o (.lst (ws.map Pf.W.str)), .d (.str x), .d (.bl false)], by simp [tgPair], rfl, qs ++ [(x, false)], by simp, by simp⟩)
    (by rintro acc ρ ⟨rfl, _⟩; simp [still])
  subst h2
  obtain ⟨qs, h4, rfl⟩ := h3
  have e : qs = ws.zip bs := by
    have inj : ∀ (a b : List (Str × Bool)), a.map (fun z => Pf.W.tup [.str z.1, .bl z.2]) = b.map (fun z => Pf.W.tup [.str z.1, .bl z.2]) → a = b := fun a b h => List.map_inj_right (fun x y h => by simpa [Prod.ext_iff] using h) |>.mp h
    exact (inj _ _ h4).symm
  subst e
  unfold kl
  rw [h1]
  rfl
theorem kind_run (cT : Str → Option Bool) (b : Str → Bool) (hb : ∀ c ∈ kcs ++ [("ValueError" : Str)], cT c = some (b c)) :
    kindB cT [.e, .e, .e, .e, .e] = oseq (obind (oof (W.meth (.str "") "join" [.lst (sel (kcs ++ [("+" : Str)]) ((kcs ++ [("ValueError" : Str)]).map b))]) ([.e, .o (.lst (((kcs ++ [("ValueError" : Str)]).map b).map Pf.W.bl)), .o (.lst ((kcs ++ [("+" : Str)]).map Pf.W.str)), .e, .e])) fun s => M.ret (.rt s)) nxS := by
  have e : ∀ c ∈ kcs ++ [("ValueError" : Str)], isE cT c = M.ret (.d (.bl (b c))) := fun c hc => by unfold isE; rw [hb c hc]; rfl
  simp only [kcs, List.cons_append, List.nil_append, List.forall_mem_cons] at e
  obtain ⟨e0, e1, e2, e3, e4, e5, e6, e7, e8, e9, e10, e11, e12, e13, _⟩ := e
  have kr := kl_run (kcs ++ [("+" : Str)]) ((kcs ++ [("ValueError" : Str)]).map b) (by decide)
  simp only [kcs, List.cons_append, List.nil_append, List.map_cons, List.map_nil] at kr ⊢
  unfold kindB k0
  simp [e0, e1, e2, e3, e4, e5, e6, e7, e8, e9, e10, e11, e12, e13, W.bin, kr, sizeLine]
theorem knd_ok {N : List Str} {sc : Scope} {body : List Stmt} (h : (N.length, fun cT => blkS (body.map (hS ⟨[], N, 1, [], fun _ _ => .bad, ""⟩ sc cT))) = (5, kindB)) :
    ∀ C ∈ kcs, hotRun N sc (kT kcs C) body = some (.str (C ++ "+")) := by
  have h1 : N.length = 5 := congrArg (·.1) h
  have h2 : ∀ cT, blkS (body.map (hS ⟨[], N, 1, [], fun _ _ => .bad, ""⟩ sc cT)) = kindB cT := fun cT => congrFun (congrArg (·.2) h) cT
  have key : ∀ C ∈ kcs, kindB (kT kcs C) [.e, .e, .e, .e, .e] = .ok (.rt (.d (.str (C ++ "+")))) ([.e, .o (.lst (((kcs ++ [("ValueError" : Str)]).map fun x => decide (C = x) || decide (x = ("ValueError" : Str))).map Pf.W.bl)), .o (.lst ((kcs ++ [("+" : Str)]).map Pf.W.str)), .e, .e]) := by
    intro C hC
    rw [kind_run (kT kcs C) (fun x => decide (C = x) || decide (x = ("ValueError" : Str))) (fun c hc => ?_)]
    · have : W.meth (.str "") "join" [.lst (sel (kcs ++ [("+" : Str)]) ((kcs ++ [("ValueError" : Str)]).map fun x => decide (C = x) || decide (x = ("ValueError" : Str))))] = some (.d (.str (C ++ "+"))) := by
        have hm : C = "NoBase" ∨ C = "NoChange" ∨ C = "NoChanges" ∨ C = "NoLists" ∨ C = "NoName" ∨ C = "NoNumber" ∨ C = "NoPieces" ∨ C = "NoRow" ∨ C = "NoSpans" ∨ C = "NoText" ∨ C = "NothingLeft" ∨ C = "TooMany" ∨ C = "Twice" := by simpa [kcs] using hC
        rcases hm with rfl | rfl | rfl | rfl | rfl | rfl | rfl | rfl | rfl | rfl | rfl | rfl | rfl <;> kernel_rfl
      rw [this]
      rfl
    · have all : ∀ C ∈ kcs, ∀ c ∈ kcs ++ [("ValueError" : Str)], kT kcs C c = some (decide (C = c) || decide (c = ("ValueError" : Str))) := by decide +kernel
      exact all C hC c hc
  intro C hC
  unfold hotRun
  rw [h1, h2, show List.replicate 5 Sl.e = [.e, .e, .e, .e, .e] from rfl, key C hC]
end P

-- K71Tab
set_option maxHeartbeats 0
namespace K71
open PySem PySem.Spec PyProof.Rows L2 Pf
def top (i : Nat) : Stmt := PySem.Challenge.pw_partsfrom_k71_texts_of_wheres.main.body.getD i (.Pass ⟨0, 0, 0, 0⟩)
def r_is_whole : DRow := ⟨top 16, ["thing"], ["thing"]⟩
def r_is_span : DRow := ⟨top 17, ["thing"], ["thing"]⟩
def r_is_name : DRow := ⟨top 20, ["thing", "sign"], ["thing"]⟩
def r_is_count : DRow := ⟨top 21, ["thing", "least"], ["thing", "least"]⟩
def r_is_plain : DRow := ⟨top 24, ["thing"], ["thing"]⟩
def r_is_within : DRow := ⟨top 25, ["thing", "deep"], ["thing", "deep"]⟩
def r_is_where : DRow := ⟨top 26, ["thing"], ["thing"]⟩
def r_number_in : DRow := ⟨top 30, ["word", "sign"], ["word"]⟩
def r_span_text : DRow := ⟨top 31, ["first", "last"], ["first", "last"]⟩
def r_where_text : DRow := ⟨top 32, ["where", "sign", "part"], ["where"]⟩
def r_plain_in : DRow := ⟨top 33, ["text", "words", "ends", "last"], ["text"]⟩
def r_parted : DRow := ⟨top 34, ["text", "deep", "at", "sign"], ["text"]⟩
def r_where_in : DRow := ⟨top 35, ["text", "deep", "at", "word"], ["text", "deep"]⟩
def r_read_where : DRow := ⟨top 36, ["text", "where"], ["text"]⟩
def r__law_draw : DRow := ⟨top 38, ["draws", "many", "found", "wide"], ["draws", "many"]⟩
def r__law_number : DRow := ⟨top 39, ["draws", "far", "some"], ["draws", "far"]⟩
def r__law_span : DRow := ⟨top 40, ["draws", "far", "first"], ["draws", "far"]⟩
def r__law_draws : DRow := ⟨top 42, ["script", "k", "cell"], ["script", "k"]⟩
def r__law_name : DRow := ⟨top 43, ["draws", "first", "letters", "k"], ["draws", "first"]⟩
def r__law_any_order : DRow := ⟨top 44, ["draws", "many", "order", "k"], ["draws", "many"]⟩
def r__law_names : DRow := ⟨top 45, ["draws", "many", "k"], ["draws", "many"]⟩
def r__law_where : DRow := ⟨top 46, ["draws", "names", "far", "deep", "way", "one"], ["draws", "names", "far", "deep"]⟩
def r__law_far : DRow := ⟨top 47, ["draws"], ["draws"]⟩
def r__law_span_text : DRow := ⟨top 48, ["first", "last"], ["first", "last"]⟩
def r__law_where_text : DRow := ⟨top 49, ["where", "sign", "part"], ["where"]⟩
def r__law_spoilt : DRow := ⟨top 50, ["text", "draws", "signs", "sign", "at", "way", "words", "other", "some"], ["text", "draws"]⟩
def r__law_number_in : DRow := ⟨top 51, ["word", "sign"], ["word"]⟩
def r__law_begin_in : DRow := ⟨top 52, ["text", "where", "rest", "one", "word", "two", "end", "at", "words", "ends", "last"], ["text"]⟩
def r__law_whole : DRow := ⟨top 53, ["thing"], ["thing"]⟩
def r__law_from : DRow := ⟨top 54, ["thing", "least"], ["thing", "least"]⟩
def r__law_is_name : DRow := ⟨top 55, ["thing", "sign"], ["thing"]⟩
def r__law_is_tuple : DRow := ⟨top 56, ["thing", "long"], ["thing", "long"]⟩
def r__law_is_span : DRow := ⟨top 57, ["thing"], ["thing"]⟩
def r__law_is_where : DRow := ⟨top 58, ["thing", "deep", "word", "part"], ["thing", "deep"]⟩
def r__law_read_where : DRow := ⟨top 59, ["text", "where", "rest"], ["text"]⟩
def r__law_plain_where : DRow := ⟨top 60, ["draws", "names", "far", "way", "first", "many"], ["draws", "names", "far"]⟩
def r__law_told : DRow := ⟨top 61, ["text", "found", "kind", "e"], ["text"]⟩
def r_law : DRow := ⟨top 62, ["script", "k", "draws", "names", "where", "text", "turn", "due", "odds", "thing"], ["script"]⟩
def r__law_kind_of : DRow := ⟨top 41, ["e", "some", "words", "word", "one"], ["e"]⟩
def defs : List (Str × DRow) := ([("is_whole", r_is_whole), ("is_span", r_is_span), ("is_name", r_is_name), ("is_count", r_is_count), ("is_plain", r_is_plain), ("is_within", r_is_within), ("is_where", r_is_where), ("number_in", r_number_in), ("span_text", r_span_text), ("where_text", r_where_text), ("plain_in", r_plain_in), ("parted", r_parted), ("where_in", r_where_in), ("read_where", r_read_where), ("_law_draw", r__law_draw), ("_law_number", r__law_number), ("_law_span", r__law_span), ("_law_draws", r__law_draws), ("_law_name", r__law_name), ("_law_any_order", r__law_any_order), ("_law_names", r__law_names), ("_law_where", r__law_where), ("_law_far", r__law_far), ("_law_span_text", r__law_span_text), ("_law_where_text", r__law_where_text), ("_law_spoilt", r__law_spoilt), ("_law_number_in", r__law_number_in), ("_law_begin_in", r__law_begin_in), ("_law_whole", r__law_whole), ("_law_from", r__law_from)] : List (Str × DRow)) ++ ([("_law_is_name", r__law_is_name), ("_law_is_tuple", r__law_is_tuple), ("_law_is_span", r__law_is_span), ("_law_is_where", r__law_is_where), ("_law_read_where", r__law_read_where), ("_law_plain_where", r__law_plain_where), ("_law_told", r__law_told), ("law", r_law)] : List (Str × DRow))
def cls : List Str := ["PartsError", "NoSpans", "NoBase", "NoNumber", "NoChange", "NoChanges", "NoName", "NoLists", "NoPieces", "Twice", "TooMany", "NothingLeft", "NoText", "NoRow"]
def cons : List (Str × Cn) := [("LETTERS", .str "abcdefghijklmnopqrstuvwxyz"), ("DEEPEST", .int 6), ("FIGURES", .str "0123456789"), ("MOST_FIGURES", .int 60)]
def free : List Str := ["isinstance", "len", "all", "any", "int", "max", "min", "list", "tuple", "sorted", "sum", "str", "bool", "range", "zip", "enumerate", "set", "dict", "ValueError"]
def m : Mo where
  defs := defs
  cls := cls
  cons := cons
  free := free
  keys := []
  kds := [("_law_kind_of", r__law_kind_of)]
  cs := P.kcs
  hnds := [("PartsError", P.kcs)]
abbrev G : List (Str × GK) := m.G
def names : List Str := (["PartsError", "NoSpans", "NoBase", "NoNumber", "NoChange", "NoChanges", "NoName", "NoLists", "NoPieces", "Twice", "TooMany", "NothingLeft", "NoText", "NoRow", "is_whole", "is_span", "LETTERS", "is_name", "is_count", "DEEPEST", "is_plain", "is_within", "is_where", "FIGURES", "MOST_FIGURES", "number_in", "span_text", "where_text", "plain_in", "parted"] : List (Str)) ++ (["where_in", "read_where", "_law_draw", "_law_number", "_law_span", "_law_kind_of", "_law_draws", "_law_name", "_law_any_order", "_law_names", "_law_where", "_law_far", "_law_span_text", "_law_where_text", "_law_spoilt", "_law_number_in", "_law_begin_in", "_law_whole", "_law_from", "_law_is_name", "_law_is_tuple", "_law_is_span", "_law_is_where", "_law_read_where", "_law_plain_where", "_law_told"] : List (Str))
def fa : List He.Fa := m.fa
def fn : List He.DefD := m.fn
theorem ok_is_whole : RowOk ("is_whole", r_is_whole) := ⟨⟨rfl, rfl, rfl, by decide +kernel, rfl, by decide +kernel, by decide +kernel⟩, fun _ _ _ _ _ _ us hl => match us, hl with | [_], _ => rfl⟩
theorem ok_is_span : RowOk ("is_span", r_is_span) := ⟨⟨rfl, rfl, rfl, by decide +kernel, rfl, by decide +kernel, by decide +kernel⟩, fun _ _ _ _ _ _ us hl => match us, hl with | [_], _ => rfl⟩
theorem ok_is_name : RowOk ("is_name", r_is_name) := ⟨⟨rfl, rfl, rfl, by decide +kernel, rfl, by decide +kernel, by decide +kernel⟩, fun _ _ _ _ _ _ us hl => match us, hl with | [_], _ => rfl⟩
theorem ok_is_count : RowOk ("is_count", r_is_count) := ⟨⟨rfl, rfl, rfl, by decide +kernel, rfl, by decide +kernel, by decide +kernel⟩, fun _ _ _ _ _ _ us hl => match us, hl with | [_, _], _ => rfl⟩
theorem ok_is_plain : RowOk ("is_plain", r_is_plain) := ⟨⟨rfl, rfl, rfl, by decide +kernel, rfl, by decide +kernel, by decide +kernel⟩, fun _ _ _ _ _ _ us hl => match us, hl with | [_], _ => rfl⟩
theorem ok_is_within : RowOk ("is_within", r_is_within) := ⟨⟨rfl, rfl, rfl, by decide +kernel, rfl, by decide +kernel, by decide +kernel⟩, fun _ _ _ _ _ _ us hl => match us, hl with | [_, _], _ => rfl⟩
theorem ok_is_where : RowOk ("is_where", r_is_where) := ⟨⟨rfl, rfl, rfl, by decide +kernel, rfl, by decide +kernel, by decide +kernel⟩, fun _ _ _ _ _ _ us hl => match us, hl with | [_], _ => rfl⟩
theorem ok_number_in : RowOk ("number_in", r_number_in) := ⟨⟨rfl, rfl, rfl, by decide +kernel, rfl, by decide +kernel, by decide +kernel⟩, fun _ _ _ _ _ _ us hl => match us, hl with | [_], _ => rfl⟩
theorem ok_span_text : RowOk ("span_text", r_span_text) := ⟨⟨rfl, rfl, rfl, by decide +kernel, rfl, by decide +kernel, by decide +kernel⟩, fun _ _ _ _ _ _ us hl => match us, hl with | [_, _], _ => rfl⟩
theorem ok_where_text : RowOk ("where_text", r_where_text) := ⟨⟨rfl, rfl, rfl, by decide +kernel, rfl, by decide +kernel, by decide +kernel⟩, fun _ _ _ _ _ _ us hl => match us, hl with | [_], _ => rfl⟩
theorem ok_plain_in : RowOk ("plain_in", r_plain_in) := ⟨⟨rfl, rfl, rfl, by decide +kernel, rfl, by decide +kernel, by decide +kernel⟩, fun _ _ _ _ _ _ us hl => match us, hl with | [_], _ => rfl⟩
theorem ok_parted : RowOk ("parted", r_parted) := ⟨⟨rfl, rfl, rfl, by decide +kernel, rfl, by decide +kernel, by decide +kernel⟩, fun _ _ _ _ _ _ us hl => match us, hl with | [_], _ => rfl⟩
theorem ok_where_in : RowOk ("where_in", r_where_in) := ⟨⟨rfl, rfl, rfl, by decide +kernel, rfl, by decide +kernel, by decide +kernel⟩, fun _ _ _ _ _ _ us hl => match us, hl with | [_, _], _ => rfl⟩
theorem ok_read_where : RowOk ("read_where", r_read_where) := ⟨⟨rfl, rfl, rfl, by decide +kernel, rfl, by decide +kernel, by decide +kernel⟩, fun _ _ _ _ _ _ us hl => match us, hl with | [_], _ => rfl⟩
theorem ok__law_draw : RowOk ("_law_draw", r__law_draw) := ⟨⟨rfl, rfl, rfl, by decide +kernel, rfl, by decide +kernel, by decide +kernel⟩, fun _ _ _ _ _ _ us hl => match us, hl with | [_, _], _ => rfl⟩
theorem ok__law_number : RowOk ("_law_number", r__law_number) := ⟨⟨rfl, rfl, rfl, by decide +kernel, rfl, by decide +kernel, by decide +kernel⟩, fun _ _ _ _ _ _ us hl => match us, hl with | [_, _], _ => rfl⟩
theorem ok__law_span : RowOk ("_law_span", r__law_span) := ⟨⟨rfl, rfl, rfl, by decide +kernel, rfl, by decide +kernel, by decide +kernel⟩, fun _ _ _ _ _ _ us hl => match us, hl with | [_, _], _ => rfl⟩
theorem ok__law_draws : RowOk ("_law_draws", r__law_draws) := ⟨⟨rfl, rfl, rfl, by decide +kernel, rfl, by decide +kernel, by decide +kernel⟩, fun _ _ _ _ _ _ us hl => match us, hl with | [_, _], _ => rfl⟩
theorem ok__law_name : RowOk ("_law_name", r__law_name) := ⟨⟨rfl, rfl, rfl, by decide +kernel, rfl, by decide +kernel, by decide +kernel⟩, fun _ _ _ _ _ _ us hl => match us, hl with | [_, _], _ => rfl⟩
theorem ok__law_any_order : RowOk ("_law_any_order", r__law_any_order) := ⟨⟨rfl, rfl, rfl, by decide +kernel, rfl, by decide +kernel, by decide +kernel⟩, fun _ _ _ _ _ _ us hl => match us, hl with | [_, _], _ => rfl⟩
theorem ok__law_names : RowOk ("_law_names", r__law_names) := ⟨⟨rfl, rfl, rfl, by decide +kernel, rfl, by decide +kernel, by decide +kernel⟩, fun _ _ _ _ _ _ us hl => match us, hl with | [_, _], _ => rfl⟩
theorem ok__law_where : RowOk ("_law_where", r__law_where) := ⟨⟨rfl, rfl, rfl, by decide +kernel, rfl, by decide +kernel, by decide +kernel⟩, fun _ _ _ _ _ _ us hl => match us, hl with | [_, _, _, _], _ => rfl⟩
theorem ok__law_far : RowOk ("_law_far", r__law_far) := ⟨⟨rfl, rfl, rfl, by decide +kernel, rfl, by decide +kernel, by decide +kernel⟩, fun _ _ _ _ _ _ us hl => match us, hl with | [_], _ => rfl⟩
theorem ok__law_span_text : RowOk ("_law_span_text", r__law_span_text) := ⟨⟨rfl, rfl, rfl, by decide +kernel, rfl, by decide +kernel, by decide +kernel⟩, fun _ _ _ _ _ _ us hl => match us, hl with | [_, _], _ => rfl⟩
theorem ok__law_where_text : RowOk ("_law_where_text", r__law_where_text) := ⟨⟨rfl, rfl, rfl, by decide +kernel, rfl, by decide +kernel, by decide +kernel⟩, fun _ _ _ _ _ _ us hl => match us, hl with | [_], _ => rfl⟩
theorem ok__law_spoilt : RowOk ("_law_spoilt", r__law_spoilt) := ⟨⟨rfl, rfl, rfl, by decide +kernel, rfl, by decide +kernel, by decide +kernel⟩, fun _ _ _ _ _ _ us hl => match us, hl with | [_, _], _ => rfl⟩
theorem ok__law_number_in : RowOk ("_law_number_in", r__law_number_in) := ⟨⟨rfl, rfl, rfl, by decide +kernel, rfl, by decide +kernel, by decide +kernel⟩, fun _ _ _ _ _ _ us hl => match us, hl with | [_], _ => rfl⟩
theorem ok__law_begin_in : RowOk ("_law_begin_in", r__law_begin_in) := ⟨⟨rfl, rfl, rfl, by decide +kernel, rfl, by decide +kernel, by decide +kernel⟩, fun _ _ _ _ _ _ us hl => match us, hl with | [_], _ => rfl⟩
theorem ok__law_whole : RowOk ("_law_whole", r__law_whole) := ⟨⟨rfl, rfl, rfl, by decide +kernel, rfl, by decide +kernel, by decide +kernel⟩, fun _ _ _ _ _ _ us hl => match us, hl with | [_], _ => rfl⟩
theorem ok__law_from : RowOk ("_law_from", r__law_from) := ⟨⟨rfl, rfl, rfl, by decide +kernel, rfl, by decide +kernel, by decide +kernel⟩, fun _ _ _ _ _ _ us hl => match us, hl with | [_, _], _ => rfl⟩
theorem ok__law_is_name : RowOk ("_law_is_name", r__law_is_name) := ⟨⟨rfl, rfl, rfl, by decide +kernel, rfl, by decide +kernel, by decide +kernel⟩, fun _ _ _ _ _ _ us hl => match us, hl with | [_], _ => rfl⟩
theorem ok__law_is_tuple : RowOk ("_law_is_tuple", r__law_is_tuple) := ⟨⟨rfl, rfl, rfl, by decide +kernel, rfl, by decide +kernel, by decide +kernel⟩, fun _ _ _ _ _ _ us hl => match us, hl with | [_, _], _ => rfl⟩
theorem ok__law_is_span : RowOk ("_law_is_span", r__law_is_span) := ⟨⟨rfl, rfl, rfl, by decide +kernel, rfl, by decide +kernel, by decide +kernel⟩, fun _ _ _ _ _ _ us hl => match us, hl with | [_], _ => rfl⟩
theorem ok__law_is_where : RowOk ("_law_is_where", r__law_is_where) := ⟨⟨rfl, rfl, rfl, by decide +kernel, rfl, by decide +kernel, by decide +kernel⟩, fun _ _ _ _ _ _ us hl => match us, hl with | [_, _], _ => rfl⟩
theorem ok__law_read_where : RowOk ("_law_read_where", r__law_read_where) := ⟨⟨rfl, rfl, rfl, by decide +kernel, rfl, by decide +kernel, by decide +kernel⟩, fun _ _ _ _ _ _ us hl => match us, hl with | [_], _ => rfl⟩
theorem ok__law_plain_where : RowOk ("_law_plain_where", r__law_plain_where) := ⟨⟨rfl, rfl, rfl, by decide +kernel, rfl, by decide +kernel, by decide +kernel⟩, fun _ _ _ _ _ _ us hl => match us, hl with | [_, _, _], _ => rfl⟩
theorem ok__law_told : RowOk ("_law_told", r__law_told) := ⟨⟨rfl, rfl, rfl, by decide +kernel, rfl, by decide +kernel, by decide +kernel⟩, fun _ _ _ _ _ _ us hl => match us, hl with | [_], _ => rfl⟩
theorem ok_law : RowOk ("law", r_law) := ⟨⟨rfl, rfl, rfl, by decide +kernel, rfl, by decide +kernel, by decide +kernel⟩, fun _ _ _ _ _ _ us hl => match us, hl with | [_], _ => rfl⟩
theorem ok__law_kind_of : RowOk ("_law_kind_of", r__law_kind_of) := ⟨⟨rfl, rfl, rfl, by decide +kernel, rfl, by decide +kernel, by decide +kernel⟩, fun _ _ _ _ _ _ us hl => match us, hl with | [_], _ => rfl⟩
theorem rows : ∀ p ∈ m.defs ++ m.kds, RowOk p := by
  unfold m defs
  simp only [List.forall_mem_cons, List.forall_mem_append, List.cons_append, List.nil_append]
  exact ⟨ok_is_whole, ok_is_span, ok_is_name, ok_is_count, ok_is_plain, ok_is_within, ok_is_where, ok_number_in, ok_span_text, ok_where_text, ok_plain_in, ok_parted, ok_where_in, ok_read_where, ok__law_draw, ok__law_number, ok__law_span, ok__law_draws, ok__law_name, ok__law_any_order, ok__law_names, ok__law_where, ok__law_far, ok__law_span_text, ok__law_where_text, ok__law_spoilt, ok__law_number_in, ok__law_begin_in, ok__law_whole, ok__law_from, ok__law_is_name, ok__law_is_tuple, ok__law_is_span, ok__law_is_where, ok__law_read_where, ok__law_plain_where, ok__law_told, ok_law, ok__law_kind_of, by simp⟩
abbrev R : PySem.W.OpenRow := PySem.W.OpenLaw.row PySem.Challenge.rw_partsfrom_k71_texts_of_wheres
abbrev hk : PySem.W.Hook := He.hookX 4 fa fn [] [] m.ex
def ob (s : PySem.W.SharedT) : He.AlX := He.obsX 4 fa fn [] [] m.ex (HandSHeadRun.getT s)
theorem ob_eq (s : PySem.W.SharedT) : ob s = hk.obs s.abs := He.obsX_eq (HandSHeadRun.getT_eq s)
theorem run (w : World) : HandSHeadRun.RunEq R (PySem.W.view R.prog [62]) hk ob 40000 names w := by
  intro os
  kernel_rfl
theorem frees : bltNames.all (fun x => decide (x ∈ m.free) || (m.G.lookup x).isSome) = true := by decide +kernel
theorem firsts : ∀ y ∈ m.keys, ∃ d, (y, d) ∈ m.defs ∧ isFirstD d.st d.ps = true := fun y hy => by cases hy
theorem knds : m.kds = [] ∨ (("ValueError" : Str) ∈ m.free ∧ ("isinstance" : Str) ∈ m.free ∧ ("zip" : Str) ∈ m.free ∧ ∀ C ∈ m.cs, C ∈ m.cls) := .inr (by decide +kernel)
theorem hcls : ∀ p ∈ m.hnds, p.1 ∈ m.cls ∧ ∀ C ∈ p.2, C ∈ m.cls := by decide +kernel
theorem kd : ∀ p ∈ m.kds, (∃ x, p.2.ps = [x]) ∧ ∀ C ∈ m.cs, hotRun p.2.N (defScope p.2.st) (kT m.cs C) (defBody p.2.st) = some (.str (C ++ "+")) := by
  intro p hp
  obtain rfl := List.mem_singleton.mp hp
  exact ⟨⟨_, rfl⟩, P.knd_ok (by kernel_rfl)⟩
noncomputable def C (k : Nat) : Orc := callN m.G m.defs k
theorem holds (hφ : ∀ ns : List Int, ns.length ≤ 63 → (∀ z ∈ ns, Builtin.Int.intBits z ≤ 1048576) → ∃ outs, C 230 "law" [.d (.scr ns)] = .ret (.d (.bl true)) outs) : PySem.Challenge.rw_partsfrom_k71_texts_of_wheres.Holds := by
  w_on; o_law
  refine HandSHeadRun.head_any (r := PySem.W.OpenLaw.row PySem.Challenge.rw_partsfrom_k71_texts_of_wheres) (q := PySem.W.view (PySem.W.OpenLaw.row PySem.Challenge.rw_partsfrom_k71_texts_of_wheres).prog [62]) (H := hk) (ob := ob) (M := 40000) (loose := names) (d := HandSHeadRun.topDef (PySem.W.OpenLaw.row PySem.Challenge.rw_partsfrom_k71_texts_of_wheres).prog 62) (kwd := []) ob_eq
    (by kernel_rfl) (fun s => by kernel_rfl) run (by kernel_rfl) (by kernel_rfl) (by kernel_rfl) (by rfl) (by first | assumption | decide +kernel) (by decide +kernel) ⟨rfl, rfl, rfl, rfl, rfl, by decide +kernel⟩ ?hw ?hc
  case hw => w_witness2
  case hc =>
    refine walk_pf (l := PySem.Challenge.rw_partsfrom_k71_texts_of_wheres) (n := 63) (k := 230) (x := "script") rfl (by decide) (by kernel_rfl) ⟨rfl, by decide, by decide⟩ hφ ?F
    intro w mg fa h Y N hmg0
    obtain ⟨K, KX, c⟩ := Y
    have hmg : mg ("law" : PySem.Str) = some (.ref fa) := by
      have e : (HandSHeadRun.topDef (PySem.W.OpenLaw.row PySem.Challenge.rw_partsfrom_k71_texts_of_wheres).prog 62).name = ("law" : PySem.Str) := by kernel_rfl
      rw [← e]
      exact hmg0
    have mo : MoOk m K := ⟨c.t.d, c.more, rows, frees, firsts, knds, hcls, kd⟩
    obtain ⟨fd, hb, hF⟩ := law_fn (x := "law") (d := r_law) KX N mo (by rfl) hmg
    exact ⟨K, fd, KX, fun s u => hb s [u] rfl, fun base _ _ => hF _ w base 229⟩
end K71

-- LbT13
set_option maxHeartbeats 2000000
namespace P
open PySem Pf
/-- is_whole(thing): 0 thing -/
noncomputable def b_is_whole (C : Orc) : M Fl := blkS [retS (dE (andV [dat (callE "isinstance" (plS [(plName 0), (plE (cst (.ty "int")))])), dat (boolE (notT (truE (plE (callE "isinstance" (plS [(plName 0), (plE (cst (.ty "bool")))]))))))]))]
def H_is_whole (C : Nat → Orc) : Prop := ∀ (k : Nat) (a0 : Sl), C (k + 1) "is_whole" [a0] = fin 1 (b_is_whole (C k) [a0])
/-- is_span(thing): 0 thing -/
noncomputable def k1_is_span (C : Orc) : M Fl := blkS [retS (dE (orV [dat (cmpE .Is (plE (binE itemW (plName 0) (plE (cst (.int 1))))) (plE (cst .non))), dat (dE (andV [dat (userE C "is_whole" (plS [(plE (binE itemW (plName 0) (plE (cst (.int 1)))))])), dat (cmpE .GtE (plE (binE itemW (plName 0) (plE (cst (.int 1))))) (plE (binE itemW (plName 0) (plE (cst (.int 0))))))]))]))]
noncomputable def b_is_span (C : Orc) : M Fl := blkT [ifE (orT [(notT (truE (plE (callE "isinstance" (plS [(plName 0), (plE (cst (.ty "tuple")))]))))), (tstE (cmpE .NotEq (plE (callE "len" (plS [(plName 0)]))) (plE (cst (.int 2))))), (notT (truE (plE (userE C "is_whole" (plS [(plE (binE itemW (plName 0) (plE (cst (.int 0)))))]))))), (tstE (cmpE .Lt (plE (binE itemW (plName 0) (plE (cst (.int 0))))) (plE (cst (.int 1)))))]) (blkS [retS (cst (.bl false))]) (blkS [])] (k1_is_span C)
def H_is_span (C : Nat → Orc) : Prop := ∀ (k : Nat) (a0 : Sl), C (k + 1) "is_span" [a0] = fin 1 (b_is_span (C k) [a0])
/-- is_name(thing): 0 thing 1 sign -/
noncomputable def l1_is_name (C : Orc) : M Sl := lcE [1] (itE (plName 0)) (tgName 1 [] 1) (M.ret true) (dat (cmpE .In (plName 1) (plE (cst (.str "abcdefghijklmnopqrstuvwxyz")))))
noncomputable def b_is_name (C : Orc) : M Fl := blkS [retS (dE (andV [dat (callE "isinstance" (plS [(plName 0), (plE (cst (.ty "str")))])), dat (chainE .LtE .LtE (plE (cst (.int 1))) (plE (callE "len" (plS [(plName 0)]))) (plE (cst (.int 8)))), dat (callE "all" (plS [(plE (l1_is_name C))]))]))]
def H_is_name (C : Nat → Orc) : Prop := ∀ (k : Nat) (a0 : Sl), C (k + 1) "is_name" [a0] = fin 1 (b_is_name (C k) [a0, .e])
/-- is_count(thing, least): 0 thing 1 least -/
noncomputable def b_is_count (C : Orc) : M Fl := blkS [retS (dE (andV [dat (userE C "is_whole" (plS [(plName 0)])), dat (cmpE .GtE (plName 0) (plName 1))]))]
def H_is_count (C : Nat → Orc) : Prop := ∀ (k : Nat) (a0 a1 : Sl), C (k + 1) "is_count" [a0, a1] = fin 2 (b_is_count (C k) [a0, a1])
/-- is_plain(thing): 0 thing -/
noncomputable def k1_is_plain (C : Orc) : M Fl := blkS [retS (dE (orV [dat (cmpE .Is (plE (binE itemW (plName 0) (plE (cst (.int 2))))) (plE (cst .non))), dat (userE C "is_count" (plS [(plE (binE itemW (plName 0) (plE (cst (.int 2))))), (plE (binE itemW (plName 0) (plE (cst (.int 1)))))]))]))]
noncomputable def b_is_plain (C : Orc) : M Fl := blkS [ifE (tstE (cmpE .Eq (plE (binE itemW (plName 0) (plE (cst (.int 0))))) (plE (cst (.str "all"))))) (blkS [retS (cmpE .Eq (plE (callE "len" (plS [(plName 0)]))) (plE (cst (.int 1))))]) (blkS []),
  ifE (tstE (cmpE .Eq (plE (binE itemW (plName 0) (plE (cst (.int 0))))) (plE (cst (.str "numbers"))))) (blkS [retS (userE C "is_span" (plS [(plE (sliceE (plName 0) (some (plE (cst (.int 1)))) none))]))]) (blkS []),
  ifE (tstE (cmpE .Eq (plE (binE itemW (plName 0) (plE (cst (.int 0))))) (plE (cst (.str "days"))))) (blkT [ifE (orT [(tstE (cmpE .NotEq (plE (callE "len" (plS [(plName 0)]))) (plE (cst (.int 3))))), (notT (truE (plE (userE C "is_count" (plS [(plE (binE itemW (plName 0) (plE (cst (.int 1))))), (plE (cst (.int 0)))])))))]) (blkS [retS (cst (.bl false))]) (blkS [])] (k1_is_plain C)) (blkS []),
  ifE (tstE (cmpE .Eq (plE (binE itemW (plName 0) (plE (cst (.int 0))))) (plE (cst (.str "buyer"))))) (blkS [retS (dE (andV [dat (cmpE .Eq (plE (callE "len" (plS [(plName 0)]))) (plE (cst (.int 2)))), dat (userE C "is_name" (plS [(plE (binE itemW (plName 0) (plE (cst (.int 1)))))]))]))]) (blkS []),
  ifE (orT [(tstE (cmpE .NotEq (plE (binE itemW (plName 0) (plE (cst (.int 0))))) (plE (cst (.str "spent"))))), (tstE (cmpE .NotEq (plE (callE "len" (plS [(plName 0)]))) (plE (cst (.int 4)))))]) (blkS [retS (cst (.bl false))]) (blkS []),
  retS (dE (andV [dat (userE C "is_name" (plS [(plE (binE itemW (plName 0) (plE (cst (.int 1)))))])), dat (userE C "is_count" (plS [(plE (binE itemW (plName 0) (plE (cst (.int 2))))), (plE (cst (.int 1)))])), dat (userE C "is_count" (plS [(plE (binE itemW (plName 0) (plE (cst (.int 3))))), (plE (cst (.int 0)))]))]))]
def H_is_plain (C : Nat → Orc) : Prop := ∀ (k : Nat) (a0 : Sl), C (k + 1) "is_plain" [a0] = fin 1 (b_is_plain (C k) [a0])
/-- is_within(thing, deep): 0 thing 1 deep -/
noncomputable def b_is_within (C : Orc) : M Fl := blkS [ifE (orT [(notT (truE (plE (callE "isinstance" (plS [(plName 0), (plE (cst (.ty "tuple")))]))))), (tstE (cmpE .Eq (plName 0) (plE (tupE (evS []))))), (notT (truE (plE (callE "isinstance" (plS [(plE (binE itemW (plName 0) (plE (cst (.int 0))))), (plE (cst (.ty "str")))]))))), (tstE (cmpE .Eq (plName 1) (plE (cst (.int 0)))))]) (blkS [retS (cst (.bl false))]) (blkS []),
  ifE (tstE (cmpE .Eq (plE (binE itemW (plName 0) (plE (cst (.int 0))))) (plE (cst (.str "not"))))) (blkS [retS (dE (andV [dat (cmpE .Eq (plE (callE "len" (plS [(plName 0)]))) (plE (cst (.int 2)))), dat (userE C "is_within" (plS [(plE (binE itemW (plName 0) (plE (cst (.int 1))))), (plE (binE W.sub (plName 1) (plE (cst (.int 1)))))]))]))]) (blkS []),
  ifE (tstE (cmpE .In (plE (binE itemW (plName 0) (plE (cst (.int 0))))) (plE (tupE (evS [dat (cst (.str "both")), dat (cst (.str "either"))]))))) (blkS [retS (dE (andV [dat (cmpE .Eq (plE (callE "len" (plS [(plName 0)]))) (plE (cst (.int 3)))), dat (userE C "is_within" (plS [(plE (binE itemW (plName 0) (plE (cst (.int 1))))), (plE (binE W.sub (plName 1) (plE (cst (.int 1)))))])), dat (userE C "is_within" (plS [(plE (binE itemW (plName 0) (plE (cst (.int 2))))), (plE (binE W.sub (plName 1) (plE (cst (.int 1)))))]))]))]) (blkS []),
  retS (userE C "is_plain" (plS [(plName 0)]))]
def H_is_within (C : Nat → Orc) : Prop := ∀ (k : Nat) (a0 a1 : Sl), C (k + 1) "is_within" [a0, a1] = fin 2 (b_is_within (C k) [a0, a1])
/-- is_where(thing): 0 thing -/
noncomputable def b_is_where (C : Orc) : M Fl := blkS [retS (userE C "is_within" (plS [(plName 0), (plE (cst (.int 6)))]))]
def H_is_where (C : Nat → Orc) : Prop := ∀ (k : Nat) (a0 : Sl), C (k + 1) "is_where" [a0] = fin 1 (b_is_where (C k) [a0])
/-- _law_whole(thing): 0 thing -/
noncomputable def b__law_whole (C : Orc) : M Fl := blkS [retS (dE (andV [dat (callE "isinstance" (plS [(plName 0), (plE (cst (.ty "int")))])), dat (boolE (notT (truE (plE (callE "isinstance" (plS [(plName 0), (plE (cst (.ty "bool")))]))))))]))]
def H__law_whole (C : Nat → Orc) : Prop := ∀ (k : Nat) (a0 : Sl), C (k + 1) "_law_whole" [a0] = fin 1 (b__law_whole (C k) [a0])
/-- _law_from(thing, least): 0 thing 1 least -/
noncomputable def b__law_from (C : Orc) : M Fl := blkS [retS (dE (andV [dat (userE C "_law_whole" (plS [(plName 0)])), dat (cmpE .GtE (plName 0) (plName 1))]))]
def H__law_from (C : Nat → Orc) : Prop := ∀ (k : Nat) (a0 a1 : Sl), C (k + 1) "_law_from" [a0, a1] = fin 2 (b__law_from (C k) [a0, a1])
/-- _law_is_name(thing): 0 thing 1 sign -/
noncomputable def l1__law_is_name (C : Orc) : M Sl := lcE [1] (itE (plName 0)) (tgName 1 [] 1) (tstE (cmpE .NotIn (plName 1) (plE (cst (.str "abcdefghijklmnopqrstuvwxyz"))))) (dat (nameE 1))
noncomputable def b__law_is_name (C : Orc) : M Fl := blkS [ifE (orT [(notT (truE (plE (callE "isinstance" (plS [(plName 0), (plE (cst (.ty "str")))]))))), (notT (tstE (chainE .Lt .Lt (plE (cst (.int 0))) (plE (callE "len" (plS [(plName 0)]))) (plE (cst (.int 9))))))]) (blkS [retS (cst (.bl false))]) (blkS []),
  retS (cmpE .Eq (plE (l1__law_is_name C)) (plE (lstE (evS []))))]
def H__law_is_name (C : Nat → Orc) : Prop := ∀ (k : Nat) (a0 : Sl), C (k + 1) "_law_is_name" [a0] = fin 1 (b__law_is_name (C k) [a0, .e])
/-- _law_is_tuple(thing, long): 0 thing 1 long -/
noncomputable def b__law_is_tuple (C : Orc) : M Fl := blkS [retS (dE (andV [dat (callE "isinstance" (plS [(plName 0), (plE (cst (.ty "tuple")))])), dat (cmpE .Eq (plE (callE "len" (plS [(plName 0)]))) (plName 1))]))]
def H__law_is_tuple (C : Nat → Orc) : Prop := ∀ (k : Nat) (a0 a1 : Sl), C (k + 1) "_law_is_tuple" [a0, a1] = fin 2 (b__law_is_tuple (C k) [a0, a1])
/-- _law_is_span(thing): 0 thing -/
noncomputable def k1__law_is_span (C : Orc) : M Fl := blkS [retS (dE (orV [dat (cmpE .Is (plE (binE itemW (plName 0) (plE (cst (.int 1))))) (plE (cst .non))), dat (userE C "_law_from" (plS [(plE (binE itemW (plName 0) (plE (cst (.int 1))))), (plE (binE itemW (plName 0) (plE (cst (.int 0)))))]))]))]
noncomputable def b__law_is_span (C : Orc) : M Fl := blkT [ifE (orT [(notT (truE (plE (userE C "_law_is_tuple" (plS [(plName 0), (plE (cst (.int 2)))]))))), (notT (truE (plE (userE C "_law_from" (plS [(plE (binE itemW (plName 0) (plE (cst (.int 0))))), (plE (cst (.int 1)))])))))]) (blkS [retS (cst (.bl false))]) (blkS [])] (k1__law_is_span C)
def H__law_is_span (C : Nat → Orc) : Prop := ∀ (k : Nat) (a0 : Sl), C (k + 1) "_law_is_span" [a0] = fin 1 (b__law_is_span (C k) [a0])
/-- _law_is_where(thing, deep): 0 thing 1 deep 2 word 3 part -/
noncomputable def l1__law_is_where (C : Orc) : M Sl := lcE [3] (itE (plE (sliceE (plName 0) (some (plE (cst (.int 1)))) none))) (tgName 2 [] 3) (notT (truE (plE (userE C "_law_is_where" (plS [(plName 3), (plE (binE W.sub (plName 1) (plE (cst (.int 1)))))]))))) (dat (nameE 3))
noncomputable def k2__law_is_where (C : Orc) : M Fl := blkS [retS (dE (orV [dat (cmpE .Is (plE (binE itemW (plName 0) (plE (cst (.int 2))))) (plE (cst .non))), dat (userE C "_law_from" (plS [(plE (binE itemW (plName 0) (plE (cst (.int 2))))), (plE (binE itemW (plName 0) (plE (cst (.int 1)))))]))]))]
noncomputable def b__law_is_where (C : Orc) : M Fl := blkS [ifE (orT [(notT (truE (plE (callE "isinstance" (plS [(plName 0), (plE (cst (.ty "tuple")))]))))), (tstE (cmpE .Eq (plE (callE "len" (plS [(plName 0)]))) (plE (cst (.int 0))))), (tstE (cmpE .Eq (plName 1) (plE (cst (.int 0)))))]) (blkS [retS (cst (.bl false))]) (blkS []),
  actS (setS 2 [] 2 (binE itemW (plName 0) (plE (cst (.int 0))))),
  ifE (tstE (cmpE .In (plName 2) (plE (tupE (evS [dat (cst (.str "not")), dat (cst (.str "both")), dat (cst (.str "either"))]))))) (blkS [ifE (tstE (cmpE .NotEq (plE (callE "len" (plS [(plName 0)]))) (plE (binE itemW (plE (lstE (evS [dat (cst (.int 3)), dat (cst (.int 2))]))) (plE (callE "int" (plS [(plE (cmpE .Eq (plName 2) (plE (cst (.str "not")))))]))))))) (blkS [retS (cst (.bl false))]) (blkS []),
    retS (cmpE .Eq (plE (l1__law_is_where C)) (plE (lstE (evS []))))]) (blkS []),
  ifE (tstE (cmpE .Eq (plName 2) (plE (cst (.str "days"))))) (blkT [ifE (orT [(tstE (cmpE .NotEq (plE (callE "len" (plS [(plName 0)]))) (plE (cst (.int 3))))), (notT (truE (plE (userE C "_law_from" (plS [(plE (binE itemW (plName 0) (plE (cst (.int 1))))), (plE (cst (.int 0)))])))))]) (blkS [retS (cst (.bl false))]) (blkS [])] (k2__law_is_where C)) (blkS []),
  ifE (tstE (cmpE .Eq (plName 2) (plE (cst (.str "spent"))))) (blkS [retS (dE (andV [dat (cmpE .Eq (plE (callE "len" (plS [(plName 0)]))) (plE (cst (.int 4)))), dat (userE C "_law_is_name" (plS [(plE (binE itemW (plName 0) (plE (cst (.int 1)))))])), dat (userE C "_law_from" (plS [(plE (binE itemW (plName 0) (plE (cst (.int 2))))), (plE (cst (.int 1)))])), dat (userE C "_law_from" (plS [(plE (binE itemW (plName 0) (plE (cst (.int 3))))), (plE (cst (.int 0)))]))]))]) (blkS []),
  ifE (tstE (cmpE .Eq (plName 2) (plE (cst (.str "numbers"))))) (blkS [retS (userE C "_law_is_span" (plS [(plE (sliceE (plName 0) (some (plE (cst (.int 1)))) none))]))]) (blkS []),
  retS (dE (orV [dat (cmpE .Eq (plName 0) (plE (tupE (evS [dat (cst (.str "all"))])))), dat (dE (andV [dat (cmpE .Eq (plName 2) (plE (cst (.str "buyer")))), dat (cmpE .Eq (plE (callE "len" (plS [(plName 0)]))) (plE (cst (.int 2)))), dat (userE C "_law_is_name" (plS [(plE (binE itemW (plName 0) (plE (cst (.int 1)))))]))]))]))]
def H__law_is_where (C : Nat → Orc) : Prop := ∀ (k : Nat) (a0 a1 : Sl), C (k + 1) "_law_is_where" [a0, a1] = fin 2 (b__law_is_where (C k) [a0, a1, .e, .e])
/-- _law_draw(draws, many): 0 draws 1 many 2 found 3 wide -/
noncomputable def l1__law_draw (C : Orc) : M Fl := whileS (tstE (cmpE .Lt (plName 3) (plName 1))) (blkS [actS (setItemS 0 (plE (cst (.int 1))) (dat (binE W.mod (plE (binE W.mul (plE (binE itemW (plName 0) (plE (cst (.int 1))))) (plE (cst (.int 69621))))) (plE (cst (.int 2147483647)))))),
    actS (setS 2 [] 2 (binE W.add (plE (binE W.mul (plName 2) (plE (cst (.int 268435456))))) (plE (binE W.fdiv (plE (binE W.mod (plE (binE W.mul (plE (binE itemW (plName 0) (plE (cst (.int 1))))) (plE (binE W.add (plE (binE W.fdiv (plE (binE itemW (plName 0) (plE (cst (.int 1))))) (plE (cst (.int 128))))) (plE (cst (.int 3))))))) (plE (cst (.int 2147483629))))) (plE (cst (.int 8))))))),
    actS (setS 2 [] 3 (binE W.mul (plName 3) (plE (cst (.int 268435456)))))])
noncomputable def b__law_draw (C : Orc) : M Fl := blkS [ifE (tstE (cmpE .Gt (plE (binE itemW (plName 0) (plE (cst (.int 0))))) (plE (cst (.int 0))))) (blkS [actS (setS 2 [] 2 (binE W.mod (plE (binE itemW (plName 0) (plE (cst (.int 0))))) (plName 1))),
    actS (setItemS 0 (plE (cst (.int 0))) (dat (binE W.fdiv (plE (binE itemW (plName 0) (plE (cst (.int 0))))) (plName 1)))),
    retS (moveE 2 2)]) (blkS []),
  actS (setS 2 [] 2 (cst (.int 0))),
  actS (setS 2 [] 3 (cst (.int 1))),
  (l1__law_draw C),
  retS (binE W.mod (plName 2) (plName 1))]
def H__law_draw (C : Nat → Orc) : Prop := ∀ (k : Nat) (a0 a1 : Sl), C (k + 1) "_law_draw" [a0, a1] = fin 2 (b__law_draw (C k) [a0, a1, .e, .e])
/-- _law_number(draws, far): 0 draws 1 far 2 some -/
noncomputable def b__law_number (C : Orc) : M Fl := blkS [actS (setS 2 [] 2 (lstE (evS [dat (binE W.add (plE (cst (.int 1))) (plE (userE C "_law_draw" (plS [(plName 0), (plE (cst (.int 9)))])))), dat (binE W.add (plE (cst (.int 1))) (plE (userE C "_law_draw" (plS [(plName 0), (plE (cst (.int 40)))])))), dat (binE W.add (plE (cst (.int 1))) (plE (userE C "_law_draw" (plS [(plName 0), (plName 1)])))), dat (nameE 1)]))),
  retS (binE itemW (plName 2) (plE (binE W.fdiv (plE (userE C "_law_draw" (plS [(plName 0), (plE (cst (.int 8)))]))) (plE (cst (.int 2))))))]
def H__law_number (C : Nat → Orc) : Prop := ∀ (k : Nat) (a0 a1 : Sl), C (k + 1) "_law_number" [a0, a1] = fin 2 (b__law_number (C k) [a0, a1, .e])
/-- _law_span(draws, far): 0 draws 1 far 2 first -/
noncomputable def b__law_span (C : Orc) : M Fl := blkS [actS (setS 2 [] 2 (userE C "_law_number" (plS [(plName 0), (plName 1)]))),
  retS (tupE (evS [dat (nameE 2), dat (binE itemW (plE (lstE (evS [dat (cst .non), dat (nameE 2), dat (binE W.add (plName 2) (plE (userE C "_law_draw" (plS [(plName 0), (plE (cst (.int 9)))])))), dat (binE W.add (plName 2) (plE (userE C "_law_number" (plS [(plName 0), (plName 1)]))))]))) (plE (userE C "_law_draw" (plS [(plName 0), (plE (cst (.int 4)))]))))]))]
def H__law_span (C : Nat → Orc) : Prop := ∀ (k : Nat) (a0 a1 : Sl), C (k + 1) "_law_span" [a0, a1] = fin 2 (b__law_span (C k) [a0, a1, .e])
/-- _law_draws(script, k): 0 script 1 k 2 cell -/
noncomputable def k1__law_draws (C : Orc) : M Fl := blkS [retS (lstE (evS [dat (binE W.mul (plName 2) (plE (callE "int" (plS [(plE (cmpE .GtE (plName 2) (plE (binE W.pow (plE (cst (.int 10))) (plE (cst (.int 18)))))))])))), dat (binE W.add (plE (cst (.int 1))) (plE (binE W.mod (plE (binE W.add (plE (binE W.mul (plName 2) (plE (cst (.int 69621))))) (plE (binE W.mul (plE (cst (.int 86028121))) (plE (binE W.add (plName 1) (plE (cst (.int 1))))))))) (plE (cst (.int 2147483646))))))]))]
noncomputable def b__law_draws (C : Orc) : M Fl := blkT [actS (setS 2 [] 2 (binE W.mul (plE (cst (.int 15485863))) (plName 1))),
  ifE (tstE (cmpE .Lt (plName 1) (plE (callE "len" (plS [(plName 0)]))))) (blkS [actS (setS 2 [] 2 (binE W.mod (plE (binE itemW (plName 0) (plName 1))) (plE (binE W.mul (plE (binE W.pow (plE (cst (.int 10))) (plE (cst (.int 60))))) (plE (binE W.pow (plE (cst (.int 10))) (plE (cst (.int 60)))))))))]) (blkS [ifE (tstE (cmpE .Gt (plE (callE "len" (plS [(plName 0)]))) (plE (cst (.int 0))))) (blkS [actS (setS 2 [] 2 (binE W.add (plE (binE W.mod (plE (binE itemW (plName 0) (plE (binE W.mod (plName 1) (plE (callE "len" (plS [(plName 0)]))))))) (plE (binE W.pow (plE (cst (.int 10))) (plE (cst (.int 15))))))) (plE (binE W.mul (plE (cst (.int 15485863))) (plName 1)))))]) (blkS [])])] (k1__law_draws C)
def H__law_draws (C : Nat → Orc) : Prop := ∀ (k : Nat) (a0 a1 : Sl), C (k + 1) "_law_draws" [a0, a1] = fin 2 (b__law_draws (C k) [a0, a1, .e])
/-- _law_name(draws, first): 0 draws 1 first 2 letters 3 k -/
noncomputable def l1__law_name (C : Orc) : M Sl := lcE [3] (itR1 (plS [(plE (userE C "_law_draw" (plS [(plName 0), (plE (cst (.int 8)))])))])) (tgName 2 [] 3) (M.ret true) (dat (binE itemW (plName 2) (plE (userE C "_law_draw" (plS [(plName 0), (plE (cst (.int 26)))])))))
noncomputable def b__law_name (C : Orc) : M Fl := blkS [actS (setS 2 [] 2 (cst (.str "abcdefghijklmnopqrstuvwxyz"))),
  retS (binE W.add (plE (binE itemW (plName 2) (plName 1))) (plE (methE (plE (cst (.str ""))) "join" (plS [(plE (l1__law_name C))]))))]
def H__law_name (C : Nat → Orc) : Prop := ∀ (k : Nat) (a0 a1 : Sl), C (k + 1) "_law_name" [a0, a1] = fin 2 (b__law_name (C k) [a0, a1, .e, .e])
/-- _law_any_order(draws, many): 0 draws 1 many 2 order 3 k -/
noncomputable def l1__law_any_order (C : Orc) : M Fl := forS [1] (itR1 (plS [(plName 1)])) (tgName 2 [1] 3) (blkS [dropS (insE 2 (plE (userE C "_law_draw" (plS [(plName 0), (plE (binE W.add (plName 3) (plE (cst (.int 1)))))]))) (dat (nameE 3)))])
noncomputable def b__law_any_order (C : Orc) : M Fl := blkS [actS (setS 2 [] 2 (lstE (evS []))),
  (l1__law_any_order C),
  retS (moveE 2 2)]
def H__law_any_order (C : Nat → Orc) : Prop := ∀ (k : Nat) (a0 a1 : Sl), C (k + 1) "_law_any_order" [a0, a1] = fin 2 (b__law_any_order (C k) [a0, a1, .e, .e])
/-- _law_names(draws, many): 0 draws 1 many 2 k -/
noncomputable def l1__law_names (C : Orc) : M Sl := lcE [2] (itE (plE (userE C "_law_any_order" (plS [(plName 0), (plName 1)])))) (tgName 2 [] 2) (M.ret true) (dat (userE C "_law_name" (plS [(plName 0), (plE (binE W.mod (plE (binE W.add (plE (binE W.mul (plE (cst (.int 3))) (plName 2))) (plE (cst (.int 1))))) (plE (cst (.int 26)))))])))
noncomputable def b__law_names (C : Orc) : M Fl := blkS [retS (l1__law_names C)]
def H__law_names (C : Nat → Orc) : Prop := ∀ (k : Nat) (a0 a1 : Sl), C (k + 1) "_law_names" [a0, a1] = fin 2 (b__law_names (C k) [a0, a1, .e])
/-- _law_where(draws, names, far, deep): 0 draws 1 names 2 far 3 deep 4 way 5 one -/
noncomputable def b__law_where (C : Orc) : M Fl := blkS [actS (setS 4 [] 4 (userE C "_law_draw" (plS [(plName 0), (plE (cst (.int 8)))]))),
  ifE (orT [(tstE (cmpE .Lt (plName 3) (plE (cst (.int 2))))), (tstE (cmpE .Lt (plName 4) (plE (cst (.int 4)))))]) (blkS [retS (userE C "_law_plain_where" (plS [(plName 0), (plName 1), (plName 2)]))]) (blkS []),
  ifE (tstE (cmpE .Eq (plName 4) (plE (cst (.int 4))))) (blkS [retS (tupE (evS [dat (cst (.str "not")), dat (userE C "_law_where" (plS [(plName 0), (plName 1), (plName 2), (plE (binE W.sub (plName 3) (plE (cst (.int 1)))))]))]))]) (blkS []),
  actS (setS 4 [] 5 (userE C "_law_where" (plS [(plName 0), (plName 1), (plName 2), (plE (binE W.sub (plName 3) (plE (cst (.int 1)))))]))),
  retS (tupE (evS [dat (binE itemW (plE (lstE (evS [dat (cst (.str "both")), dat (cst (.str "either"))]))) (plE (binE W.mod (plName 4) (plE (cst (.int 2)))))), dat (nameE 5), dat (userE C "_law_where" (plS [(plName 0), (plName 1), (plName 2), (plE (binE W.sub (plName 3) (plE (cst (.int 1)))))]))]))]
def H__law_where (C : Nat → Orc) : Prop := ∀ (k : Nat) (a0 a1 a2 a3 : Sl), C (k + 1) "_law_where" [a0, a1, a2, a3] = fin 4 (b__law_where (C k) [a0, a1, a2, a3, .e, .e])
/-- _law_far(draws): 0 draws -/
noncomputable def b__law_far (C : Orc) : M Fl := blkS [retS (binE itemW (plE (lstE (evS [dat (cst (.int 30)), dat (cst (.int 60)), dat (binE W.pow (plE (cst (.int 10))) (plE (cst (.int 6)))), dat (binE W.pow (plE (cst (.int 10))) (plE (cst (.int 40))))]))) (plE (userE C "_law_draw" (plS [(plName 0), (plE (cst (.int 4)))]))))]
def H__law_far (C : Nat → Orc) : Prop := ∀ (k : Nat) (a0 : Sl), C (k + 1) "_law_far" [a0] = fin 1 (b__law_far (C k) [a0])
/-- _law_otherwise(thing, draws): 0 thing 1 draws 2 at 3 some 4 way 5 odd -/
noncomputable def k3__law_otherwise (C : Orc) : M Fl := blkS [retS (ifE (truE (plE (callE "isinstance" (plS [(plName 0), (plE (cst (.ty "list")))])))) (nameE 3) (callE "tuple" (plS [(plName 3)])))]
noncomputable def k2__law_otherwise (C : Orc) : M Fl := blkT [ifE (tstE (cmpE .Eq (plName 4) (plE (cst (.int 2))))) (blkS [actS (setS 2 [] 3 (unE revW (plName 3)))]) (blkS [])] (k3__law_otherwise C)
noncomputable def k1__law_otherwise (C : Orc) : M Fl := blkT [ifE (tstE (cmpE .Eq (plName 4) (plE (cst (.int 1))))) (blkS [dropS (insE 3 (plName 2) (dat (binE itemW (plName 0) (plName 2))))]) (blkS [])] (k2__law_otherwise C)
noncomputable def k5__law_otherwise (C : Orc) : M Fl := blkS [retS (binE itemW (plName 5) (plE (userE C "_law_draw" (plS [(plName 1), (plE (callE "len" (plS [(plName 5)])))]))))]
noncomputable def k4__law_otherwise (C : Orc) : M Fl := blkT [actS (setS 2 [] 5 (lstE (evS [dat (cst (.int 0)), dat (cst (.int 1)), dat (unE negW (plE (cst (.int 1)))), dat (cst (.int 7)), dat (cst (.bl true)), dat (cst (.bl false)), dat (cst .non), dat (cst (.str "")), dat (cst (.str "a")), dat (cst (.str "A")), dat (cst (.str "all")), dat (cst (.str "not")), dat (cst (.str "put")), dat (tupE (evS [])), dat (lstE (evS [])), dat (tupE (evS [dat (cst (.int 1)), dat (cst (.int 2))])), dat (lstE (evS [dat (cst (.int 1))]))]))),
  actS (setS 2 [] 5 (binE W.add (plName 5) (plE (lstE (evS [dat (cst (.str "abcdefghi")), dat (binE W.pow (plE (cst (.int 10))) (plE (cst (.int 30))))]))))),
  ifE (truE (plE (userE C "_law_whole" (plS [(plName 0)])))) (blkS [actS (setS 2 [] 5 (binE W.add (plName 5) (plE (binE W.mul (plE (lstE (evS [dat (binE W.add (plName 0) (plE (cst (.int 1)))), dat (binE W.sub (plName 0) (plE (cst (.int 1)))), dat (binE W.add (plName 0) (plE (cst (.int 1)))), dat (binE W.sub (plName 0) (plE (cst (.int 1))))]))) (plE (cst (.int 3)))))))]) (blkS [])] (k5__law_otherwise C)
noncomputable def b__law_otherwise (C : Orc) : M Fl := blkT [ifE (andT [(truE (plE (callE "isinstance" (plS [(plName 0), (plE (tupE (evS [dat (cst (.ty "list")), dat (cst (.ty "tuple"))])))])))), (tstE (cmpE .Gt (plE (callE "len" (plS [(plName 0)]))) (plE (cst (.int 0))))), (tstE (cmpE .Gt (plE (userE C "_law_draw" (plS [(plName 1), (plE (cst (.int 6)))]))) (plE (cst (.int 0)))))]) (blkT [actS (setS 2 [] 2 (userE C "_law_draw" (plS [(plName 1), (plE (callE "len" (plS [(plName 0)])))]))),
    actS (setS 2 [] 3 (binE W.add (plE (binE W.add (plE (callE "list" (plS [(plE (sliceE (plName 0) none (some (plName 2))))]))) (plE (lstE (evS [dat (userE C "_law_otherwise" (plS [(plE (binE itemW (plName 0) (plName 2))), (plName 1)]))]))))) (plE (callE "list" (plS [(plE (sliceE (plName 0) (some (plE (binE W.add (plName 2) (plE (cst (.int 1)))))) none))]))))),
    actS (setS 2 [] 4 (userE C "_law_draw" (plS [(plName 1), (plE (cst (.int 14)))]))),
    ifE (tstE (cmpE .Eq (plName 4) (plE (cst (.int 0))))) (blkS [dropS (popAtE 3 (plName 2))]) (blkS [])] (k1__law_otherwise C)) (blkS [])] (k4__law_otherwise C)
def H__law_otherwise (C : Nat → Orc) : Prop := ∀ (k : Nat) (a0 a1 : Sl), C (k + 1) "_law_otherwise" [a0, a1] = fin 2 (b__law_otherwise (C k) [a0, a1, .e, .e, .e, .e])
/-- _law_thing(draws, deep): 0 draws 1 deep 2 way 3 some 4 k -/
noncomputable def l1__law_thing (C : Orc) : M Sl := lcE [4] (itR1 (plS [(plE (binE W.mul (plE (userE C "_law_draw" (plS [(plName 0), (plE (cst (.int 4)))]))) (plE (callE "int" (plS [(plE (cmpE .Gt (plName 1) (plE (cst (.int 0)))))])))))])) (tgName 2 [] 4) (M.ret true) (dat (userE C "_law_thing" (plS [(plName 0), (plE (binE W.sub (plName 1) (plE (cst (.int 1)))))])))
noncomputable def b__law_thing (C : Orc) : M Fl := blkS [actS (setS 2 [] 2 (userE C "_law_draw" (plS [(plName 0), (plE (cst (.int 9)))]))),
  ifE (tstE (cmpE .Lt (plName 2) (plE (cst (.int 2))))) (blkS [retS (binE itemW (plE (lstE (evS [dat (binE W.sub (plE (userE C "_law_draw" (plS [(plName 0), (plE (cst (.int 9)))]))) (plE (cst (.int 2)))), dat (userE C "_law_draw" (plS [(plName 0), (plE (binE W.pow (plE (cst (.int 10))) (plE (cst (.int 30)))))]))]))) (plName 2))]) (blkS []),
  ifE (tstE (cmpE .Lt (plName 2) (plE (cst (.int 5))))) (blkS [retS (binE itemW (plE (lstE (evS [dat (cst (.bl true)), dat (cst (.bl false)), dat (cst .non)]))) (plE (binE W.sub (plName 2) (plE (cst (.int 2))))))]) (blkS []),
  ifE (tstE (cmpE .Eq (plName 2) (plE (cst (.int 5))))) (blkS [retS (binE itemW (plE (lstE (evS [dat (cst (.str "")), dat (cst (.str "abc")), dat (cst (.str "all")), dat (cst (.str "3")), dat (cst (.str "numbers")), dat (cst (.str "put"))]))) (plE (userE C "_law_draw" (plS [(plName 0), (plE (cst (.int 6)))]))))]) (blkS []),
  actS (setS 2 [] 3 (l1__law_thing C)),
  retS (ifE (tstE (cmpE .Eq (plName 2) (plE (cst (.int 6))))) (nameE 3) (callE "tuple" (plS [(plName 3)])))]
def H__law_thing (C : Nat → Orc) : Prop := ∀ (k : Nat) (a0 a1 : Sl), C (k + 1) "_law_thing" [a0, a1] = fin 2 (b__law_thing (C k) [a0, a1, .e, .e, .e])
/-- _law_plain_where(draws, names, far): 0 draws 1 names 2 far 3 way 4 first 5 many -/
noncomputable def b__law_plain_where (C : Orc) : M Fl := blkS [actS (setS 3 [] 3 (userE C "_law_draw" (plS [(plName 0), (plE (cst (.int 9)))]))),
  ifE (tstE (cmpE .Eq (plName 3) (plE (cst (.int 0))))) (blkS [retS (tupE (evS [dat (cst (.str "all"))]))]) (blkS []),
  ifE (tstE (cmpE .Lt (plName 3) (plE (cst (.int 4))))) (blkS [retS (binE W.add (plE (tupE (evS [dat (cst (.str "numbers"))]))) (plE (userE C "_law_span" (plS [(plName 0), (plName 2)]))))]) (blkS []),
  ifE (tstE (cmpE .Lt (plName 3) (plE (cst (.int 6))))) (blkS [actS (setS 3 [] 4 (userE C "_law_draw" (plS [(plName 0), (plE (cst (.int 9)))]))),
    retS (tupE (evS [dat (cst (.str "days")), dat (nameE 4), dat (binE itemW (plE (lstE (evS [dat (cst .non), dat (binE W.add (plName 4) (plE (userE C "_law_draw" (plS [(plName 0), (plE (cst (.int 9)))]))))]))) (plE (userE C "_law_draw" (plS [(plName 0), (plE (cst (.int 2)))]))))]))]) (blkS []),
  ifE (tstE (cmpE .Eq (plName 3) (plE (cst (.int 6))))) (blkS [retS (tupE (evS [dat (cst (.str "buyer")), dat (binE itemW (plName 1) (plE (userE C "_law_draw" (plS [(plName 0), (plE (cst (.int 3)))]))))]))]) (blkS []),
  actS (setS 3 [] 5 (binE itemW (plE (lstE (evS [dat (userE C "_law_draw" (plS [(plName 0), (plE (cst (.int 99)))])), dat (binE W.mul (plE (userE C "_law_number" (plS [(plName 0), (plName 2)]))) (plE (userE C "_law_draw" (plS [(plName 0), (plE (cst (.int 9)))])))), dat (cst (.int 0))]))) (plE (binE W.fdiv (plE (userE C "_law_draw" (plS [(plName 0), (plE (cst (.int 5)))]))) (plE (cst (.int 2))))))),
  retS (tupE (evS [dat (cst (.str "spent")), dat (binE itemW (plName 1) (plE (binE W.add (plE (cst (.int 1))) (plE (userE C "_law_draw" (plS [(plName 0), (plE (binE W.sub (plE (callE "len" (plS [(plName 1)]))) (plE (cst (.int 1)))))])))))), dat (userE C "_law_number" (plS [(plName 0), (plName 2)])), dat (nameE 5)]))]
def H__law_plain_where (C : Nat → Orc) : Prop := ∀ (k : Nat) (a0 a1 a2 : Sl), C (k + 1) "_law_plain_where" [a0, a1, a2] = fin 3 (b__law_plain_where (C k) [a0, a1, a2, .e, .e, .e])
/-- law(script): 0 script 1 k 2 draws 3 names 4 where 5 deep 6 turn 7 things 8 thing 9 found -/
noncomputable def l2_law_k13 (C : Orc) : M Fl := forS [] (itR1 (plS [(plE (userE C "_law_draw" (plS [(plName 2), (plE (cst (.int 7)))])))])) (tgName 1 [] 6) (blkS [actS (setS 1 [] 5 (binE itemW (plE (lstE (evS [dat (tupE (evS [dat (cst (.str "not")), dat (nameE 5)])), dat (tupE (evS [dat (cst (.str "both")), dat (tupE (evS [dat (cst (.str "all"))])), dat (nameE 5)])), dat (tupE (evS [dat (cst (.str "either")), dat (nameE 5), dat (nameE 4)]))]))) (plE (userE C "_law_draw" (plS [(plName 2), (plE (cst (.int 3)))])))))])
noncomputable def l3_law_k13 (C : Orc) : M Fl := forS [] (itE (plE (binE W.add (plName 7) (plE (lstE (evS [dat (callE "list" (plS [(plName 4)])), dat (binE W.add (plName 4) (plE (tupE (evS [dat (cst .non)])))), dat (sliceE (plName 4) none (some (plE (cst (.int 1)))))])))))) (tgName 1 [] 8) (blkS [actS (setS 1 [] 9 (userE C "is_where" (plS [(plName 8)]))),
      ifE (orT [(notT (truE (plE (callE "isinstance" (plS [(plName 9), (plE (cst (.ty "bool")))]))))), (tstE (cmpE .NotEq (plName 9) (plE (userE C "_law_is_where" (plS [(plName 8), (plE (cst (.int 6)))])))))]) (blkS [retS (cst (.bl false))]) (blkS [])])
noncomputable def l1_law_k13 (C : Orc) : M Fl := forS [] (itR1 (plS [(plE (callE "max" (plS [(plE (cst (.int 1))), (plE (callE "min" (plS [(plE (cst (.int 16))), (plE (callE "len" (plS [(plName 0)])))])))])))])) (tgName 1 [] 1) (blkS [actS (setS 1 [] 2 (userE C "_law_draws" (plS [(plName 0), (plName 1)]))),
    actS (setS 1 [] 3 (userE C "_law_names" (plS [(plName 2), (plE (cst (.int 6)))]))),
    actS (setS 1 [] 4 (userE C "_law_where" (plS [(plName 2), (plName 3), (plE (userE C "_law_far" (plS [(plName 2)]))), (plE (binE W.add (plE (cst (.int 1))) (plE (userE C "_law_draw" (plS [(plName 2), (plE (cst (.int 6)))])))))]))),
    actS (setS 1 [] 5 (nameE 4)),
    (l2_law_k13 C),
    actS (setS 1 [] 7 (lstE (evS [dat (nameE 4), dat (nameE 5), dat (userE C "_law_otherwise" (plS [(plName 4), (plName 2)])), dat (userE C "_law_otherwise" (plS [(plName 5), (plName 2)])), dat (userE C "_law_thing" (plS [(plName 2), (plE (cst (.int 3)))]))]))),
    (l3_law_k13 C)])
noncomputable def b_law_k13 (C : Orc) : M Fl := blkS [(l1_law_k13 C),
  retS (cst (.bl true))]
def H_law_k13 (C : Nat → Orc) : Prop := ∀ (k : Nat) (a0 : Sl), C (k + 1) "law" [a0] = fin 1 (b_law_k13 (C k) [a0, .e, .e, .e, .e, .e, .e, .e, .e, .e])
end P

-- LbT71
namespace P
open PySem Pf
/-- number_in(word): 0 word 1 sign -/
noncomputable def l1_number_in (C : Orc) : M Sl := lcE [1] (itE (plName 0)) (tgName 1 [] 1) (M.ret true) (dat (cmpE .In (plName 1) (plE (cst (.str "0123456789")))))
noncomputable def b_number_in (C : Orc) : M Fl := blkS [ifE (orT [(notT (tstE (chainE .LtE .LtE (plE (cst (.int 1))) (plE (callE "len" (plS [(plName 0)]))) (plE (cst (.int 60)))))), (notT (truE (plE (callE "all" (plS [(plE (l1_number_in C))])))))]) (blkS [retS (cst .non)]) (blkS []),
  ifE (andT [(tstE (cmpE .Eq (plE (binE itemW (plName 0) (plE (cst (.int 0))))) (plE (cst (.str "0"))))), (tstE (cmpE .Gt (plE (callE "len" (plS [(plName 0)]))) (plE (cst (.int 1)))))]) (blkS [retS (cst .non)]) (blkS []),
  retS (callE "int" (plS [(plName 0)]))]
def H_number_in (C : Nat → Orc) : Prop := ∀ (k : Nat) (a0 : Sl), C (k + 1) "number_in" [a0] = fin 1 (b_number_in (C k) [a0, .e])
/-- span_text(first, last): 0 first 1 last -/
noncomputable def b_span_text (C : Orc) : M Fl := blkS [ifE (tstE (cmpE .Is (plName 1) (plE (cst .non)))) (blkS [retS (binE W.add (plE (callE "str" (plS [(plName 0)]))) (plE (cst (.str "-"))))]) (blkS []),
  retS (binE W.add (plE (binE W.add (plE (callE "str" (plS [(plName 0)]))) (plE (cst (.str "-"))))) (plE (callE "str" (plS [(plName 1)]))))]
def H_span_text (C : Nat → Orc) : Prop := ∀ (k : Nat) (a0 a1 : Sl), C (k + 1) "span_text" [a0, a1] = fin 2 (b_span_text (C k) [a0, a1])
/-- where_text(where): 0 where 1 sign 2 part -/
noncomputable def k1_where_text (C : Orc) : M Fl := blkS [retS (binE W.add (plE (binE W.add (plE (binE W.add (plE (binE W.add (plE (cst (.str "("))) (plE (userE C "where_text" (plS [(plE (binE itemW (plName 0) (plE (cst (.int 1)))))]))))) (plName 1))) (plE (userE C "where_text" (plS [(plE (binE itemW (plName 0) (plE (cst (.int 2)))))]))))) (plE (cst (.str ")"))))]
noncomputable def l2_where_text (C : Orc) : M Sl := lcE [2] (itE (plName 0)) (tgName 1 [] 2) (M.ret true) (dat (callE "str" (plS [(plName 2)])))
noncomputable def b_where_text (C : Orc) : M Fl := blkS [ifE (tstE (cmpE .Eq (plE (binE itemW (plName 0) (plE (cst (.int 0))))) (plE (cst (.str "not"))))) (blkS [retS (binE W.add (plE (cst (.str "!"))) (plE (userE C "where_text" (plS [(plE (binE itemW (plName 0) (plE (cst (.int 1)))))]))))]) (blkS []),
  ifE (tstE (cmpE .In (plE (binE itemW (plName 0) (plE (cst (.int 0))))) (plE (tupE (evS [dat (cst (.str "both")), dat (cst (.str "either"))]))))) (blkT [actS (setS 1 [] 1 (cst (.str "|"))),
    ifE (tstE (cmpE .Eq (plE (binE itemW (plName 0) (plE (cst (.int 0))))) (plE (cst (.str "both"))))) (blkS [actS (setS 1 [] 1 (cst (.str "&")))]) (blkS [])] (k1_where_text C)) (blkS []),
  ifE (tstE (cmpE .In (plE (binE itemW (plName 0) (plE (cst (.int 0))))) (plE (tupE (evS [dat (cst (.str "numbers")), dat (cst (.str "days"))]))))) (blkS [retS (binE W.add (plE (binE W.add (plE (binE itemW (plName 0) (plE (cst (.int 0))))) (plE (cst (.str ":"))))) (plE (userE C "span_text" (plS [(plE (binE itemW (plName 0) (plE (cst (.int 1))))), (plE (binE itemW (plName 0) (plE (cst (.int 2)))))]))))]) (blkS []),
  retS (methE (plE (cst (.str ":"))) "join" (plS [(plE (l2_where_text C))]))]
def H_where_text (C : Nat → Orc) : Prop := ∀ (k : Nat) (a0 : Sl), C (k + 1) "where_text" [a0] = fin 1 (b_where_text (C k) [a0, .e, .e])
/-- plain_in(text): 0 text 1 words 2 ends 3 last -/
noncomputable def k1_plain_in (C : Orc) : M Fl := blkS [retS (tupE (evS [dat (binE itemW (plName 1) (plE (cst (.int 0)))), dat (userE C "number_in" (plS [(plE (binE itemW (plName 2) (plE (cst (.int 0)))))])), dat (nameE 3)]))]
noncomputable def b_plain_in (C : Orc) : M Fl := blkS [actS (setS 1 [] 1 (methE (plName 0) "split" (plS [(plE (cst (.str ":")))]))),
  ifE (andT [(tstE (cmpE .In (plE (binE itemW (plName 1) (plE (cst (.int 0))))) (plE (tupE (evS [dat (cst (.str "numbers")), dat (cst (.str "days"))]))))), (tstE (cmpE .Eq (plE (callE "len" (plS [(plName 1)]))) (plE (cst (.int 2)))))]) (blkT [actS (setS 1 [] 2 (methE (plE (binE itemW (plName 1) (plE (cst (.int 1))))) "split" (plS [(plE (cst (.str "-")))]))),
    ifE (tstE (cmpE .NotEq (plE (callE "len" (plS [(plName 2)]))) (plE (cst (.int 2))))) (blkS [retS (cst .non)]) (blkS []),
    actS (setS 1 [] 3 (cst .non)),
    ifE (tstE (cmpE .NotEq (plE (binE itemW (plName 2) (plE (cst (.int 1))))) (plE (cst (.str ""))))) (blkS [actS (setS 1 [] 3 (userE C "number_in" (plS [(plE (binE itemW (plName 2) (plE (cst (.int 1)))))]))),
      ifE (tstE (cmpE .Is (plName 3) (plE (cst .non)))) (blkS [retS (cst .non)]) (blkS [])]) (blkS [])] (k1_plain_in C)) (blkS []),
  ifE (andT [(tstE (cmpE .Eq (plE (binE itemW (plName 1) (plE (cst (.int 0))))) (plE (cst (.str "spent"))))), (tstE (cmpE .Eq (plE (callE "len" (plS [(plName 1)]))) (plE (cst (.int 4)))))]) (blkS [retS (tupE (evS [dat (cst (.str "spent")), dat (binE itemW (plName 1) (plE (cst (.int 1)))), dat (userE C "number_in" (plS [(plE (binE itemW (plName 1) (plE (cst (.int 2)))))])), dat (userE C "number_in" (plS [(plE (binE itemW (plName 1) (plE (cst (.int 3)))))]))]))]) (blkS []),
  ifE (orT [(tstE (cmpE .Eq (plE (binE itemW (plName 1) (plE (cst (.int 0))))) (plE (cst (.str "buyer"))))), (tstE (cmpE .Eq (plE (binE itemW (plName 1) (plE (cst (.int 0))))) (plE (cst (.str "all")))))]) (blkS [retS (callE "tuple" (plS [(plName 1)]))]) (blkS []),
  retS (cst .non)]
def H_plain_in (C : Nat → Orc) : Prop := ∀ (k : Nat) (a0 : Sl), C (k + 1) "plain_in" [a0] = fin 1 (b_plain_in (C k) [a0, .e, .e, .e])
/-- parted(text): 0 text 1 deep 2 at 3 sign -/
noncomputable def l1_parted (C : Orc) : M Fl := forS [0] (itEnum (plS [(plName 0)])) (tgTup [tgName 1 [0] 2, tgName 1 [0] 3]) (blkS [ifE (tstE (cmpE .Eq (plName 3) (plE (cst (.str "("))))) (blkS [actS (augS 1 [0] 1 .Add (plE (cst (.int 1))))]) (blkS [ifE (tstE (cmpE .Eq (plName 3) (plE (cst (.str ")"))))) (blkS [actS (augS 1 [0] 1 .Sub (plE (cst (.int 1))))]) (blkS [ifE (andT [(tstE (cmpE .In (plName 3) (plE (cst (.str "&|"))))), (tstE (cmpE .Eq (plName 1) (plE (cst (.int 1)))))]) (blkS [retS (moveE 1 2)]) (blkS [])])])])
noncomputable def b_parted (C : Orc) : M Fl := blkS [actS (setS 1 [] 1 (cst (.int 0))),
  (l1_parted C),
  retS (cst .non)]
def H_parted (C : Nat → Orc) : Prop := ∀ (k : Nat) (a0 : Sl), C (k + 1) "parted" [a0] = fin 1 (b_parted (C k) [a0, .e, .e, .e])
/-- where_in(text, deep): 0 text 1 deep 2 at 3 word -/
noncomputable def k1_where_in (C : Orc) : M Fl := blkS [retS (tupE (evS [dat (nameE 3), dat (userE C "where_in" (plS [(plE (sliceE (plName 0) (some (plE (cst (.int 1)))) (some (plName 2)))), (plE (binE W.sub (plName 1) (plE (cst (.int 1)))))])), dat (userE C "where_in" (plS [(plE (sliceE (plName 0) (some (plE (binE W.add (plName 2) (plE (cst (.int 1)))))) (some (plE (unE negW (plE (cst (.int 1)))))))), (plE (binE W.sub (plName 1) (plE (cst (.int 1)))))]))]))]
noncomputable def b_where_in (C : Orc) : M Fl := blkT [ifE (tstE (cmpE .Eq (plName 1) (plE (cst (.int 0))))) (blkS [retS (cst .non)]) (blkS []),
  ifE (tstE (cmpE .Eq (plE (sliceE (plName 0) none (some (plE (cst (.int 1)))))) (plE (cst (.str "!"))))) (blkS [retS (tupE (evS [dat (cst (.str "not")), dat (userE C "where_in" (plS [(plE (sliceE (plName 0) (some (plE (cst (.int 1)))) none)), (plE (binE W.sub (plName 1) (plE (cst (.int 1)))))]))]))]) (blkS []),
  ifE (tstE (cmpE .NotEq (plE (sliceE (plName 0) none (some (plE (cst (.int 1)))))) (plE (cst (.str "("))))) (blkS [retS (userE C "plain_in" (plS [(plName 0)]))]) (blkS []),
  actS (setS 2 [] 2 (userE C "parted" (plS [(plName 0)]))),
  ifE (orT [(tstE (cmpE .Is (plName 2) (plE (cst .non)))), (tstE (cmpE .NotEq (plE (binE itemW (plName 0) (plE (unE negW (plE (cst (.int 1))))))) (plE (cst (.str ")")))))]) (blkS [retS (cst .non)]) (blkS []),
  actS (setS 2 [] 3 (cst (.str "either"))),
  ifE (tstE (cmpE .Eq (plE (binE itemW (plName 0) (plName 2))) (plE (cst (.str "&"))))) (blkS [actS (setS 2 [] 3 (cst (.str "both")))]) (blkS [])] (k1_where_in C)
def H_where_in (C : Nat → Orc) : Prop := ∀ (k : Nat) (a0 a1 : Sl), C (k + 1) "where_in" [a0, a1] = fin 2 (b_where_in (C k) [a0, a1, .e, .e])
/-- read_where(text): 0 text 1 where -/
noncomputable def b_read_where (C : Orc) : M Fl := blkS [ifE (notT (truE (plE (callE "isinstance" (plS [(plName 0), (plE (cst (.ty "str")))]))))) (blkS [excS "NoText"]) (blkS []),
  actS (setS 1 [] 1 (userE C "where_in" (plS [(plName 0), (plE (cst (.int 6)))]))),
  ifE (notT (truE (plE (userE C "is_where" (plS [(plName 1)]))))) (blkS [excS "NoText"]) (blkS []),
  retS (moveE 1 1)]
def H_read_where (C : Nat → Orc) : Prop := ∀ (k : Nat) (a0 : Sl), C (k + 1) "read_where" [a0] = fin 1 (b_read_where (C k) [a0, .e])
/-- _law_span_text(first, last): 0 first 1 last -/
noncomputable def b__law_span_text (C : Orc) : M Fl := blkS [retS (binE W.add (plE (binE W.add (plE (callE "str" (plS [(plName 0)]))) (plE (cst (.str "-"))))) (plE (ifE (tstE (cmpE .Is (plName 1) (plE (cst .non)))) (cst (.str "")) (callE "str" (plS [(plName 1)])))))]
def H__law_span_text (C : Nat → Orc) : Prop := ∀ (k : Nat) (a0 a1 : Sl), C (k + 1) "_law_span_text" [a0, a1] = fin 2 (b__law_span_text (C k) [a0, a1])
/-- _law_where_text(where): 0 where 1 sign 2 part -/
noncomputable def l1__law_where_text (C : Orc) : M Sl := lcE [2] (itE (plName 0)) (tgName 1 [] 2) (M.ret true) (dat (callE "str" (plS [(plName 2)])))
noncomputable def b__law_where_text (C : Orc) : M Fl := blkS [ifE (tstE (cmpE .Eq (plE (binE itemW (plName 0) (plE (cst (.int 0))))) (plE (cst (.str "not"))))) (blkS [retS (binE W.add (plE (cst (.str "!"))) (plE (userE C "_law_where_text" (plS [(plE (binE itemW (plName 0) (plE (cst (.int 1)))))]))))]) (blkS []),
  ifE (tstE (cmpE .In (plE (binE itemW (plName 0) (plE (cst (.int 0))))) (plE (tupE (evS [dat (cst (.str "both")), dat (cst (.str "either"))]))))) (blkS [actS (setS 1 [] 1 (ifE (tstE (cmpE .Eq (plE (binE itemW (plName 0) (plE (cst (.int 0))))) (plE (cst (.str "both"))))) (cst (.str "&")) (cst (.str "|")))),
    retS (binE W.add (plE (binE W.add (plE (binE W.add (plE (binE W.add (plE (cst (.str "("))) (plE (userE C "_law_where_text" (plS [(plE (binE itemW (plName 0) (plE (cst (.int 1)))))]))))) (plName 1))) (plE (userE C "_law_where_text" (plS [(plE (binE itemW (plName 0) (plE (cst (.int 2)))))]))))) (plE (cst (.str ")"))))]) (blkS []),
  ifE (tstE (cmpE .In (plE (binE itemW (plName 0) (plE (cst (.int 0))))) (plE (tupE (evS [dat (cst (.str "numbers")), dat (cst (.str "days"))]))))) (blkS [retS (binE W.add (plE (binE W.add (plE (binE itemW (plName 0) (plE (cst (.int 0))))) (plE (cst (.str ":"))))) (plE (userE C "_law_span_text" (plS [(plE (binE itemW (plName 0) (plE (cst (.int 1))))), (plE (binE itemW (plName 0) (plE (cst (.int 2)))))]))))]) (blkS []),
  retS (methE (plE (cst (.str ":"))) "join" (plS [(plE (l1__law_where_text C))]))]
def H__law_where_text (C : Nat → Orc) : Prop := ∀ (k : Nat) (a0 : Sl), C (k + 1) "_law_where_text" [a0] = fin 1 (b__law_where_text (C k) [a0, .e, .e])
/-- _law_spoilt(text, draws): 0 text 1 draws 2 signs 3 sign 4 at 5 way 6 words 7 other 8 some -/
noncomputable def b__law_spoilt (C : Orc) : M Fl := blkS [actS (setS 2 [] 2 (cst (.str " !\"#$&'()*+,-./0123456789:;<=>?@ABCDEFGHIJKLMNOPQRSTUVWXYZ[\\]^_`abcdefghijklmnopqrstuvwxyz{|}~
"))),
  actS (setS 2 [] 3 (binE itemW (plE (lstE (evS [dat (binE itemW (plName 2) (plE (userE C "_law_draw" (plS [(plName 1), (plE (callE "len" (plS [(plName 2)])))])))), dat (binE itemW (plE (cst (.str "0123456789-:;,!(&|) "))) (plE (userE C "_law_draw" (plS [(plName 1), (plE (cst (.int 20)))]))))]))) (plE (userE C "_law_draw" (plS [(plName 1), (plE (cst (.int 2)))]))))),
  actS (setS 2 [] 4 (userE C "_law_draw" (plS [(plName 1), (plE (binE W.add (plE (callE "len" (plS [(plName 0)]))) (plE (cst (.int 1)))))]))),
  actS (setS 2 [] 5 (userE C "_law_draw" (plS [(plName 1), (plE (cst (.int 7)))]))),
  ifE (tstE (cmpE .Lt (plName 5) (plE (cst (.int 4))))) (blkS [retS (binE W.add (plE (binE W.add (plE (sliceE (plName 0) none (some (plName 4)))) (plE (binE itemW (plE (lstE (evS [dat (nameE 3), dat (nameE 3), dat (cst (.str "")), dat (binE W.mul (plE (sliceE (plName 0) (some (plName 4)) (some (plE (binE W.add (plName 4) (plE (cst (.int 1)))))))) (plE (cst (.int 2))))]))) (plName 5))))) (plE (sliceE (plName 0) (some (plE (binE W.add (plName 4) (plE (callE "int" (plS [(plE (cmpE .Gt (plName 5) (plE (cst (.int 0)))))])))))) none)))]) (blkS []),
  actS (setS 2 [] 6 (methE (plName 0) "split" (plS [(plE (cst (.str " ")))]))),
  actS (setS 2 [] 4 (userE C "_law_draw" (plS [(plName 1), (plE (callE "len" (plS [(plName 6)])))]))),
  actS (setS 2 [] 7 (binE itemW (plName 6) (plE (userE C "_law_draw" (plS [(plName 1), (plE (callE "len" (plS [(plName 6)])))]))))),
  actS (setS 2 [] 8 (binE itemW (plE (lstE (evS [dat (lstE (evS [])), dat (binE W.mul (plE (lstE (evS [dat (binE itemW (plName 6) (plName 4))]))) (plE (cst (.int 2)))), dat (lstE (evS [dat (nameE 7)]))]))) (plE (binE W.sub (plName 5) (plE (cst (.int 4))))))),
  retS (methE (plE (cst (.str " "))) "join" (plS [(plE (binE W.add (plE (binE W.add (plE (sliceE (plName 6) none (some (plName 4)))) (plName 8))) (plE (sliceE (plName 6) (some (plE (binE W.add (plName 4) (plE (cst (.int 1)))))) none))))]))]
def H__law_spoilt (C : Nat → Orc) : Prop := ∀ (k : Nat) (a0 a1 : Sl), C (k + 1) "_law_spoilt" [a0, a1] = fin 2 (b__law_spoilt (C k) [a0, a1, .e, .e, .e, .e, .e, .e, .e])
/-- _law_number_in(word): 0 word 1 sign -/
noncomputable def l1__law_number_in (C : Orc) : M Sl := lcE [1] (itE (plName 0)) (tgName 1 [] 1) (tstE (cmpE .NotIn (plName 1) (plE (cst (.str "0123456789"))))) (dat (nameE 1))
noncomputable def b__law_number_in (C : Orc) : M Fl := blkS [ifE (orT [(notT (tstE (chainE .Lt .Lt (plE (cst (.int 0))) (plE (callE "len" (plS [(plName 0)]))) (plE (cst (.int 61)))))), (tstE (cmpE .NotEq (plE (l1__law_number_in C)) (plE (lstE (evS [])))))]) (blkS [retS (cst .non)]) (blkS []),
  retS (ifE (andT [(tstE (cmpE .Eq (plE (binE itemW (plName 0) (plE (cst (.int 0))))) (plE (cst (.str "0"))))), (tstE (cmpE .NotEq (plName 0) (plE (cst (.str "0")))))]) (cst .non) (callE "int" (plS [(plName 0)])))]
def H__law_number_in (C : Nat → Orc) : Prop := ∀ (k : Nat) (a0 : Sl), C (k + 1) "_law_number_in" [a0] = fin 1 (b__law_number_in (C k) [a0, .e])
/-- _law_begin_in(text): 0 text 1 where 2 rest 3 one 4 word 5 two 6 end 7 at 8 words 9 ends 10 last -/
noncomputable def l1__law_begin_in (C : Orc) : M Sl := lcE [7] (itR1 (plS [(plE (callE "len" (plS [(plName 0)])))])) (tgName 1 [] 7) (tstE (cmpE .In (plE (binE itemW (plName 0) (plName 7))) (plE (cst (.str "&|()!"))))) (dat (nameE 7))
noncomputable def k2__law_begin_in (C : Orc) : M Fl := blkS [retS (tupE (evS [dat (ifE (tstE (cmpE .In (plE (binE itemW (plName 8) (plE (cst (.int 0))))) (plE (tupE (evS [dat (cst (.str "all")), dat (cst (.str "buyer"))]))))) (callE "tuple" (plS [(plName 8)])) (cst .non)), dat (sliceE (plName 0) (some (plName 6)) none)]))]
noncomputable def b__law_begin_in (C : Orc) : M Fl := blkT [ifE (tstE (cmpE .Eq (plE (sliceE (plName 0) none (some (plE (cst (.int 1)))))) (plE (cst (.str "!"))))) (blkS [actS (M.bind (dat (userE C "_law_begin_in" (plS [(plE (sliceE (plName 0) (some (plE (cst (.int 1)))) none))]))) (tgTup [tgName 1 [] 1, tgName 1 [] 2])),
    retS (tupE (evS [dat (tupE (evS [dat (cst (.str "not")), dat (nameE 1)])), dat (nameE 2)]))]) (blkS []),
  ifE (tstE (cmpE .Eq (plE (sliceE (plName 0) none (some (plE (cst (.int 1)))))) (plE (cst (.str "("))))) (blkS [actS (M.bind (dat (userE C "_law_begin_in" (plS [(plE (sliceE (plName 0) (some (plE (cst (.int 1)))) none))]))) (tgTup [tgName 1 [] 3, tgName 1 [] 2])),
    actS (setS 1 [] 4 (dgetE (plE (dispE (dispS [(dat (cst (.str "&")), dat (cst (.str "both"))), (dat (cst (.str "|")), dat (cst (.str "either")))]))) (evS [dat (sliceE (plName 2) none (some (plE (cst (.int 1))))), dat (cst (.str "none"))]))),
    actS (M.bind (dat (userE C "_law_begin_in" (plS [(plE (sliceE (plName 2) (some (plE (cst (.int 1)))) none))]))) (tgTup [tgName 1 [] 5, tgName 1 [] 2])),
    retS (ifE (tstE (cmpE .Eq (plE (sliceE (plName 2) none (some (plE (cst (.int 1)))))) (plE (cst (.str ")"))))) (tupE (evS [dat (tupE (evS [dat (nameE 4), dat (nameE 3), dat (nameE 5)])), dat (sliceE (plName 2) (some (plE (cst (.int 1)))) none)])) (tupE (evS [dat (cst .non), dat (cst (.str ""))])))]) (blkS []),
  actS (setS 1 [] 6 (callE "min" (plS [(plE (binE W.add (plE (lstE (evS [dat (callE "len" (plS [(plName 0)]))]))) (plE (l1__law_begin_in C))))]))),
  actS (setS 1 [] 8 (methE (plE (sliceE (plName 0) none (some (plName 6)))) "split" (plS [(plE (cst (.str ":")))]))),
  ifE (andT [(tstE (cmpE .In (plE (binE itemW (plName 8) (plE (cst (.int 0))))) (plE (tupE (evS [dat (cst (.str "numbers")), dat (cst (.str "days"))]))))), (tstE (cmpE .Eq (plE (callE "len" (plS [(plName 8)]))) (plE (cst (.int 2))))), (tstE (cmpE .Eq (plE (methE (plE (binE itemW (plName 8) (plE (cst (.int 1))))) "count" (plS [(plE (cst (.str "-")))]))) (plE (cst (.int 1)))))]) (blkS [actS (setS 1 [] 9 (methE (plE (binE itemW (plName 8) (plE (cst (.int 1))))) "split" (plS [(plE (cst (.str "-")))]))),
    actS (setS 1 [] 10 (ifE (tstE (cmpE .Eq (plE (binE itemW (plName 9) (plE (cst (.int 1))))) (plE (cst (.str ""))))) (cst .non) (userE C "_law_number_in" (plS [(plE (binE itemW (plName 9) (plE (cst (.int 1)))))])))),
    ifE (orT [(tstE (cmpE .IsNot (plName 10) (plE (cst .non)))), (tstE (cmpE .Eq (plE (binE itemW (plName 9) (plE (cst (.int 1))))) (plE (cst (.str "")))))]) (blkS [retS (tupE (evS [dat (tupE (evS [dat (binE itemW (plName 8) (plE (cst (.int 0)))), dat (userE C "_law_number_in" (plS [(plE (binE itemW (plName 9) (plE (cst (.int 0)))))])), dat (nameE 10)])), dat (sliceE (plName 0) (some (plName 6)) none)]))]) (blkS [])]) (blkS [ifE (andT [(tstE (cmpE .Eq (plE (binE itemW (plName 8) (plE (cst (.int 0))))) (plE (cst (.str "spent"))))), (tstE (cmpE .Eq (plE (callE "len" (plS [(plName 8)]))) (plE (cst (.int 4)))))]) (blkS [retS (tupE (evS [dat (tupE (evS [dat (cst (.str "spent")), dat (binE itemW (plName 8) (plE (cst (.int 1)))), dat (userE C "_law_number_in" (plS [(plE (binE itemW (plName 8) (plE (cst (.int 2)))))])), dat (userE C "_law_number_in" (plS [(plE (binE itemW (plName 8) (plE (cst (.int 3)))))]))])), dat (sliceE (plName 0) (some (plName 6)) none)]))]) (blkS [])])] (k2__law_begin_in C)
def H__law_begin_in (C : Nat → Orc) : Prop := ∀ (k : Nat) (a0 : Sl), C (k + 1) "_law_begin_in" [a0] = fin 1 (b__law_begin_in (C k) [a0, .e, .e, .e, .e, .e, .e, .e, .e, .e, .e])
/-- _law_read_where(text): 0 text 1 where 2 rest -/
noncomputable def b__law_read_where (C : Orc) : M Fl := blkS [actS (M.bind (dat (userE C "_law_begin_in" (plS [(plName 0)]))) (tgTup [tgName 1 [] 1, tgName 1 [] 2])),
  retS (ifE (andT [(tstE (cmpE .Eq (plName 2) (plE (cst (.str ""))))), (truE (plE (userE C "_law_is_where" (plS [(plName 1), (plE (cst (.int 6)))]))))]) (nameE 1) (cst .non))]
def H__law_read_where (C : Nat → Orc) : Prop := ∀ (k : Nat) (a0 : Sl), C (k + 1) "_law_read_where" [a0] = fin 1 (b__law_read_where (C k) [a0, .e, .e])
/-- _law_told(text): 0 text 1 found 2 kind 3 e -/
noncomputable def b__law_told_v6 (C : Orc) : M Fl := blkS [actS (setS 1 [] 1 (cst .non)),
  actS (setS 1 [] 2 (cst (.str ""))),
  tryS 1 [] 3 kcs (blkS [actS (setS 1 [] 1 (userE C "read_where" (plS [(plName 0)])))]) (fun C => blkS [actS (setS 1 [3] 2 (kndE kcs C))]),
  retS (tupE (evS [dat (nameE 1), dat (nameE 2)]))]
def H__law_told_v6 (C : Nat → Orc) : Prop := ∀ (k : Nat) (a0 : Sl), C (k + 1) "_law_told" [a0] = fin 1 (b__law_told_v6 (C k) [a0, .e, .e, .e])
/-- law(script): 0 script 1 k 2 draws 3 names 4 where 5 text 6 turn 7 due 8 odds 9 thing -/
noncomputable def k4_law_k71 (C : Orc) : M Fl := blkS [ifE (tstE (cmpE .NotEq (plE (userE C "_law_told" (plS [(plName 5)]))) (plE (tupE (evS [dat (nameE 7), dat (binE itemW (plE (lstE (evS [dat (cst (.str "NoText+")), dat (cst (.str ""))]))) (plE (callE "int" (plS [(plE (cmpE .IsNot (plName 7) (plE (cst .non))))]))))]))))) (blkS [retS (cst (.bl false))]) (blkS [])]
noncomputable def l3_law_k71 (C : Orc) : M Fl := forS [] (itR1 (plS [(plE (cst (.int 4)))])) (tgName 1 [] 6) (blkT [actS (setS 1 [] 5 (userE C "_law_spoilt" (plS [(plName 5), (plName 2)]))),
    actS (setS 1 [] 7 (userE C "_law_read_where" (plS [(plName 5)]))),
    ifE (andT [(tstE (cmpE .IsNot (plName 7) (plE (cst .non)))), (tstE (cmpE .NotEq (plE (userE C "_law_where_text" (plS [(plName 7)]))) (plName 5)))]) (blkS [retS (cst (.bl false))]) (blkS [])] (k4_law_k71 C))
noncomputable def k2_law_k71 (C : Orc) : M Fl := blkS [(l3_law_k71 C)]
noncomputable def l1_law_k71 (C : Orc) : M Fl := forS [] (itR1 (plS [(plE (callE "max" (plS [(plE (cst (.int 1))), (plE (callE "min" (plS [(plE (cst (.int 10))), (plE (callE "len" (plS [(plName 0)])))])))])))])) (tgName 1 [] 1) (blkT [actS (setS 1 [] 2 (userE C "_law_draws" (plS [(plName 0), (plName 1)]))),
    actS (setS 1 [] 3 (userE C "_law_names" (plS [(plName 2), (plE (cst (.int 5)))]))),
    actS (setS 1 [] 4 (userE C "_law_where" (plS [(plName 2), (plName 3), (plE (userE C "_law_far" (plS [(plName 2)]))), (plE (binE W.add (plE (cst (.int 1))) (plE (userE C "_law_draw" (plS [(plName 2), (plE (cst (.int 6)))])))))]))),
    actS (setS 1 [] 5 (userE C "where_text" (plS [(plName 4)]))),
    ifE (orT [(notT (truE (plE (callE "isinstance" (plS [(plName 5), (plE (cst (.ty "str")))]))))), (tstE (cmpE .NotEq (plName 5) (plE (userE C "_law_where_text" (plS [(plName 4)]))))), (tstE (cmpE .NotEq (plE (userE C "_law_told" (plS [(plName 5)]))) (plE (tupE (evS [dat (nameE 4), dat (cst (.str ""))])))))]) (blkS [retS (cst (.bl false))]) (blkS [])] (k2_law_k71 C))
noncomputable def l5_law_k71 (C : Orc) : M Fl := forS [] (itE (plE (binE W.add (plName 8) (plE (lstE (evS [dat (cst (.str "numbers:03-5")), dat (cst (.str "days:0-")), dat (cst (.str "numbers:0-4")), dat (cst (.str "numbers:5-4")), dat (cst (.str "spent:a:1:0"))])))))) (tgName 1 [] 5) (blkS [actS (setS 1 [] 7 (userE C "_law_read_where" (plS [(plName 5)]))),
    ifE (tstE (cmpE .NotEq (plE (userE C "_law_told" (plS [(plName 5)]))) (plE (tupE (evS [dat (nameE 7), dat (binE itemW (plE (lstE (evS [dat (cst (.str "NoText+")), dat (cst (.str ""))]))) (plE (callE "int" (plS [(plE (cmpE .IsNot (plName 7) (plE (cst .non))))]))))]))))) (blkS [retS (cst (.bl false))]) (blkS [])])
noncomputable def l6_law_k71 (C : Orc) : M Sl := lcE [9] (itE (plE (lstE (evS [dat (cst .non), dat (cst (.int 7)), dat (cst (.bl true)), dat (lstE (evS [dat (cst (.str "all"))])), dat (tupE (evS [dat (cst (.str "all"))]))])))) (tgName 1 [] 9) (tstE (cmpE .NotEq (plE (userE C "_law_told" (plS [(plName 9)]))) (plE (tupE (evS [dat (cst .non), dat (cst (.str "NoText+"))]))))) (dat (nameE 9))
noncomputable def b_law_k71 (C : Orc) : M Fl := blkS [(l1_law_k71 C),
  actS (setS 1 [] 8 (lstE (evS [dat (binE W.add (plE (binE W.mul (plE (cst (.str "!"))) (plE (cst (.int 5))))) (plE (cst (.str "all")))), dat (binE W.add (plE (binE W.mul (plE (cst (.str "!"))) (plE (cst (.int 6))))) (plE (cst (.str "all")))), dat (cst (.str "")), dat (cst (.str "!")), dat (cst (.str "()")), dat (cst (.str "(all&)")), dat (cst (.str "(all&all")), dat (cst (.str "all:"))]))),
  (l5_law_k71 C),
  retS (cmpE .Eq (plE (l6_law_k71 C)) (plE (lstE (evS []))))]
def H_law_k71 (C : Nat → Orc) : Prop := ∀ (k : Nat) (a0 : Sl), C (k + 1) "law" [a0] = fin 1 (b_law_k71 (C k) [a0, .e, .e, .e, .e, .e, .e, .e, .e, .e])
end P

-- K71Tie
set_option maxHeartbeats 0
namespace K71
open PySem PySem.Spec PyProof.Rows L2 Pf
theorem t_is_whole (C : Orc) : blkS ((defBody r_is_whole.st).map (sN (defScope r_is_whole.st) 20 ⟨G, r_is_whole.N, r_is_whole.ps.length, [], C, "is_whole"⟩)) = P.b_is_whole C := by kernel_rfl
theorem h_is_whole : P.H_is_whole C := fun k a0 => (callN_at (d := r_is_whole) rfl k _).trans ((congrArg (fun m => bodyRun m 1 1 [a0]) (t_is_whole (C k))).trans (body_fin rfl))
theorem t_is_span (C : Orc) : blkS ((defBody r_is_span.st).map (sN (defScope r_is_span.st) 20 ⟨G, r_is_span.N, r_is_span.ps.length, [], C, "is_span"⟩)) = P.b_is_span C := by kernel_rfl
theorem h_is_span : P.H_is_span C := fun k a0 => (callN_at (d := r_is_span) rfl k _).trans ((congrArg (fun m => bodyRun m 1 1 [a0]) (t_is_span (C k))).trans (body_fin rfl))
theorem t_is_name (C : Orc) : blkS ((defBody r_is_name.st).map (sN (defScope r_is_name.st) 20 ⟨G, r_is_name.N, r_is_name.ps.length, [], C, "is_name"⟩)) = P.b_is_name C := by kernel_rfl
theorem h_is_name : P.H_is_name C := fun k a0 => (callN_at (d := r_is_name) rfl k _).trans ((congrArg (fun m => bodyRun m 2 1 [a0]) (t_is_name (C k))).trans (body_fin rfl))
theorem t_is_count (C : Orc) : blkS ((defBody r_is_count.st).map (sN (defScope r_is_count.st) 20 ⟨G, r_is_count.N, r_is_count.ps.length, [], C, "is_count"⟩)) = P.b_is_count C := by kernel_rfl
theorem h_is_count : P.H_is_count C := fun k a0 a1 => (callN_at (d := r_is_count) rfl k _).trans ((congrArg (fun m => bodyRun m 2 2 [a0, a1]) (t_is_count (C k))).trans (body_fin rfl))
theorem t_is_plain (C : Orc) : blkS ((defBody r_is_plain.st).map (sN (defScope r_is_plain.st) 20 ⟨G, r_is_plain.N, r_is_plain.ps.length, [], C, "is_plain"⟩)) = P.b_is_plain C := by kernel_rfl
theorem h_is_plain : P.H_is_plain C := fun k a0 => (callN_at (d := r_is_plain) rfl k _).trans ((congrArg (fun m => bodyRun m 1 1 [a0]) (t_is_plain (C k))).trans (body_fin rfl))
theorem t_is_within (C : Orc) : blkS ((defBody r_is_within.st).map (sN (defScope r_is_within.st) 20 ⟨G, r_is_within.N, r_is_within.ps.length, [], C, "is_within"⟩)) = P.b_is_within C := by kernel_rfl
theorem h_is_within : P.H_is_within C := fun k a0 a1 => (callN_at (d := r_is_within) rfl k _).trans ((congrArg (fun m => bodyRun m 2 2 [a0, a1]) (t_is_within (C k))).trans (body_fin rfl))
theorem t_is_where (C : Orc) : blkS ((defBody r_is_where.st).map (sN (defScope r_is_where.st) 20 ⟨G, r_is_where.N, r_is_where.ps.length, [], C, "is_where"⟩)) = P.b_is_where C := by kernel_rfl
theorem h_is_where : P.H_is_where C := fun k a0 => (callN_at (d := r_is_where) rfl k _).trans ((congrArg (fun m => bodyRun m 1 1 [a0]) (t_is_where (C k))).trans (body_fin rfl))
theorem t_number_in (C : Orc) : blkS ((defBody r_number_in.st).map (sN (defScope r_number_in.st) 20 ⟨G, r_number_in.N, r_number_in.ps.length, [], C, "number_in"⟩)) = P.b_number_in C := by kernel_rfl
theorem h_number_in : P.H_number_in C := fun k a0 => (callN_at (d := r_number_in) rfl k _).trans ((congrArg (fun m => bodyRun m 2 1 [a0]) (t_number_in (C k))).trans (body_fin rfl))
theorem t_span_text (C : Orc) : blkS ((defBody r_span_text.st).map (sN (defScope r_span_text.st) 20 ⟨G, r_span_text.N, r_span_text.ps.length, [], C, "span_text"⟩)) = P.b_span_text C := by kernel_rfl
theorem h_span_text : P.H_span_text C := fun k a0 a1 => (callN_at (d := r_span_text) rfl k _).trans ((congrArg (fun m => bodyRun m 2 2 [a0, a1]) (t_span_text (C k))).trans (body_fin rfl))
theorem t_where_text (C : Orc) : blkS ((defBody r_where_text.st).map (sN (defScope r_where_text.st) 20 ⟨G, r_where_text.N, r_where_text.ps.length, [], C, "where_text"⟩)) = P.b_where_text C := by kernel_rfl
theorem h_where_text : P.H_where_text C := fun k a0 => (callN_at (d := r_where_text) rfl k _).trans ((congrArg (fun m => bodyRun m 3 1 [a0]) (t_where_text (C k))).trans (body_fin rfl))
theorem t_plain_in (C : Orc) : blkS ((defBody r_plain_in.st).map (sN (defScope r_plain_in.st) 20 ⟨G, r_plain_in.N, r_plain_in.ps.length, [], C, "plain_in"⟩)) = P.b_plain_in C := by kernel_rfl
theorem h_plain_in : P.H_plain_in C := fun k a0 => (callN_at (d := r_plain_in) rfl k _).trans ((congrArg (fun m => bodyRun m 4 1 [a0]) (t_plain_in (C k))).trans (body_fin rfl))
theorem t_parted (C : Orc) : blkS ((defBody r_parted.st).map (sN (defScope r_parted.st) 20 ⟨G, r_parted.N, r_parted.ps.length, [], C, "parted"⟩)) = P.b_parted C := by kernel_rfl
theorem h_parted : P.H_parted C := fun k a0 => (callN_at (d := r_parted) rfl k _).trans ((congrArg (fun m => bodyRun m 4 1 [a0]) (t_parted (C k))).trans (body_fin rfl))
theorem t_where_in (C : Orc) : blkS ((defBody r_where_in.st).map (sN (defScope r_where_in.st) 20 ⟨G, r_where_in.N, r_where_in.ps.length, [], C, "where_in"⟩)) = P.b_where_in C := by kernel_rfl
theorem h_where_in : P.H_where_in C := fun k a0 a1 => (callN_at (d := r_where_in) rfl k _).trans ((congrArg (fun m => bodyRun m 4 2 [a0, a1]) (t_where_in (C k))).trans (body_fin rfl))
theorem t_read_where (C : Orc) : blkS ((defBody r_read_where.st).map (sN (defScope r_read_where.st) 20 ⟨G, r_read_where.N, r_read_where.ps.length, [], C, "read_where"⟩)) = P.b_read_where C := by kernel_rfl
theorem h_read_where : P.H_read_where C := fun k a0 => (callN_at (d := r_read_where) rfl k _).trans ((congrArg (fun m => bodyRun m 2 1 [a0]) (t_read_where (C k))).trans (body_fin rfl))
theorem t__law_draw (C : Orc) : blkS ((defBody r__law_draw.st).map (sN (defScope r__law_draw.st) 20 ⟨G, r__law_draw.N, r__law_draw.ps.length, [], C, "_law_draw"⟩)) = P.b__law_draw C := by kernel_rfl
theorem h__law_draw : P.H__law_draw C := fun k a0 a1 => (callN_at (d := r__law_draw) rfl k _).trans ((congrArg (fun m => bodyRun m 4 2 [a0, a1]) (t__law_draw (C k))).trans (body_fin rfl))
theorem t__law_number (C : Orc) : blkS ((defBody r__law_number.st).map (sN (defScope r__law_number.st) 20 ⟨G, r__law_number.N, r__law_number.ps.length, [], C, "_law_number"⟩)) = P.b__law_number C := by kernel_rfl
theorem h__law_number : P.H__law_number C := fun k a0 a1 => (callN_at (d := r__law_number) rfl k _).trans ((congrArg (fun m => bodyRun m 3 2 [a0, a1]) (t__law_number (C k))).trans (body_fin rfl))
theorem t__law_span (C : Orc) : blkS ((defBody r__law_span.st).map (sN (defScope r__law_span.st) 20 ⟨G, r__law_span.N, r__law_span.ps.length, [], C, "_law_span"⟩)) = P.b__law_span C := by kernel_rfl
theorem h__law_span : P.H__law_span C := fun k a0 a1 => (callN_at (d := r__law_span) rfl k _).trans ((congrArg (fun m => bodyRun m 3 2 [a0, a1]) (t__law_span (C k))).trans (body_fin rfl))
theorem t__law_draws (C : Orc) : blkS ((defBody r__law_draws.st).map (sN (defScope r__law_draws.st) 20 ⟨G, r__law_draws.N, r__law_draws.ps.length, [], C, "_law_draws"⟩)) = P.b__law_draws C := by kernel_rfl
theorem h__law_draws : P.H__law_draws C := fun k a0 a1 => (callN_at (d := r__law_draws) rfl k _).trans ((congrArg (fun m => bodyRun m 3 2 [a0, a1]) (t__law_draws (C k))).trans (body_fin rfl))
theorem t__law_name (C : Orc) : blkS ((defBody r__law_name.st).map (sN (defScope r__law_name.st) 20 ⟨G, r__law_name.N, r__law_name.ps.length, [], C, "_law_name"⟩)) = P.b__law_name C := by kernel_rfl
theorem h__law_name : P.H__law_name C := fun k a0 a1 => (callN_at (d := r__law_name) rfl k _).trans ((congrArg (fun m => bodyRun m 4 2 [a0, a1]) (t__law_name (C k))).trans (body_fin rfl))
theorem t__law_any_order (C : Orc) : blkS ((defBody r__law_any_order.st).map (sN (defScope r__law_any_order.st) 20 ⟨G, r__law_any_order.N, r__law_any_order.ps.length, [], C, "_law_any_order"⟩)) = P.b__law_any_order C := by kernel_rfl
theorem h__law_any_order : P.H__law_any_order C := fun k a0 a1 => (callN_at (d := r__law_any_order) rfl k _).trans ((congrArg (fun m => bodyRun m 4 2 [a0, a1]) (t__law_any_order (C k))).trans (body_fin rfl))
theorem t__law_names (C : Orc) : blkS ((defBody r__law_names.st).map (sN (defScope r__law_names.st) 20 ⟨G, r__law_names.N, r__law_names.ps.length, [], C, "_law_names"⟩)) = P.b__law_names C := by kernel_rfl
theorem h__law_names : P.H__law_names C := fun k a0 a1 => (callN_at (d := r__law_names) rfl k _).trans ((congrArg (fun m => bodyRun m 3 2 [a0, a1]) (t__law_names (C k))).trans (body_fin rfl))
theorem t__law_where (C : Orc) : blkS ((defBody r__law_where.st).map (sN (defScope r__law_where.st) 20 ⟨G, r__law_where.N, r__law_where.ps.length, [], C, "_law_where"⟩)) = P.b__law_where C := by kernel_rfl
theorem h__law_where : P.H__law_where C := fun k a0 a1 a2 a3 => (callN_at (d := r__law_where) rfl k _).trans ((congrArg (fun m => bodyRun m 6 4 [a0, a1, a2, a3]) (t__law_where (C k))).trans (body_fin rfl))
theorem t__law_far (C : Orc) : blkS ((defBody r__law_far.st).map (sN (defScope r__law_far.st) 20 ⟨G, r__law_far.N, r__law_far.ps.length, [], C, "_law_far"⟩)) = P.b__law_far C := by kernel_rfl
theorem h__law_far : P.H__law_far C := fun k a0 => (callN_at (d := r__law_far) rfl k _).trans ((congrArg (fun m => bodyRun m 1 1 [a0]) (t__law_far (C k))).trans (body_fin rfl))
theorem t__law_span_text (C : Orc) : blkS ((defBody r__law_span_text.st).map (sN (defScope r__law_span_text.st) 20 ⟨G, r__law_span_text.N, r__law_span_text.ps.length, [], C, "_law_span_text"⟩)) = P.b__law_span_text C := by kernel_rfl
theorem h__law_span_text : P.H__law_span_text C := fun k a0 a1 => (callN_at (d := r__law_span_text) rfl k _).trans ((congrArg (fun m => bodyRun m 2 2 [a0, a1]) (t__law_span_text (C k))).trans (body_fin rfl))
theorem t__law_where_text (C : Orc) : blkS ((defBody r__law_where_text.st).map (sN (defScope r__law_where_text.st) 20 ⟨G, r__law_where_text.N, r__law_where_text.ps.length, [], C, "_law_where_text"⟩)) = P.b__law_where_text C := by kernel_rfl
theorem h__law_where_text : P.H__law_where_text C := fun k a0 => (callN_at (d := r__law_where_text) rfl k _).trans ((congrArg (fun m => bodyRun m 3 1 [a0]) (t__law_where_text (C k))).trans (body_fin rfl))
theorem t__law_spoilt (C : Orc) : blkS ((defBody r__law_spoilt.st).map (sN (defScope r__law_spoilt.st) 20 ⟨G, r__law_spoilt.N, r__law_spoilt.ps.length, [], C, "_law_spoilt"⟩)) = P.b__law_spoilt C := by kernel_rfl
theorem h__law_spoilt : P.H__law_spoilt C := fun k a0 a1 => (callN_at (d := r__law_spoilt) rfl k _).trans ((congrArg (fun m => bodyRun m 9 2 [a0, a1]) (t__law_spoilt (C k))).trans (body_fin rfl))
theorem t__law_number_in (C : Orc) : blkS ((defBody r__law_number_in.st).map (sN (defScope r__law_number_in.st) 20 ⟨G, r__law_number_in.N, r__law_number_in.ps.length, [], C, "_law_number_in"⟩)) = P.b__law_number_in C := by kernel_rfl
theorem h__law_number_in : P.H__law_number_in C := fun k a0 => (callN_at (d := r__law_number_in) rfl k _).trans ((congrArg (fun m => bodyRun m 2 1 [a0]) (t__law_number_in (C k))).trans (body_fin rfl))
theorem t__law_begin_in (C : Orc) : blkS ((defBody r__law_begin_in.st).map (sN (defScope r__law_begin_in.st) 20 ⟨G, r__law_begin_in.N, r__law_begin_in.ps.length, [], C, "_law_begin_in"⟩)) = P.b__law_begin_in C := by kernel_rfl
theorem h__law_begin_in : P.H__law_begin_in C := fun k a0 => (callN_at (d := r__law_begin_in) rfl k _).trans ((congrArg (fun m => bodyRun m 11 1 [a0]) (t__law_begin_in (C k))).trans (body_fin rfl))
theorem t__law_whole (C : Orc) : blkS ((defBody r__law_whole.st).map (sN (defScope r__law_whole.st) 20 ⟨G, r__law_whole.N, r__law_whole.ps.length, [], C, "_law_whole"⟩)) = P.b__law_whole C := by kernel_rfl
theorem h__law_whole : P.H__law_whole C := fun k a0 => (callN_at (d := r__law_whole) rfl k _).trans ((congrArg (fun m => bodyRun m 1 1 [a0]) (t__law_whole (C k))).trans (body_fin rfl))
theorem t__law_from (C : Orc) : blkS ((defBody r__law_from.st).map (sN (defScope r__law_from.st) 20 ⟨G, r__law_from.N, r__law_from.ps.length, [], C, "_law_from"⟩)) = P.b__law_from C := by kernel_rfl
theorem h__law_from : P.H__law_from C := fun k a0 a1 => (callN_at (d := r__law_from) rfl k _).trans ((congrArg (fun m => bodyRun m 2 2 [a0, a1]) (t__law_from (C k))).trans (body_fin rfl))
theorem t__law_is_name (C : Orc) : blkS ((defBody r__law_is_name.st).map (sN (defScope r__law_is_name.st) 20 ⟨G, r__law_is_name.N, r__law_is_name.ps.length, [], C, "_law_is_name"⟩)) = P.b__law_is_name C := by kernel_rfl
theorem h__law_is_name : P.H__law_is_name C := fun k a0 => (callN_at (d := r__law_is_name) rfl k _).trans ((congrArg (fun m => bodyRun m 2 1 [a0]) (t__law_is_name (C k))).trans (body_fin rfl))
theorem t__law_is_tuple (C : Orc) : blkS ((defBody r__law_is_tuple.st).map (sN (defScope r__law_is_tuple.st) 20 ⟨G, r__law_is_tuple.N, r__law_is_tuple.ps.length, [], C, "_law_is_tuple"⟩)) = P.b__law_is_tuple C := by kernel_rfl
theorem h__law_is_tuple : P.H__law_is_tuple C := fun k a0 a1 => (callN_at (d := r__law_is_tuple) rfl k _).trans ((congrArg (fun m => bodyRun m 2 2 [a0, a1]) (t__law_is_tuple (C k))).trans (body_fin rfl))
theorem t__law_is_span (C : Orc) : blkS ((defBody r__law_is_span.st).map (sN (defScope r__law_is_span.st) 20 ⟨G, r__law_is_span.N, r__law_is_span.ps.length, [], C, "_law_is_span"⟩)) = P.b__law_is_span C := by kernel_rfl
theorem h__law_is_span : P.H__law_is_span C := fun k a0 => (callN_at (d := r__law_is_span) rfl k _).trans ((congrArg (fun m => bodyRun m 1 1 [a0]) (t__law_is_span (C k))).trans (body_fin rfl))
theorem t__law_is_where (C : Orc) : blkS ((defBody r__law_is_where.st).map (sN (defScope r__law_is_where.st) 20 ⟨G, r__law_is_where.N, r__law_is_where.ps.length, [], C, "_law_is_where"⟩)) = P.b__law_is_where C := by kernel_rfl
theorem h__law_is_where : P.H__law_is_where C := fun k a0 a1 => (callN_at (d := r__law_is_where) rfl k _).trans ((congrArg (fun m => bodyRun m 4 2 [a0, a1]) (t__law_is_where (C k))).trans (body_fin rfl))
theorem t__law_read_where (C : Orc) : blkS ((defBody r__law_read_where.st).map (sN (defScope r__law_read_where.st) 20 ⟨G, r__law_read_where.N, r__law_read_where.ps.length, [], C, "_law_read_where"⟩)) = P.b__law_read_where C := by kernel_rfl
theorem h__law_read_where : P.H__law_read_where C := fun k a0 => (callN_at (d := r__law_read_where) rfl k _).trans ((congrArg (fun m => bodyRun m 3 1 [a0]) (t__law_read_where (C k))).trans (body_fin rfl))
theorem t__law_plain_where (C : Orc) : blkS ((defBody r__law_plain_where.st).map (sN (defScope r__law_plain_where.st) 20 ⟨G, r__law_plain_where.N, r__law_plain_where.ps.length, [], C, "_law_plain_where"⟩)) = P.b__law_plain_where C := by kernel_rfl
theorem h__law_plain_where : P.H__law_plain_where C := fun k a0 a1 a2 => (callN_at (d := r__law_plain_where) rfl k _).trans ((congrArg (fun m => bodyRun m 6 3 [a0, a1, a2]) (t__law_plain_where (C k))).trans (body_fin rfl))
theorem t__law_told (C : Orc) : blkS ((defBody r__law_told.st).map (sN (defScope r__law_told.st) 20 ⟨G, r__law_told.N, r__law_told.ps.length, [], C, "_law_told"⟩)) = P.b__law_told_v6 C := by kernel_rfl
theorem h__law_told : P.H__law_told_v6 C := fun k a0 => (callN_at (d := r__law_told) rfl k _).trans ((congrArg (fun m => bodyRun m 4 1 [a0]) (t__law_told (C k))).trans (body_fin rfl))
theorem t_law (C : Orc) : blkS ((defBody r_law.st).map (sN (defScope r_law.st) 20 ⟨G, r_law.N, r_law.ps.length, [], C, "law"⟩)) = P.b_law_k71 C := by kernel_rfl
theorem h_law : P.H_law_k71 C := fun k a0 => (callN_at (d := r_law) rfl k _).trans ((congrArg (fun m => bodyRun m 10 1 [a0]) (t_law (C k))).trans (body_fin rfl))
end K71

-- LbDraw
set_option maxHeartbeats 4000000
namespace P
open PySem Pf
/-- a list of draws -/
def Dr (ds : List W) : Prop := ∃ a b : Int, ds = [.int a, .int b] ∧ 0 ≤ b ∧ b < 2147483648
theorem draw {C : Nat → Orc} (h : H__law_draw C) (k : Nat) {ds : List W} {n : Int} (hd : Dr ds) (h1 : 1 ≤ n) (h2 : n < 2 ^ 600) :
    ∃ v ds', C (k + 1) "_law_draw" [.o (.lst ds), .d (.int n)] = .ret (.d (.int v)) [.o (.lst ds'), .d (.int n)] ∧ Dr ds' ∧ 0 ≤ v ∧ v < n := by
  obtain ⟨a, b, rfl, hb1, hb2⟩ := hd
  rw [h]
  unfold b__law_draw
  have hn0 : (0 : Int) < n := by omega
  have hlg : n.natAbs.log2 < 9000 := by
    have : n.natAbs < 2 ^ 600 := by omega
    have := log2_lt this
    omega
  by_cases ha : 0 < a
  · refine ⟨a % n, [.int (a / n), .int b], ?_, ⟨_, _, rfl, hb1, hb2⟩, Int.emod_nonneg _ (by omega), Int.emod_lt_of_pos _ hn0⟩
    simp [ixOf, ha, hn0, hlg]
  · have hw0 : ∃ ρ', l1__law_draw (C k) [.o (.lst [.int a, .int b]), .d (.int n), .d (.int 0), .d (.int 1)] = .ok .nx ρ' ∧ ∃ f x w' b : Int, ρ' = [.o (.lst [.int a, .int b]), .d (.int n), .d (.int f), .d (.int x)] ∧ 0 ≤ b ∧ b < 2147483648 := while_ok
      (fun m ρ => ∃ b f x : Int, ρ = [.o (.lst [.int a, .int b]), .d (.int n), .d (.int f), .d (.int x)] ∧ 0 ≤ b ∧ b < 2147483648 ∧ 0 ≤ f ∧ f < x ∧ 0 < x ∧ x < n * 2 ^ 30 ∧ (m : Int) = (n + 2 ^ 30 * n - x).toNat)
      (fun ρ => ∃ f x w' b : Int, ρ = [.o (.lst [.int a, .int b]), .d (.int n), .d (.int f), .d (.int x)] ∧ 0 ≤ b ∧ b < 2147483648)
      (fun m ρ ⟨b, f, x, e, h3, h4, h5, h6, h7, h8, h9⟩ => by
        subst e
        by_cases hx : x < n
        · refine .inr ⟨[.o (.lst [.int a, .int b]), .d (.int n), .d (.int f), .d (.int x)], [.o (.lst [.int a, .int (b * 69621 % 2147483647)]), .d (.int n), .d (.int (f * 268435456 + (b * 69621 % 2147483647 * (b * 69621 % 2147483647 / 128 + 3) % 2147483629 / 8))), .d (.int (x * 268435456))], ?_, .inl ?_, ((n + 2 ^ 30 * n - x * 268435456).toNat), ?_, _, _, _, rfl, ?_⟩
          · simp [hx]
          · have m1 : mulOk b 69621 = true := mulOk_of 32 17 (by omega) (by decide) (by decide)
            have m2 : mulOk f 268435456 = true := mulOk_of 700 29 (by omega) (by decide) (by decide)
            have m3 : mulOk x 268435456 = true := mulOk_of 700 29 (by omega) (by decide) (by decide)
            have m4 : mulOk (b * 69621 % 2147483647) (b * 69621 % 2147483647 / 128 + 3) = true := mulOk_of 32 32 (by omega) (by omega) (by decide)
            simp [ixOf, m1, m2, m3, m4]
          · omega
          · omega
        · refine .inl ⟨_, ?_, f, x, 0, b, rfl, h3, h4⟩
          simp [hx]) (n := (n + 2 ^ 30 * n - 1).toNat) (ρ := [.o (.lst [.int a, .int b]), .d (.int n), .d (.int 0), .d (.int 1)]) ⟨b, 0, 1, rfl, hb1, hb2, by omega, by omega, by omega, by omega, by omega⟩
    obtain ⟨ρ', hw, f, x, w', b', he, hb1', hb2'⟩ := hw0
    refine ⟨f % n, [.int a, .int b'], ?_, ⟨_, _, rfl, hb1', hb2'⟩, Int.emod_nonneg _ (by omega), Int.emod_lt_of_pos _ hn0⟩
    subst he
    simp [ixOf, ha, hw, hn0]

theorem pick {xs : List W} {n : Nat} {i : Int} (hn : xs.length = n) (h0 : 0 ≤ i) (h : i < n) : ∃ y, y ∈ xs ∧ ((ixOf n i).bind fun j => xs[j]?) = some y := by
  subst hn
  refine ⟨xs[i.toNat]'(by omega), List.getElem_mem _, ?_⟩
  rw [ixOf_lt h0 h]
  exact List.getElem?_eq_getElem _
theorem number {C : Nat → Orc} (h : H__law_draw C) (hn : H__law_number C) (k : Nat) {ds : List W} {n : Int} (hd : Dr ds) (h1 : 1 ≤ n) (h2 : n < 2 ^ 590) :
    ∃ v ds', C (k + 2) "_law_number" [.o (.lst ds), .d (.int n)] = .ret (.d (.int v)) [.o (.lst ds'), .d (.int n)] ∧ Dr ds' ∧ 1 ≤ v ∧ (v ≤ n ∨ v ≤ 40) := by
  obtain ⟨v1, d1, e1, g1, l1, u1⟩ := draw h k hd (n := 9) (by decide) (by decide)
  obtain ⟨v2, d2, e2, g2, l2, u2⟩ := draw h k g1 (n := 40) (by decide) (by decide)
  obtain ⟨v3, d3, e3, g3, l3, u3⟩ := draw h k g2 (n := n) (by omega) (by omega)
  obtain ⟨v4, d4, e4, g4, l4, u4⟩ := draw h k g3 (n := 8) (by decide) (by decide)
  obtain ⟨y, hy, ey⟩ := pick (xs := [.int (1 + v1), .int (1 + v2), .int (1 + v3), .int n]) (n := 4) (i := v4 / 2) rfl (by omega) (by omega)
  have hy' : ∃ v, y = .int v ∧ 1 ≤ v ∧ (v ≤ n ∨ v ≤ 40) := by
    simp at hy
    rcases hy with rfl | rfl | rfl | rfl
    · exact ⟨_, rfl, by omega, by omega⟩
    · exact ⟨_, rfl, by omega, by omega⟩
    · exact ⟨_, rfl, by omega, by omega⟩
    · exact ⟨_, rfl, by omega, by omega⟩
  obtain ⟨v, rfl, hv1, hv2⟩ := hy'
  refine ⟨v, d4, ?_, g4, hv1, hv2⟩
  rw [hn]
  unfold b__law_number
  simp [e1, e2, e3, e4, ey, sizeLine]
theorem span {C : Nat → Orc} (h : H__law_draw C) (hn : H__law_number C) (hs : H__law_span C) (k : Nat) {ds : List W} {n : Int} (hd : Dr ds) (h1 : 1 ≤ n) (h2 : n < 2 ^ 590) :
    ∃ a y ds', C (k + 3) "_law_span" [.o (.lst ds), .d (.int n)] = .ret (.d (.tup [.int a, y])) [.o (.lst ds'), .d (.int n)] ∧ Dr ds' ∧ 1 ≤ a ∧ (a ≤ n ∨ a ≤ 40) ∧ (y = .non ∨ ∃ b, y = .int b ∧ a ≤ b ∧ b < 2 ^ 592) := by
  obtain ⟨a, d0, e0, g0, l0, u0⟩ := number h hn k hd h1 h2
  obtain ⟨v1, d1, e1, g1, l1, u1⟩ := draw h (k + 1) g0 (n := 9) (by decide) (by decide)
  obtain ⟨b, d2, e2, g2, l2, u2⟩ := number h hn k g1 h1 h2
  obtain ⟨v3, d3, e3, g3, l3, u3⟩ := draw h (k + 1) g2 (n := 4) (by decide) (by decide)
  obtain ⟨y, hy, ey⟩ := pick (xs := [.non, .int a, .int (a + v1), .int (a + b)]) (n := 4) (i := v3) rfl (by omega) (by omega)
  refine ⟨a, y, d3, ?_, g3, l0, u0, ?_⟩
  · rw [hs]
    unfold b__law_span
    simp [e0, e1, e2, e3, ey, sizeLine]
  · simp at hy
    rcases hy with rfl | rfl | rfl | rfl
    · exact .inl rfl
    · exact .inr ⟨_, rfl, by omega, by omega⟩
    · exact .inr ⟨_, rfl, by omega, by omega⟩
    · exact .inr ⟨_, rfl, by omega, by omega⟩
theorem far {C : Nat → Orc} (h : H__law_draw C) (hf : H__law_far C) (k : Nat) {ds : List W} (hd : Dr ds) :
    ∃ v ds', C (k + 2) "_law_far" [.o (.lst ds)] = .ret (.d (.int v)) [.o (.lst ds')] ∧ Dr ds' ∧ (v = 30 ∨ v = 60 ∨ v = 10 ^ 6 ∨ v = 10 ^ 40) := by
  obtain ⟨v1, d1, e1, g1, l1, u1⟩ := draw h k hd (n := 4) (by decide) (by decide)
  obtain ⟨y, hy, ey⟩ := pick (xs := [.int 30, .int 60, .int 1000000, .int 10000000000000000000000000000000000000000]) (n := 4) (i := v1) rfl (by omega) (by omega)
  have hy' : ∃ v, y = .int v ∧ (v = 30 ∨ v = 60 ∨ v = 10 ^ 6 ∨ v = 10 ^ 40) := by
    simp at hy
    rcases hy with rfl | rfl | rfl | rfl <;> exact ⟨_, rfl, by decide⟩
  obtain ⟨v, rfl, hv⟩ := hy'
  refine ⟨v, d1, ?_, g1, hv⟩
  rw [hf]
  unfold b__law_far
  simp [e1, ey, sizeLine]
theorem draws {C : Nat → Orc} (hs : H__law_draws C) (k : Nat) {ns : List Int} {j : Int} (h0 : 0 ≤ j) (h1 : j < 2 ^ 30) (hlen : ns.length ≤ 63) :
    ∃ ds, C (k + 1) "_law_draws" [.d (.scr ns), .d (.int j)] = .ret (.o (.lst ds)) [.d (.scr ns), .d (.int j)] ∧ Dr ds := by
  rw [hs]
  unfold b__law_draws
  have m0 : mulOk 15485863 j = true := mulOk_of 32 32 (by decide) (by omega) (by decide)
  have m00 : mulOk 1000000000000000000000000000000000000000000000000000000000000 1000000000000000000000000000000000000000000000000000000000000 = true := mulOk_of 300 300 (by decide) (by decide) (by decide)
  have m01 : mulOk 86028121 (j + 1) = true := mulOk_of 32 32 (by decide) (by omega) (by decide)
  have m02 : ∀ c : Int, c.natAbs < 2 ^ 600 → mulOk c 69621 = true := fun c hc => mulOk_of 600 32 hc (by decide) (by decide)
  have m03 : ∀ (c : Int) (b : Prop) [Decidable b], c.natAbs < 2 ^ 600 → mulOk c (if b then 1 else 0) = true := fun c b _ hc => mulOk_of 600 32 hc (by split <;> decide) (by decide)
  have key : ∀ c : Int, c.natAbs < 2 ^ 600 → Dr [.int (c * (if decide (10 ^ 18 ≤ c) = true then 1 else 0)), .int (1 + (c * 69621 + 86028121 * (j + 1)) % 2147483646)] := fun c _ => ⟨_, _, rfl, by omega, by omega⟩
  by_cases hj : j < (ns.length : Int)
  · have hx : ixOf ns.length j = some j.toNat := ixOf_lt h0 hj
    have hg : ns[j.toNat]? = some (ns[j.toNat]'(by omega)) := List.getElem?_eq_getElem _
    have hc : ((ns[j.toNat]'(by omega)) % 1000000000000000000000000000000000000000000000000000000000000000000000000000000000000000000000000000000000000000000000000 : Int).natAbs < 2 ^ 600 := by omega
    refine ⟨_, ?_, key _ hc⟩
    simp [k1__law_draws, m0, m00, m01, m02 _ hc, m03 _ _ hc, hj, hx, hg, sizeLine]
  · by_cases hz : 0 < ns.length
    · have hx : ixOf ns.length (j % ns.length) = some (j % ns.length).toNat := ixOf_lt (Int.emod_nonneg _ (by omega)) (Int.emod_lt_of_pos _ (by omega))
      have hlt := Int.emod_lt_of_pos j (b := ns.length) (by omega)
      have hge := Int.emod_nonneg j (b := ns.length) (by omega)
      have hg : ns[(j % ns.length).toNat]? = some (ns[(j % ns.length).toNat]'(by omega)) := List.getElem?_eq_getElem _
      have hc : ((ns[(j % ns.length).toNat]'(by omega)) % 1000000000000000 + 15485863 * j : Int).natAbs < 2 ^ 600 := by omega
      refine ⟨_, ?_, key _ hc⟩
      simp [k1__law_draws, m0, m00, m01, m02 _ hc, m03 _ _ hc, hj, hz, hx, hg, sizeLine]
    · have hc : (15485863 * j : Int).natAbs < 2 ^ 600 := by omega
      refine ⟨_, ?_, key _ hc⟩
      simp [k1__law_draws, m0, m00, m01, m02 _ hc, m03 _ _ hc, hj, hz, sizeLine]

/-- data no deeper than n, its lists no longer than b -/
def Ok (b : Nat) : Nat → W → Prop
  | _, .non => True
  | _, .bl _ => True
  | _, .int _ => True
  | _, .str s => PyData.strOk s = true ∧ s.length ≤ 1000000
  | n + 1, .tup ws => ws.length ≤ b ∧ ∀ w ∈ ws, Ok b n w
  | n + 1, .lst ws => ws.length ≤ b ∧ ∀ w ∈ ws, Ok b n w
  | _, _ => False
theorem Ok.mono {b b' : Nat} (hb : b ≤ b') : ∀ {n m : Nat} {w : W}, n ≤ m → Ok b n w → Ok b' m w := by
  intro n
  induction n with
  | zero => intro m w hm h; cases w <;> first | (cases m <;> simpa [Ok] using h) | (simp [Ok] at h)
  | succ n ih =>
    intro m w hm h
    obtain ⟨m, rfl⟩ : ∃ k, m = k + 1 := ⟨m - 1, by omega⟩
    cases w <;> first | (simpa [Ok] using h) | skip
    all_goals
      simp only [Ok] at h ⊢
      exact ⟨by omega, fun w hw => ih (by omega) (h.2 w hw)⟩
theorem datL_of : ∀ {ws : List W}, (∀ w ∈ ws, w.dat = true) → W.datL ws = true
  | [], _ => rfl
  | w :: ws, h => by
    show (w.dat && W.datL ws) = true
    rw [h w List.mem_cons_self, datL_of fun x hx => h x (List.mem_cons_of_mem _ hx)]
    rfl
theorem depL_of {n : Nat} : ∀ {ws : List W}, (∀ w ∈ ws, w.depth ≤ n) → W.depthL ws ≤ n
  | [], _ => Nat.zero_le _
  | w :: ws, h => by
    show max w.depth (W.depthL ws) ≤ n
    exact Nat.max_le.mpr ⟨h w List.mem_cons_self, depL_of fun x hx => h x (List.mem_cons_of_mem _ hx)⟩
theorem Ok.dat {b : Nat} : ∀ {n : Nat} {w : W}, Ok b n w → w.dat = true ∧ w.depth ≤ n := by
  intro n
  induction n with
  | zero => intro w h; cases w <;> first | (simp [Ok] at h; done) | exact ⟨rfl, Nat.zero_le _⟩ | exact ⟨h.1, Nat.zero_le _⟩
  | succ n ih =>
    intro w h
    cases w <;> first | (simp [Ok] at h; done) | exact ⟨rfl, Nat.zero_le _⟩ | exact ⟨h.1, Nat.zero_le _⟩ | skip
    all_goals
      simp only [Ok] at h
      exact ⟨datL_of fun w hw => (ih (h.2 w hw)).1, Nat.succ_le_succ (depL_of fun w hw => (ih (h.2 w hw)).2)⟩
theorem Ok.shp {b n : Nat} {w : W} (h : Ok b n w) (hn : n ≤ 64) : w.shp = true := by
  unfold W.shp
  rw [h.dat.1]
  have := h.dat.2
  simp
  omega
@[simp] theorem ok_non {b n : Nat} : Ok b n .non = True := by cases n <;> rfl
@[simp] theorem ok_bl {b n : Nat} {p : Bool} : Ok b n (.bl p) = True := by cases n <;> rfl
@[simp] theorem ok_int {b n : Nat} {i : Int} : Ok b n (.int i) = True := by cases n <;> rfl
@[simp] theorem ok_str {b n : Nat} {s : Str} : Ok b n (.str s) = (PyData.strOk s = true ∧ s.length ≤ 1000000) := by cases n <;> rfl
@[simp] theorem ok_tup {b n : Nat} {ws : List W} : Ok b (n + 1) (.tup ws) = (ws.length ≤ b ∧ ∀ w ∈ ws, Ok b n w) := rfl
@[simp] theorem ok_lst {b n : Nat} {ws : List W} : Ok b (n + 1) (.lst ws) = (ws.length ≤ b ∧ ∀ w ∈ ws, Ok b n w) := rfl
/-! ### names -/
/-- a drawn name -/
def Nm (w : W) : Prop := ∃ s : Str, w = .str s ∧ 1 ≤ s.length ∧ s.length ≤ 8 ∧ ∀ c ∈ s.cps.toList, 97 ≤ c ∧ c ≤ 122
def let1 (w : W) : Prop := ∃ c : Nat, w = .str ⟨#[c]⟩ ∧ 97 ≤ c ∧ c ≤ 122
theorem letter {i : Int} (h0 : 0 ≤ i) (h : i < 26) : ∃ c : Nat, 97 ≤ c ∧ c ≤ 122 ∧ itemW (.str "abcdefghijklmnopqrstuvwxyz") (.int i) = some (.d (.str ⟨#[c]⟩)) := by
  obtain ⟨j, rfl⟩ : ∃ j : Nat, i = j := ⟨i.toNat, by omega⟩
  have hj : j < 26 := by omega
  refine ⟨97 + j, by omega, by omega, ?_⟩
  have key : ∀ j, j < 26 → (("abcdefghijklmnopqrstuvwxyz" : Str).cps.toList[j]?) = some (97 + j) := by decide +kernel
  have hl : ("abcdefghijklmnopqrstuvwxyz" : Str).cps.toList.length = 26 := by decide +kernel
  have hl2 : ("abcdefghijklmnopqrstuvwxyz" : Str).length ≤ sizeLine := by decide +kernel
  rw [itemW_s, if_pos hl2, hl, ixOf_lt (by omega) (by omega)]
  show (((("abcdefghijklmnopqrstuvwxyz" : Str).cps.toList[(j : Int).toNat]?).map fun c => W.str ⟨#[c]⟩)).map Sl.d = _
  rw [Int.toNat_natCast, key j hj]
  rfl
end P

-- LbName
namespace P
open PySem Pf
theorem str_app (x y : Str) : (x ++ y).cps.toList = x.cps.toList ++ y.cps.toList := by
  show (x.cps ++ y.cps).toList = _
  simp
theorem str_len (x : Str) : x.length = x.cps.toList.length := by
  show x.cps.size = _
  simp
theorem str_app_len (x y : Str) : (x ++ y).length = x.length + y.length := by rw [str_len, str_len, str_len, str_app, List.length_append]
theorem join_cps : ∀ ys : List Str, (Txt.join "" ys).cps.toList = ys.flatMap fun y => y.cps.toList := by
  intro ys
  rw [show Txt.join "" ys = Str.join "" ys from StrLaws.glued_eq_join _ _]
  induction ys with
  | nil => rfl
  | cons y ys ih =>
    cases ys with
    | nil => simp [Str.join]
    | cons z zs =>
      rw [Str.join, str_app, str_app, ih]
      · rw [show (Str.ofString "").cps.toList = [] by decide +kernel]
        simp
      · simp
theorem sum_ones {A : Type} : ∀ l : List A, (l.map fun _ => 1).sum = l.length
  | [] => rfl
  | _ :: l => by rw [List.map_cons, List.sum_cons, sum_ones l, List.length_cons]; omega
/-- letters as values -/
theorem strs_letters : ∀ ws : List W, (∀ w ∈ ws, let1 w) → ∃ ys : List Str, strsOf ws = some ys ∧ ys.length = ws.length ∧ joinLen "" ys = ws.length ∧ (Txt.join "" ys).length = ws.length ∧ ∀ c ∈ (Txt.join "" ys).cps.toList, 97 ≤ c ∧ c ≤ 122 := by
  intro ws h
  have key : ∃ cs : List Nat, strsOf ws = some (cs.map fun c => ⟨#[c]⟩) ∧ cs.length = ws.length ∧ ∀ c ∈ cs, 97 ≤ c ∧ c ≤ 122 := by
    induction ws with
    | nil => exact ⟨[], rfl, rfl, by simp⟩
    | cons w ws ih =>
      obtain ⟨c, rfl, hc⟩ := h w List.mem_cons_self
      obtain ⟨cs, e, hl, hcs⟩ := ih fun x hx => h x (List.mem_cons_of_mem _ hx)
      refine ⟨c :: cs, ?_, by simp [hl], by simpa using ⟨hc, hcs⟩⟩
      simp [strsOf, e]
  obtain ⟨cs, e, hl, hcs⟩ := key
  have hf : ((cs.map fun c => (⟨#[c]⟩ : Str)).flatMap fun y => y.cps.toList) = cs := by
    rw [List.flatMap_map]
    simp
  refine ⟨_, e, by simp [hl], ?_, ?_, ?_⟩
  · unfold joinLen
    have : (List.map (fun x => Str.length x) (List.map (fun c => (⟨#[c]⟩ : Str)) cs)).sum = cs.length := by
      rw [List.map_map]
      have : ((fun x => Str.length x) ∘ fun c => (⟨#[c]⟩ : Str)) = fun _ => 1 := by funext c; rfl
      rw [this]
      exact sum_ones cs
    rw [this, show (Str.ofString "").length = 0 by decide +kernel, hl]
    omega
  · rw [str_len, join_cps, hf, hl]
  · rw [join_cps, hf]
    exact hcs
theorem nm_ok {b n : Nat} {w : W} (h : Nm w) : Ok b n w := by
  obtain ⟨s, rfl, h1, h2, h3⟩ := h
  rw [ok_str]
  refine ⟨?_, by omega⟩
  unfold PyData.strOk
  rw [← Array.all_toList, List.all_eq_true]
  intro c hc
  have := h3 c hc
  simp
  omega
theorem rangeL_mem {j : Int} {w : W} (h : w ∈ rangeL 0 j) : ∃ i : Int, w = .int i ∧ 0 ≤ i ∧ i < j := by
  unfold rangeL at h
  obtain ⟨i, hi, rfl⟩ := List.mem_map.mp h
  exact ⟨_, rfl, by omega, by have := List.mem_range.mp hi; omega⟩
theorem rangeL_len {j : Int} : (rangeL 0 j).length = j.toNat := by
  unfold rangeL
  simp
theorem name {C : Nat → Orc} (h : H__law_draw C) (hn : H__law_name C) (k : Nat) {ds : List W} {i : Int} (hd : Dr ds) (h0 : 0 ≤ i) (h1 : i < 26) :
    ∃ w ds', C (k + 2) "_law_name" [.o (.lst ds), .d (.int i)] = .ret (.d w) [.o (.lst ds'), .d (.int i)] ∧ Dr ds' ∧ Nm w := by
  obtain ⟨v, d1, e1, g1, l1, u1⟩ := draw h k hd (n := 8) (by decide) (by decide)
  obtain ⟨c0, c1, c2, ec⟩ := letter h0 h1
  have loop : ∃ acc ρ', l1__law_name (C (k + 1)) [.o (.lst ds), .d (.int i), .d (.str "abcdefghijklmnopqrstuvwxyz"), .e] = .ok (.o (.lst acc)) (restore [.o (.lst d1), .d (.int i), .d (.str "abcdefghijklmnopqrstuvwxyz"), .e] ρ' [3]) ∧
      (∃ d2, ρ' = [.o (.lst d2), .d (.int i), .d (.str "abcdefghijklmnopqrstuvwxyz"), .e] ∧ Dr d2 ∧ acc.length = (rangeL 0 v).length ∧ ∀ w ∈ acc, let1 w) := by
    refine lc_all0 (ρ1 := [.o (.lst d1), .d (.int i), .d (.str "abcdefghijklmnopqrstuvwxyz"), .e]) (xs := rangeL 0 v) ?_ ?_ ?_ (fun pre acc ρ => ∃ d2, ρ = [.o (.lst d2), .d (.int i), .d (.str "abcdefghijklmnopqrstuvwxyz"), .e] ∧ Dr d2 ∧ acc.length = pre.length ∧ ∀ w ∈ acc, let1 w) ?_ ?_
    · have : inHalf v = true := by unfold inHalf; exact decide_eq_true (by omega)
      simp [e1, this]
    · rfl
    · rw [rangeL_len]; unfold sizeLine; omega
    · exact ⟨d1, rfl, g1, rfl, by simp⟩
    · rintro pre w post acc ρ e ⟨d2, rfl, g2, hl, ha⟩
      obtain ⟨v3, d3, e3, g3, l3, u3⟩ := draw h k g2 (n := 26) (by decide) (by decide)
      obtain ⟨c, hc1, hc2, hc⟩ := letter l3 u3
      refine ⟨.str ⟨#[c]⟩, [.o (.lst d3), .d (.int i), .d (.str "abcdefghijklmnopqrstuvwxyz"), .d w], ?_, d3, rfl, g3, by simp [hl], ?_⟩
      · simp [e3, hc]
      · intro x hx
        rcases List.mem_append.mp hx with hx | hx
        · exact ha x hx
        · simp at hx
          exact ⟨c, hx, hc1, hc2⟩
  obtain ⟨acc, ρ', hlc, d2, rfl, g2, hl, ha⟩ := loop
  rw [rangeL_len] at hl
  obtain ⟨ys, s1, s2, s3, s4, s5⟩ := strs_letters acc ha
  refine ⟨.str (⟨#[c0]⟩ ++ Txt.join "" ys), d2, ?_, g2, _, rfl, ?_, ?_, ?_⟩
  · rw [hn]
    unfold b__law_name
    have t1 : joinLen (Str.ofString "") ys ≤ 16777216 := by rw [s3]; omega
    have t2 : Str.length ⟨#[c0]⟩ + Str.length (Txt.join (Str.ofString "") ys) ≤ sizeLine := by
      rw [s4, show Str.length ⟨#[c0]⟩ = 1 from rfl]
      unfold sizeLine
      omega
    simp [ec, hlc, restore, s1, t1, t2]
  · rw [str_app_len, s4, show Str.length ⟨#[c0]⟩ = 1 from rfl]; omega
  · rw [str_app_len, s4, show Str.length ⟨#[c0]⟩ = 1 from rfl]; omega
  · intro c hc
    rw [str_app] at hc
    rcases List.mem_append.mp hc with hc | hc
    · simp at hc
      subst hc
      exact ⟨c1, c2⟩
    · exact s5 c hc
end P

-- LbWhere
set_option exponentiation.threshold 700
namespace P
open PySem Pf
theorem any_order {C : Nat → Orc} (h : H__law_draw C) (hn : H__law_any_order C) (k : Nat) {ds : List W} {n : Int} (hd : Dr ds) (h0 : 0 ≤ n) (h1 : n ≤ 1000) :
    ∃ os ds', C (k + 2) "_law_any_order" [.o (.lst ds), .d (.int n)] = .ret (.o (.lst os)) [.o (.lst ds'), .d (.int n)] ∧ Dr ds' ∧ os.length = n.toNat ∧ ∀ w ∈ os, ∃ i : Int, w = .int i ∧ 0 ≤ i ∧ i < n := by
  have hh : inHalf n = true := by unfold inHalf; exact decide_eq_true (by omega)
  have loop : ∃ ρ', l1__law_any_order (C (k + 1)) [.o (.lst ds), .d (.int n), .o (.lst []), .e] = .ok .nx ρ' ∧ ∃ d2 os s, ρ' = [.o (.lst d2), .d (.int n), .o (.lst os), s] ∧ Dr d2 ∧ os.length = (rangeL 0 n).length ∧ ∀ w ∈ os, ∃ i : Int, w = .int i ∧ 0 ≤ i ∧ i < n := by
    refine forS_all0 (ρ1 := [.o (.lst ds), .d (.int n), .o (.lst []), .e]) (xs := rangeL 0 n) ?_ (fun pre ρ => ∃ d2 os s, ρ = [.o (.lst d2), .d (.int n), .o (.lst os), s] ∧ Dr d2 ∧ os.length = pre.length ∧ ∀ w ∈ os, ∃ i : Int, w = .int i ∧ 0 ≤ i ∧ i < n) ?_ ?_
    · simp [hh]
    · rintro pre w post ρ e ⟨d2, os, s, rfl, g2, hl, ho⟩
      have hw : w ∈ rangeL 0 n := by rw [e]; simp
      obtain ⟨i, rfl, i0, i1⟩ := rangeL_mem hw
      obtain ⟨v3, d3, e3, g3, l3, u3⟩ := draw h k g2 (n := i + 1) (by omega) (by omega)
      have hpl : pre.length ≤ 1000 := by
        have : (rangeL 0 n).length = pre.length + (post.length + 1) := by rw [e]; simp
        rw [rangeL_len] at this
        omega
      have hsz : os.length < sizeLine := by unfold sizeLine; omega
      have hv : v3 < 4611686018427387904 := by omega
      refine ⟨[.o (.lst d3), .d (.int n), .o (.lst (os.take v3.toNat ++ .int i :: os.drop v3.toNat)), .d (.int i)], ?_, d3, _, _, rfl, g3, ?_, ?_⟩
      · simp [e3, hsz, l3, hv]
      · have : os.length = (os.take v3.toNat ++ os.drop v3.toNat).length := by rw [List.take_append_drop]
        simp at this ⊢
        omega
      · intro x hx
        rcases List.mem_append.mp hx with hx | hx
        · exact ho x (List.mem_of_mem_take hx)
        · rcases List.mem_cons.mp hx with rfl | hx
          · exact ⟨i, rfl, i0, i1⟩
          · exact ho x (List.mem_of_mem_drop hx)
    · exact ⟨ds, [], .e, rfl, hd, rfl, by simp⟩
  obtain ⟨ρ', hlp, d2, os, s, rfl, g2, hl, ho⟩ := loop
  refine ⟨os, d2, ?_, g2, by rw [hl, rangeL_len], ho⟩
  rw [hn]
  unfold b__law_any_order
  simp [hlp, sizeLine]
theorem names {C : Nat → Orc} (h : H__law_draw C) (hn : H__law_name C) (ho : H__law_any_order C) (hs : H__law_names C) (k : Nat) {ds : List W} {n : Int} (hd : Dr ds) (h0 : 0 ≤ n) (h1 : n ≤ 1000) :
    ∃ os ds', C (k + 3) "_law_names" [.o (.lst ds), .d (.int n)] = .ret (.o (.lst os)) [.o (.lst ds'), .d (.int n)] ∧ Dr ds' ∧ os.length = n.toNat ∧ ∀ w ∈ os, Nm w := by
  obtain ⟨os, d1, e1, g1, l1, o1⟩ := any_order h ho k hd h0 h1
  have loop : ∃ acc ρ', l1__law_names (C (k + 2)) [.o (.lst ds), .d (.int n), .e] = .ok (.o (.lst acc)) (restore [.o (.lst d1), .d (.int n), .e] ρ' [2]) ∧ ∃ d2, ρ' = [.o (.lst d2), .d (.int n), .e] ∧ Dr d2 ∧ acc.length = os.length ∧ ∀ w ∈ acc, Nm w := by
    refine lc_all0 (ρ1 := [.o (.lst d1), .d (.int n), .e]) (xs := os) ?_ ?_ ?_ (fun pre acc ρ => ∃ d2, ρ = [.o (.lst d2), .d (.int n), .e] ∧ Dr d2 ∧ acc.length = pre.length ∧ ∀ w ∈ acc, Nm w) ?_ ?_
    · simp [e1]
    · rfl
    · unfold sizeLine; omega
    · exact ⟨d1, rfl, g1, rfl, by simp⟩
    · rintro pre w post acc ρ e ⟨d2, rfl, g2, hl, ha⟩
      obtain ⟨i, rfl, i0, i1⟩ := o1 w (by rw [e]; simp)
      obtain ⟨y, d3, e3, g3, hy⟩ := name h hn k g2 (i := (3 * i + 1) % 26) (by omega) (by omega)
      have m0 : mulOk 3 i = true := mulOk_of 32 32 (by decide) (by omega) (by decide)
      refine ⟨y, [.o (.lst d3), .d (.int n), .d (.int i)], ?_, d3, rfl, g3, by simp [hl], ?_⟩
      · simp [e3, m0]
      · intro x hx
        rcases List.mem_append.mp hx with hx | hx
        · exact ha x hx
        · simp at hx
          exact hx ▸ hy
  obtain ⟨acc, ρ', hlc, d2, rfl, g2, hl, ha⟩ := loop
  refine ⟨acc, d2, ?_, g2, by rw [hl, l1], ha⟩
  rw [hs]
  unfold b__law_names
  simp [hlc, restore]
theorem plain_where {C : Nat → Orc} (h : H__law_draw C) (hu : H__law_number C) (hs : H__law_span C) (hp : H__law_plain_where C) (k : Nat) {ds nm : List W} {n : Int} (hd : Dr ds) (h1 : 1 ≤ n) (h2 : n < 2 ^ 580) (hn : nm.length = 6) (hN : ∀ w ∈ nm, Nm w) :
    ∃ ws ds', C (k + 4) "_law_plain_where" [.o (.lst ds), .o (.lst nm), .d (.int n)] = .ret (.d (.tup ws)) [.o (.lst ds'), .o (.lst nm), .d (.int n)] ∧ Dr ds' ∧ ws.length ≤ 4 ∧ 0 < ws.length ∧ ∀ w ∈ ws, Ok 4 0 w := by
  obtain ⟨way, d0, e0, g0, l0, u0⟩ := draw h (k + 2) hd (n := 9) (by decide) (by decide)
  have sok : ∀ s : String, (PyData.strOk (Str.ofString s) = true ∧ (Str.ofString s).length ≤ 1000000) → ∀ n, Ok 4 n (.str s) := fun s hs n => by rw [ok_str]; exact hs
  rw [hp]
  unfold b__law_plain_where
  by_cases w0 : way = 0
  · refine ⟨[.str "all"], d0, ?_, g0, by simp, by simp, ?_⟩
    · simp [e0, w0, sizeLine]
    · simp
      decide +kernel
  by_cases w4 : way < 4
  · obtain ⟨a, y, d1, e1, g1, a1, a2, hy⟩ := span h hu hs k g0 h1 (by omega : n < 2 ^ 590)
    refine ⟨[.str "numbers", .int a, y], d1, ?_, g1, by simp, by simp, ?_⟩
    · simp [e0, w0, w4, e1, sizeLine]
    · simp
      refine ⟨by decide +kernel, ?_⟩
      rcases hy with rfl | ⟨b, rfl, _⟩ <;> simp
  by_cases w6 : way < 6
  · obtain ⟨v1, d1, e1, g1, l1, u1⟩ := draw h (k + 2) g0 (n := 9) (by decide) (by decide)
    obtain ⟨v2, d2, e2, g2, l2, u2⟩ := draw h (k + 2) g1 (n := 9) (by decide) (by decide)
    obtain ⟨v3, d3, e3, g3, l3, u3⟩ := draw h (k + 2) g2 (n := 2) (by decide) (by decide)
    obtain ⟨y, hy, ey⟩ := pick (xs := [.non, .int (v1 + v2)]) (n := 2) (i := v3) rfl (by omega) (by omega)
    refine ⟨[.str "days", .int v1, y], d3, ?_, g3, by simp, by simp, ?_⟩
    · simp [e0, w0, w4, w6, e1, e2, e3, ey, sizeLine]
    · simp at hy ⊢
      refine ⟨by decide +kernel, ?_⟩
      rcases hy with rfl | rfl <;> simp
  by_cases w7 : way = 6
  · obtain ⟨v1, d1, e1, g1, l1, u1⟩ := draw h (k + 2) g0 (n := 3) (by decide) (by decide)
    obtain ⟨y, hy, ey⟩ := pick (xs := nm) (n := 6) (i := v1) hn (by omega) (by omega)
    refine ⟨[.str "buyer", y], d1, ?_, g1, by simp, by simp, ?_⟩
    · simp [e0, w0, w4, w6, w7, e1, ey, hn, sizeLine]
    · simp
      exact ⟨by decide +kernel, nm_ok (hN y hy)⟩
  obtain ⟨v1, d1, e1, g1, l1, u1⟩ := draw h (k + 2) g0 (n := 99) (by decide) (by decide)
  obtain ⟨v2, d2, e2, g2, l2, u2⟩ := number h hu (k + 1) g1 h1 (by omega : n < 2 ^ 590)
  obtain ⟨v3, d3, e3, g3, l3, u3⟩ := draw h (k + 2) g2 (n := 9) (by decide) (by decide)
  obtain ⟨v4, d4, e4, g4, l4, u4⟩ := draw h (k + 2) g3 (n := 5) (by decide) (by decide)
  obtain ⟨y, hy, ey⟩ := pick (xs := [.int v1, .int (v2 * v3), .int 0]) (n := 3) (i := v4 / 2) rfl (by omega) (by omega)
  obtain ⟨v5, d5, e5, g5, l5, u5⟩ := draw h (k + 2) g4 (n := 5) (by decide) (by decide)
  obtain ⟨z, hz, ez⟩ := pick (xs := nm) (n := 6) (i := 1 + v5) hn (by omega) (by omega)
  obtain ⟨v6, d6, e6, g6, l6, u6⟩ := number h hu (k + 1) g5 h1 (by omega : n < 2 ^ 590)
  have m0 : mulOk v2 v3 = true := mulOk_of 600 32 (by omega) (by omega) (by decide)
  refine ⟨[.str "spent", z, .int v6, y], d6, ?_, g6, by simp, by simp, ?_⟩
  · simp [e0, w0, w4, w6, w7, e1, e2, e3, e4, e5, e6, ey, ez, m0, hn, sizeLine]
  · simp at hy ⊢
    refine ⟨by decide +kernel, nm_ok (hN z hz), ?_⟩
    rcases hy with rfl | rfl | rfl <;> simp
theorem where_ {C : Nat → Orc} (h : H__law_draw C) (hu : H__law_number C) (hs : H__law_span C) (hp : H__law_plain_where C) (hw : H__law_where C) {nm : List W} {n : Int} (h1 : 1 ≤ n) (h2 : n < 2 ^ 580) (hn : nm.length = 6) (hN : ∀ w ∈ nm, Nm w) :
    ∀ (deep : Nat) (k : Nat) {ds : List W} (hd : Dr ds), ∃ ws ds', C (k + deep + 5) "_law_where" [.o (.lst ds), .o (.lst nm), .d (.int n), .d (.int deep)] = .ret (.d (.tup ws)) [.o (.lst ds'), .o (.lst nm), .d (.int n), .d (.int deep)] ∧ Dr ds' ∧ ws.length ≤ 4 ∧ 0 < ws.length ∧ ∀ w ∈ ws, Ok 4 (deep - 1) w := by
  intro deep
  induction deep with
  | zero =>
    intro k ds hd
    obtain ⟨way, d0, e0, g0, l0, u0⟩ := draw h (k + 3) hd (n := 8) (by decide) (by decide)
    obtain ⟨ws, d1, e1, g1, p1, p2, p3⟩ := plain_where h hu hs hp k g0 h1 h2 hn hN
    refine ⟨ws, d1, ?_, g1, p1, p2, fun w hw => (p3 w hw).mono (Nat.le_refl _) (by omega)⟩
    rw [show k + 0 + 5 = k + 4 + 1 by omega, hw]
    unfold b__law_where
    simp [e0, e1]
  | succ deep ih =>
    intro k ds hd
    obtain ⟨way, d0, e0, g0, l0, u0⟩ := draw h (k + deep + 4) hd (n := 8) (by decide) (by decide)
    rw [show k + (deep + 1) + 5 = (k + deep + 5) + 1 by omega, hw]
    unfold b__law_where
    by_cases hc : deep = 0 ∨ way < 4
    · obtain ⟨ws, d1, e1, g1, p1, p2, p3⟩ := plain_where h hu hs hp (k + deep + 1) g0 h1 h2 hn hN
      refine ⟨ws, d1, ?_, g1, p1, p2, fun w hw => (p3 w hw).mono (Nat.le_refl _) (by omega)⟩
      by_cases hz : deep = 0
      · subst hz
        simp [e0, e1]
      · have h4 : way < 4 := by omega
        have hz2 : ¬ ((deep : Int) + 1 < 2) := by omega
        simp [e0, e1, h4, hz2]
    · have hz2 : ¬ ((deep : Int) + 1 < 2) := by omega
      have h4 : ¬ way < 4 := by omega
      obtain ⟨ws, d1, e1, g1, p1, p2, p3⟩ := ih k g0
      have okt : Ok 4 deep (.tup ws) := by
        obtain ⟨m, rfl⟩ : ∃ m, deep = m + 1 := ⟨deep - 1, by omega⟩
        exact ⟨p1, p3⟩
      by_cases w4 : way = 4
      · refine ⟨[.str "not", .tup ws], d1, ?_, g1, by simp, by simp, ?_⟩
        · simp [e0, e1, h4, hz2, w4, sizeLine]
        · simp
          exact ⟨by decide +kernel, okt⟩
      · obtain ⟨vs, d2, e2, g2, q1, q2, q3⟩ := ih k g1
        have okv : Ok 4 deep (.tup vs) := by
          obtain ⟨m, rfl⟩ : ∃ m, deep = m + 1 := ⟨deep - 1, by omega⟩
          exact ⟨q1, q3⟩
        obtain ⟨y, hy, ey⟩ := pick (xs := [.str "both", .str "either"]) (n := 2) (i := way % 2) rfl (by omega) (by omega)
        refine ⟨[y, .tup ws, .tup vs], d2, ?_, g2, by simp, by simp, ?_⟩
        · simp [e0, e1, e2, h4, hz2, w4, ey, sizeLine]
        · simp at hy ⊢
          refine ⟨?_, okt, okv⟩
          rcases hy with rfl | rfl
          · rw [ok_str]; decide +kernel
          · rw [ok_str]; decide +kernel
end P

-- LbThing
namespace P
open PySem Pf
theorem cut_to {A : Type} {xs : List A} {i : Int} (h0 : 0 ≤ i) : cutL xs none (some i) = xs.take i.toNat := by
  obtain ⟨j, rfl⟩ : ∃ j : Nat, i = j := ⟨i.toNat, by omega⟩
  unfold cutL
  rw [HT.sIx_nat, HT.sIx_none, List.drop_zero, Int.toNat_natCast, Nat.sub_zero, List.take_eq_take_iff]
  omega
theorem cut_from {A : Type} {xs : List A} {i : Int} (h0 : 0 ≤ i) : cutL xs (some i) none = xs.drop i.toNat := by
  obtain ⟨j, rfl⟩ : ∃ j : Nat, i = j := ⟨i.toNat, by omega⟩
  unfold cutL
  rw [HT.sIx_nat, HT.sIx_none, Int.toNat_natCast]
  by_cases h : j ≤ xs.length
  · rw [Nat.min_eq_left h, List.take_of_length_le (by rw [List.length_drop]; omega)]
  · rw [List.drop_of_length_le (by omega : xs.length ≤ min j xs.length), List.drop_of_length_le (by omega)]
    simp
def isWhole : W → Bool
  | .int _ => true
  | _ => false
theorem whole_ {C : Nat → Orc} (h : H__law_whole C) (k : Nat) {w : W} (hw : w.dat = true) : C (k + 1) "_law_whole" [.d w] = .ret (.d (.bl (isWhole w))) [.d w] := by
  rw [h]
  unfold b__law_whole
  cases w <;> first | (simp [W.dat] at hw; done) | simp [isWhole]
/-- what is odd -/
theorem odd_ {C : Nat → Orc} (h : H__law_draw C) (hw : H__law_whole C) (k : Nat) {ds : List W} {w : W} (hd : Dr ds) (hdat : w.dat = true) :
    ∃ w' ds', fin 2 (k4__law_otherwise (C (k + 1)) [.d w, .o (.lst ds), .e, .e, .e, .e]) = .ret (.d w') [.d w, .o (.lst ds')] ∧ Dr ds' ∧ Ok 2 1 w' := by
  unfold k4__law_otherwise
  by_cases hi : isWhole w = true
  · obtain ⟨i, rfl⟩ : ∃ i, w = .int i := by cases w <;> first | (simp [isWhole] at hi; done) | exact ⟨_, rfl⟩
    obtain ⟨v1, d1, e1, g1, l1, u1⟩ := draw h k hd (n := 31) (by decide) (by decide)
    obtain ⟨y, hy, ey⟩ := pick (xs := [.int 0, .int 1, .int (-1), .int 7, .bl true, .bl false, .non, .str "", .str "a", .str "A", .str "all", .str "not", .str "put", .tup [], .lst [], .tup [.int 1, .int 2], .lst [.int 1], .str "abcdefghi", .int 1000000000000000000000000000000,
      .int (i + 1), .int (i - 1), .int (i + 1), .int (i - 1), .int (i + 1), .int (i - 1), .int (i + 1), .int (i - 1), .int (i + 1), .int (i - 1), .int (i + 1), .int (i - 1)]) (n := 31) (i := v1) rfl (by omega) (by omega)
    refine ⟨y, d1, ?_, g1, ?_⟩
    · simp [whole_ hw k hdat, isWhole, k5__law_otherwise, e1, ey, sizeLine]
    · have so : ∀ s : String, s ∈ ["", "a", "A", "all", "not", "put", "abcdefghi"] → PyData.strOk (Str.ofString s) = true ∧ (Str.ofString s).length ≤ 1000000 := by decide +kernel
      simp only [List.mem_cons, List.not_mem_nil, or_false] at hy
      rcases hy with rfl | rfl | rfl | rfl | rfl | rfl | rfl | rfl | rfl | rfl | rfl | rfl | rfl | rfl | rfl | rfl | rfl | rfl | rfl | rfl | rfl | rfl | rfl | rfl | rfl | rfl | rfl | rfl | rfl | rfl | rfl <;> first | (simp; done) | (rw [ok_str]; exact so _ (by decide))
  · have hi' : isWhole w = false := by simpa using hi
    obtain ⟨v1, d1, e1, g1, l1, u1⟩ := draw h k hd (n := 19) (by decide) (by decide)
    obtain ⟨y, hy, ey⟩ := pick (xs := [.int 0, .int 1, .int (-1), .int 7, .bl true, .bl false, .non, .str "", .str "a", .str "A", .str "all", .str "not", .str "put", .tup [], .lst [], .tup [.int 1, .int 2], .lst [.int 1], .str "abcdefghi", .int 1000000000000000000000000000000]) (n := 19) (i := v1) rfl (by omega) (by omega)
    refine ⟨y, d1, ?_, g1, ?_⟩
    · simp [whole_ hw k hdat, hi', k5__law_otherwise, e1, ey, sizeLine]
    · have so : ∀ s : String, s ∈ ["", "a", "A", "all", "not", "put", "abcdefghi"] → PyData.strOk (Str.ofString s) = true ∧ (Str.ofString s).length ≤ 1000000 := by decide +kernel
      simp only [List.mem_cons, List.not_mem_nil, or_false] at hy
      rcases hy with rfl | rfl | rfl | rfl | rfl | rfl | rfl | rfl | rfl | rfl | rfl | rfl | rfl | rfl | rfl | rfl | rfl | rfl | rfl <;> first | (simp; done) | (rw [ok_str]; exact so _ (by decide))
/-- a list or a tuple, by its kind -/
inductive Seq : Bool → List W → W → Prop
  | tup (ws : List W) : Seq false ws (.tup ws)
  | lst (ws : List W) : Seq true ws (.lst ws)
theorem mid_ {C : Orc} {b : Bool} {ws : List W} {w y : W} {ds so : List W} {at_ way : Int} (hs : Seq b ws w) (h0 : 0 ≤ at_) (h1 : at_ < 1000) (hy : ((ixOf ws.length at_).bind fun j => ws[j]?) = some y) (hl : so.length ≤ 1000) :
    ∃ w' s', (∀ t : M Fl, fin 2 (oseq (k1__law_otherwise C [.d w, .o (.lst ds), .d (.int at_), .o (.lst so), .d (.int way), .e]) t) = .ret (.d w') [.d w, .o (.lst ds)]) ∧ Seq b s' w' ∧ s'.length ≤ so.length + 1 ∧ ∀ x ∈ s', x ∈ so ∨ x = y := by
  have hsz : so.length < sizeLine := by unfold sizeLine; omega
  have h62 : at_ < 4611686018427387904 := by omega
  have mem : ∀ x ∈ so.take at_.toNat ++ y :: so.drop at_.toNat, x ∈ so ∨ x = y := fun x hx => by
    rcases List.mem_append.mp hx with hx | hx
    · exact .inl (List.mem_of_mem_take hx)
    · rcases List.mem_cons.mp hx with rfl | hx
      · exact .inr rfl
      · exact .inl (List.mem_of_mem_drop hx)
  have len : (so.take at_.toNat ++ y :: so.drop at_.toNat).length ≤ so.length + 1 := by
    have : so.length = (so.take at_.toNat ++ so.drop at_.toNat).length := by rw [List.take_append_drop]
    simp at this ⊢
    omega
  unfold k1__law_otherwise
  by_cases w1 : way = 1
  · cases hs with
    | tup ws =>
      refine ⟨.tup _, _, fun t => ?_, .tup _, len, mem⟩
      simp [w1, hy, hsz, h0, h62, k2__law_otherwise, k3__law_otherwise]
    | lst ws =>
      refine ⟨.lst _, _, fun t => ?_, .lst _, len, mem⟩
      simp [w1, hy, hsz, h0, h62, k2__law_otherwise, k3__law_otherwise]
  · by_cases w2 : way = 2
    · cases hs with
      | tup ws =>
        refine ⟨.tup so.reverse, _, fun t => ?_, .tup _, by simp, fun x hx => .inl (by simpa using hx)⟩
        simp [w1, w2, k2__law_otherwise, k3__law_otherwise]
      | lst ws =>
        refine ⟨.lst so.reverse, _, fun t => ?_, .lst _, by simp, fun x hx => .inl (by simpa using hx)⟩
        simp [w1, w2, k2__law_otherwise, k3__law_otherwise]
    · cases hs with
      | tup ws =>
        refine ⟨.tup so, _, fun t => ?_, .tup _, by simp, fun x hx => .inl hx⟩
        simp [w1, w2, k2__law_otherwise, k3__law_otherwise]
      | lst ws =>
        refine ⟨.lst so, _, fun t => ?_, .lst _, by simp, fun x hx => .inl hx⟩
        simp [w1, w2, k2__law_otherwise, k3__law_otherwise]
end P

-- LbOther
namespace P
open PySem Pf
theorem sz : sizeLine = 16777216 := rfl
theorem Seq.ok {b n : Nat} {t : Bool} {ws : List W} {w : W} (hs : Seq t ws w) : Ok b (n + 1) w ↔ ws.length ≤ b ∧ ∀ x ∈ ws, Ok b n x := by
  cases hs <;> simp
theorem otherwise {C : Nat → Orc} (h : H__law_draw C) (hw : H__law_whole C) (ho : H__law_otherwise C) : ∀ (n k b : Nat) {w : W} {ds : List W}, Ok b n w → b ≤ 900 → Dr ds →
    ∃ w' ds', C (k + n + 2) "_law_otherwise" [.d w, .o (.lst ds)] = .ret (.d w') [.d w, .o (.lst ds')] ∧ Ok (b + 2) (n + 1) w' ∧ Dr ds' := by
  intro n
  induction n with
  | zero =>
    intro k b w ds ok hb hd
    obtain ⟨w', d', e, g, o⟩ := odd_ h hw k hd ok.dat.1
    refine ⟨w', d', ?_, o.mono (by omega) (by omega), g⟩
    rw [show k + 0 + 2 = (k + 1) + 1 by omega, ho]
    unfold b__law_otherwise
    rw [← e]
    cases w <;> first | (simp [Ok] at ok; done) | simp [sz]
  | succ n ih =>
    intro k b w ds ok hb hd
    rw [show k + (n + 1) + 2 = (k + n + 2) + 1 by omega, ho]
    unfold b__law_otherwise
    by_cases hq : ∃ t L, Seq t L w ∧ 0 < L.length
    · obtain ⟨t, L, hq, hne⟩ := hq
      obtain ⟨okl, okm⟩ := hq.ok.mp ok
      obtain ⟨v0, d0, e0, g0, l0, u0⟩ := draw h (k + n + 1) hd (n := 6) (by decide) (by decide)
      by_cases hv : 0 < v0
      · have hlen : L.length ≤ 900 := by omega
        obtain ⟨at_, d1, e1, g1, l1, u1⟩ := draw h (k + n + 1) g0 (n := (L.length : Int)) (by omega) (by omega)
        obtain ⟨y, hy, ey⟩ := pick (xs := L) (n := L.length) (i := at_) rfl l1 u1
        obtain ⟨y', d2, e2, o2, g2⟩ := ih k b (okm y hy) hb g1
        obtain ⟨way, d3, e3, g3, l3, u3⟩ := draw h (k + n + 1) g2 (n := 14) (by decide) (by decide)
        obtain ⟨so, hso⟩ : ∃ so, so = L.take at_.toNat ++ [y'] ++ L.drop (at_ + 1).toNat := ⟨_, rfl⟩
        have hz1 : min at_.toNat L.length + 1 ≤ 16777216 := by omega
        have hz2 : min at_.toNat L.length + 1 + (L.length - (at_ + 1).toNat) ≤ 16777216 := by omega
        have hsl : so.length = L.length := by rw [hso, List.length_append, List.length_append, List.length_take, List.length_drop, List.length_singleton]; omega
        have hmem : ∀ z ∈ so, Ok (b + 2) (n + 1) z := fun z hz => by
          rw [hso] at hz
          rcases List.mem_append.mp hz with hz | hz
          · rcases List.mem_append.mp hz with hz | hz
            · exact (okm z (List.mem_of_mem_take hz)).mono (by omega) (by omega)
            · simp at hz
              exact hz ▸ o2
          · exact (okm z (List.mem_of_mem_drop hz)).mono (by omega) (by omega)
        have oky : Ok (b + 2) (n + 1) y := (okm y hy).mono (by omega) (by omega)
        have hc1 : cutL L none (some at_) = L.take at_.toNat := cut_to l1
        have hc2 : cutL L (some (at_ + 1)) none = L.drop (at_ + 1).toNat := cut_from (by omega)
        have hsr : L.take at_.toNat ++ y' :: L.drop (at_ + 1).toNat = so := by rw [hso]; simp
        by_cases w0 : way = 0
        · obtain ⟨w', s', em, sq, sl, sm⟩ := mid_ (C := C (k + n + 2)) (ds := d3) (so := so.eraseIdx at_.toNat) (way := way) hq l1 (by omega) ey (by rw [List.length_eraseIdx]; split <;> omega)
          refine ⟨w', d3, ?_, sq.ok.mpr ⟨?_, ?_⟩, g3⟩
          · rw [← em (k4__law_otherwise (C (k + n + 2)))]
            have hix : ixOf L.length at_ = some at_.toNat := ixOf_lt l1 u1
            have hge : so[at_.toNat]? = some (so[at_.toNat]'(by rw [hsl]; omega)) := List.getElem?_eq_getElem _
            have b1 : (-4611686018427387904 : Int) ≤ at_ := by omega
            have b2 : at_ < 4611686018427387904 := by omega
            have eL : L[at_.toNat]? = some y := by rw [hix] at ey; exact ey
            subst w0
            cases hq <;> simp [sz, hne, e0, hv, e1, ey, e2, e3, hc1, hc2, hz1, hz2, hsr, hsl, hix, eL, hge, b1, b2]
          · rw [List.length_eraseIdx] at sl
            split at sl <;> omega
          · intro z hz
            rcases sm z hz with hz | rfl
            · exact hmem z (List.mem_of_mem_eraseIdx hz)
            · exact oky
        · obtain ⟨w', s', em, sq, sl, sm⟩ := mid_ (C := C (k + n + 2)) (ds := d3) (so := so) (way := way) hq l1 (by omega) ey (by omega)
          refine ⟨w', d3, ?_, sq.ok.mpr ⟨by omega, ?_⟩, g3⟩
          · rw [← em (k4__law_otherwise (C (k + n + 2)))]
            cases hq <;> simp [sz, hne, e0, hv, e1, ey, e2, e3, hc1, hc2, w0, hz1, hz2, hsr]
          · intro z hz
            rcases sm z hz with hz | rfl
            · exact hmem z hz
            · exact oky
      · obtain ⟨w', d', e, g, o⟩ := odd_ h hw (k + n + 1) g0 ok.dat.1
        refine ⟨w', d', ?_, o.mono (by omega) (by omega), g⟩
        rw [← e]
        cases hq <;> simp [sz, e0, hv, hne]
    · obtain ⟨w', d', e, g, o⟩ := odd_ h hw (k + n + 1) hd ok.dat.1
      refine ⟨w', d', ?_, o.mono (by omega) (by omega), g⟩
      rw [← e]
      cases w with
      | tup ws => cases ws with
        | nil => simp [sz]
        | cons x ws => exact absurd ⟨_, _, Seq.tup _, by simp⟩ hq
      | lst ws => cases ws with
        | nil => simp [sz]
        | cons x ws => exact absurd ⟨_, _, Seq.lst _, by simp⟩ hq
      | _ => first | (simp [Ok] at ok; done) | simp [sz]
end P

-- LbThing2
namespace P
open PySem Pf
theorem thing {C : Nat → Orc} (h : H__law_draw C) (ht : H__law_thing C) : ∀ (n k : Nat) {ds : List W}, n ≤ 50 → Dr ds →
    ∃ w ds', C (k + n + 2) "_law_thing" [.o (.lst ds), .d (.int n)] = .ret (.d w) [.o (.lst ds'), .d (.int n)] ∧ Dr ds' ∧ Ok 4 (n + 1) w := by
  intro n
  induction n with
  | zero =>
    intro k ds hn hd
    obtain ⟨way, d0, e0, g0, l0, u0⟩ := draw h k hd (n := 9) (by decide) (by decide)
    rw [show k + 0 + 2 = (k + 1) + 1 by omega, ht]
    unfold b__law_thing
    by_cases w2 : way < 2
    · obtain ⟨v1, d1, e1, g1, l1, u1⟩ := draw h k g0 (n := 9) (by decide) (by decide)
      obtain ⟨v2, d2, e2, g2, l2, u2⟩ := draw h k g1 (n := 1000000000000000000000000000000) (by decide) (by decide)
      obtain ⟨y, hy, ey⟩ := pick (xs := [.int (v1 - 2), .int v2]) (n := 2) (i := way) rfl (by omega) (by omega)
      refine ⟨y, d2, ?_, g2, ?_⟩
      · simp [sz, e0, w2, e1, e2, ey]
      · simp at hy; rcases hy with rfl | rfl <;> simp
    by_cases w5 : way < 5
    · obtain ⟨y, hy, ey⟩ := pick (xs := [.bl true, .bl false, .non]) (n := 3) (i := way - 2) rfl (by omega) (by omega)
      refine ⟨y, d0, ?_, g0, ?_⟩
      · simp [sz, e0, w2, w5, ey]
      · simp at hy; rcases hy with rfl | rfl | rfl <;> simp
    by_cases w6 : way = 5
    · obtain ⟨v1, d1, e1, g1, l1, u1⟩ := draw h k g0 (n := 6) (by decide) (by decide)
      obtain ⟨y, hy, ey⟩ := pick (xs := [.str "", .str "abc", .str "all", .str "3", .str "numbers", .str "put"]) (n := 6) (i := v1) rfl (by omega) (by omega)
      refine ⟨y, d1, ?_, g1, ?_⟩
      · simp [sz, e0, w2, w5, w6, e1, ey]
      · simp only [List.mem_cons, List.not_mem_nil, or_false] at hy
        rcases hy with rfl | rfl | rfl | rfl | rfl | rfl <;> (rw [ok_str]; decide +kernel)
    obtain ⟨v1, d1, e1, g1, l1, u1⟩ := draw h k g0 (n := 4) (by decide) (by decide)
    have m0 : mulOk v1 0 = true := mulOk_of 32 32 (by omega) (by decide) (by decide)
    obtain ⟨acc, ρ', hlc, rfl, hi⟩ : ∃ acc ρ', l1__law_thing (C (k + 1)) [.o (.lst d0), .d (.int 0), .d (.int way), .e, .e] = .ok (.o (.lst acc)) (restore [.o (.lst d1), .d (.int 0), .d (.int way), .e, .e] ρ' [4]) ∧ acc = [] ∧ ρ' = [.o (.lst d1), .d (.int 0), .d (.int way), .e, .e] := by
      refine lc_all0 (ρ1 := [.o (.lst d1), .d (.int 0), .d (.int way), .e, .e]) (xs := []) ?_ ?_ ?_ (fun pre acc ρ => acc = [] ∧ ρ = [.o (.lst d1), .d (.int 0), .d (.int way), .e, .e]) ?_ ?_
      · simp [e1, m0, inHalf, rangeL]
      · rfl
      · decide
      · exact ⟨rfl, rfl⟩
      · intro pre w post acc ρ e
        simp at e
    subst hi
    by_cases w7 : way = 6
    · refine ⟨.lst [], d1, ?_, g1, by simp⟩
      simp [sz, e0, w2, w5, w6, w7, hlc, restore]
      subst w7
      simp [hlc, restore]
    · refine ⟨.tup [], d1, ?_, g1, by simp⟩
      simp [sz, e0, w2, w5, w6, w7, hlc, restore]
  | succ n ih =>
    intro k ds hn hd
    obtain ⟨way, d0, e0, g0, l0, u0⟩ := draw h (k + n + 1) hd (n := 9) (by decide) (by decide)
    rw [show k + (n + 1) + 2 = (k + n + 2) + 1 by omega, ht]
    unfold b__law_thing
    by_cases w2 : way < 2
    · obtain ⟨v1, d1, e1, g1, l1, u1⟩ := draw h (k + n + 1) g0 (n := 9) (by decide) (by decide)
      obtain ⟨v2, d2, e2, g2, l2, u2⟩ := draw h (k + n + 1) g1 (n := 1000000000000000000000000000000) (by decide) (by decide)
      obtain ⟨y, hy, ey⟩ := pick (xs := [.int (v1 - 2), .int v2]) (n := 2) (i := way) rfl (by omega) (by omega)
      refine ⟨y, d2, ?_, g2, ?_⟩
      · simp [sz, e0, w2, e1, e2, ey]
      · simp at hy; rcases hy with rfl | rfl <;> simp
    by_cases w5 : way < 5
    · obtain ⟨y, hy, ey⟩ := pick (xs := [.bl true, .bl false, .non]) (n := 3) (i := way - 2) rfl (by omega) (by omega)
      refine ⟨y, d0, ?_, g0, ?_⟩
      · simp [sz, e0, w2, w5, ey]
      · simp at hy; rcases hy with rfl | rfl | rfl <;> simp
    by_cases w6 : way = 5
    · obtain ⟨v1, d1, e1, g1, l1, u1⟩ := draw h (k + n + 1) g0 (n := 6) (by decide) (by decide)
      obtain ⟨y, hy, ey⟩ := pick (xs := [.str "", .str "abc", .str "all", .str "3", .str "numbers", .str "put"]) (n := 6) (i := v1) rfl (by omega) (by omega)
      refine ⟨y, d1, ?_, g1, ?_⟩
      · simp [sz, e0, w2, w5, w6, e1, ey]
      · simp only [List.mem_cons, List.not_mem_nil, or_false] at hy
        rcases hy with rfl | rfl | rfl | rfl | rfl | rfl <;> (rw [ok_str]; decide +kernel)
    obtain ⟨v1, d1, e1, g1, l1, u1⟩ := draw h (k + n + 1) g0 (n := 4) (by decide) (by decide)
    have m0 : mulOk v1 1 = true := mulOk_of 32 32 (by omega) (by decide) (by decide)
    have hih : inHalf v1 = true := by unfold inHalf; exact decide_eq_true (by omega)
    have hp : (0 : Int) < n + 1 := by omega
    obtain ⟨acc, ρ', hlc, d2, rfl, g2, hl, ha⟩ : ∃ acc ρ', l1__law_thing (C (k + n + 2)) [.o (.lst d0), .d (.int ((n : Int) + 1)), .d (.int way), .e, .e] = .ok (.o (.lst acc)) (restore [.o (.lst d1), .d (.int ((n : Int) + 1)), .d (.int way), .e, .e] ρ' [4]) ∧
        ∃ d2, ρ' = [.o (.lst d2), .d (.int ((n : Int) + 1)), .d (.int way), .e, .e] ∧ Dr d2 ∧ acc.length = (rangeL 0 v1).length ∧ ∀ w ∈ acc, Ok 4 (n + 1) w := by
      refine lc_all0 (ρ1 := [.o (.lst d1), .d (.int ((n : Int) + 1)), .d (.int way), .e, .e]) (xs := rangeL 0 v1) ?_ ?_ ?_ (fun pre acc ρ => ∃ d2, ρ = [.o (.lst d2), .d (.int ((n : Int) + 1)), .d (.int way), .e, .e] ∧ Dr d2 ∧ acc.length = pre.length ∧ ∀ w ∈ acc, Ok 4 (n + 1) w) ?_ ?_
      · simp [e1, m0, hp, hih]
      · rfl
      · rw [rangeL_len]; unfold sizeLine; omega
      · exact ⟨d1, rfl, g1, rfl, by simp⟩
      · rintro pre w post acc ρ e ⟨d2, rfl, g2, hl, ha⟩
        obtain ⟨y, d3, e3, g3, hy⟩ := ih k (by omega) g2
        refine ⟨y, [.o (.lst d3), .d (.int ((n : Int) + 1)), .d (.int way), .e, .d w], ?_, d3, rfl, g3, by simp [hl], ?_⟩
        · have : ((n : Int) + 1 - 1) = n := by omega
          simp [this, e3]
        · intro x hx
          rcases List.mem_append.mp hx with hx | hx
          · exact ha x hx
          · simp at hx
            exact hx ▸ hy
    rw [rangeL_len] at hl
    by_cases w7 : way = 6
    · refine ⟨.lst acc, d2, ?_, g2, by omega, ha⟩
      subst w7
      simp [sz, e0, hlc, restore]
    · refine ⟨.tup acc, d2, ?_, g2, by omega, ha⟩
      simp [sz, e0, w2, w5, w6, w7, hlc, restore]
end P

-- PfLit
set_option maxHeartbeats 2000000
/-! Pf: texts that are written out. -/
namespace Pf
open PySem
theorem charNat_inj : ∀ {a b : List Char}, a.map Char.toNat = b.map Char.toNat → a = b
  | [], [], _ => rfl
  | [], _ :: _, h => by simp at h
  | _ :: _, [], h => by simp at h
  | a :: as, b :: bs, h => by
    simp only [List.map_cons, List.cons.injEq] at h
    rw [charNat_inj h.2]
    congr 1
    exact Char.ext (UInt32.toNat_inj.mp h.1)
@[simp] theorem lit_inj (s t : String) : (Str.ofString s = Str.ofString t) = (s = t) := by
  apply propext
  constructor
  · intro h
    rw [Str.ofString_eq_toList, Str.ofString_eq_toList] at h
    have h2 : s.toList.map Char.toNat = t.toList.map Char.toNat := by
      have := congrArg (fun x : Str => x.cps.toList) h
      simpa using this
    exact String.ext (charNat_inj h2)
  · intro h
    rw [h]
@[simp] theorem lit_ok (s : String) : PyData.strOk (Str.ofString s) = true := by
  rw [Str.ofString_eq_toList]
  unfold PyData.strOk
  rw [← Array.all_toList, List.all_eq_true]
  intro c hc
  simp at hc
  obtain ⟨a, _, rfl⟩ := hc
  have := a.valid
  have h2 : a.toNat < 0x110000 := by
    rcases this with h | h
    · exact Nat.lt_trans h (by decide)
    · exact h.2
  simpa using h2
theorem isEq_is {x y : W} (hx : x.shp = true) (hy : y.shp = true) : W.isEq x y = some (W.eqv x y) := by
  unfold W.shp at hx hy
  rw [Bool.and_eq_true, decide_eq_true_eq] at hx hy
  unfold W.isEq
  rw [hx.1, hy.1, decide_eq_true (by omega)]
  rfl
/-- .. of any depth where one is flat -/
theorem isEq_any {x y : W} (hx : x.dat = true) (hy : y.dat = true) (hd : y.depth ≤ 64) : W.isEq x y = some (W.eqv x y) := by
  unfold W.isEq
  rw [hx, hy, decide_eq_true (by omega)]
  rfl
theorem shp_str {x : Str} : (W.str x).shp = PyData.strOk x := by
  unfold W.shp
  show (PyData.strOk x && decide (0 ≤ 64)) = _
  simp
@[simp] theorem isEq_lit (s t : String) : W.isEq (.str (Str.ofString s)) (.str (Str.ofString t)) = some (decide (s = t)) := by
  rw [isEq_is (by rw [shp_str, lit_ok]) (by rw [shp_str, lit_ok])]
  show some (Str.ofString s == Str.ofString t) = _
  congr 1
  rw [Bool.eq_iff_iff]
  simp
theorem isEq_sl {x : Str} (hx : PyData.strOk x = true) (t : String) : W.isEq (.str x) (.str (Str.ofString t)) = some (decide (x = Str.ofString t)) := by
  rw [isEq_is (by rw [shp_str, hx]) (by rw [shp_str, lit_ok])]
  show some (x == Str.ofString t) = _
  congr 1
theorem isEq_nl {x : W} (hx : x.shp = true) (hn : ∀ s, x ≠ .str s) (t : String) : W.isEq x (.str (Str.ofString t)) = some false := by
  rw [isEq_is hx (by rw [shp_str, lit_ok])]
  cases x <;> first | rfl | exact absurd rfl (hn _)
end Pf

-- LbIs
set_option maxHeartbeats 4000000
namespace P
open PySem Pf
def spanB : W → Bool
  | .tup [.int a, .non] => decide (1 ≤ a)
  | .tup [.int a, .int b] => decide (1 ≤ a) && decide (a ≤ b)
  | _ => false
def letS : Str := "abcdefghijklmnopqrstuvwxyz"
def nameB : W → Bool
  | .str s => decide (1 ≤ s.length) && decide (s.length ≤ 8) && s.cps.toList.all fun c => decide (c ∈ letS.cps.toList)
  | _ => false
def fromB : W → Int → Bool
  | .int i, l => decide (l ≤ i)
  | _, _ => false
theorem is_whole {C : Nat → Orc} (h : H_is_whole C) (k : Nat) {w : W} (hw : w.dat = true) : C (k + 1) "is_whole" [.d w] = .ret (.d (.bl (isWhole w))) [.d w] := by
  rw [h]
  unfold b_is_whole
  cases w <;> first | (simp [W.dat] at hw; done) | simp [isWhole]
theorem dat_tup {ws : List W} (h : (W.tup ws).dat = true) : ∀ w ∈ ws, w.dat = true := by
  have go : ∀ ws : List W, W.datL ws = true → ∀ w ∈ ws, w.dat = true := by
    intro ws
    induction ws with
    | nil => intro _ w hw; cases hw
    | cons x xs ih =>
      intro h w hw
      have h' : (x.dat && W.datL xs) = true := h
      rw [Bool.and_eq_true] at h'
      rcases List.mem_cons.mp hw with rfl | hw
      · exact h'.1
      · exact ih h'.2 w hw
  exact go ws h
theorem is_span {C : Nat → Orc} (h : H_is_whole C) (hs : H_is_span C) (k : Nat) {w : W} (hw : w.dat = true) : C (k + 2) "is_span" [.d w] = .ret (.d (.bl (spanB w))) [.d w] := by
  rw [hs]
  unfold b_is_span
  cases w with
  | tup ws =>
    have hd := dat_tup hw
    match ws, hd with
    | [], _ => simp [spanB]
    | [a], _ => simp [spanB]
    | a :: b :: c :: ws, _ =>
      have : ¬ ((ws.length : Int) + 1 + 1 + 1 = 2) := by omega
      simp [spanB, this]
    | [a, y], hd =>
      have da : a.dat = true := hd a (by simp)
      have dy : y.dat = true := hd y (by simp)
      have hx : ixOf 2 1 = some 1 := rfl
      cases a with
      | int a =>
        by_cases ha : a < 1
        · have : ¬ 1 ≤ a := by omega
          cases y <;> simp [spanB, is_whole h k da, isWhole, ha, this]
        · have ha' : 1 ≤ a := by omega
          cases y <;> first | (simp [W.dat] at dy; done) | simp [spanB, is_whole h k da, is_whole h k dy, isWhole, ha, ha', k1_is_span, hx]
      | _ => first | (simp [W.dat] at da; done) | simp [spanB, is_whole h k da, isWhole]
  | _ => first | (simp [W.dat] at hw; done) | simp [spanB]
theorem from_ {C : Nat → Orc} (h : H__law_whole C) (hs : H__law_from C) (k : Nat) {w : W} (hw : w.dat = true) (l : Int) : C (k + 2) "_law_from" [.d w, .d (.int l)] = .ret (.d (.bl (fromB w l))) [.d w, .d (.int l)] := by
  rw [hs]
  unfold b__law_from
  cases w <;> first | (simp [W.dat] at hw; done) | simp [fromB, whole_ h k hw, isWhole]
theorem is_count {C : Nat → Orc} (h : H_is_whole C) (hs : H_is_count C) (k : Nat) {w : W} (hw : w.dat = true) (l : Int) : C (k + 2) "is_count" [.d w, .d (.int l)] = .ret (.d (.bl (fromB w l))) [.d w, .d (.int l)] := by
  rw [hs]
  unfold b_is_count
  cases w <;> first | (simp [W.dat] at hw; done) | simp [fromB, is_whole h k hw, isWhole]
theorem is_tuple {C : Nat → Orc} (h : H__law_is_tuple C) (k : Nat) {w : W} (hw : w.dat = true) (l : Int) : C (k + 1) "_law_is_tuple" [.d w, .d (.int l)] = .ret (.d (.bl (match w with
    | .tup ws => decide ((ws.length : Int) = l)
    | _ => false))) [.d w, .d (.int l)] := by
  rw [h]
  unfold b__law_is_tuple
  cases w <;> first | (simp [W.dat] at hw; done) | simp
theorem law_span {C : Nat → Orc} (h : H__law_whole C) (hf : H__law_from C) (ht : H__law_is_tuple C) (hs : H__law_is_span C) (k : Nat) {w : W} (hw : w.dat = true) : C (k + 3) "_law_is_span" [.d w] = .ret (.d (.bl (spanB w))) [.d w] := by
  rw [hs]
  unfold b__law_is_span
  cases w with
  | tup ws =>
    have hd := dat_tup hw
    match ws, hd with
    | [], _ => simp [spanB, is_tuple ht (k + 1) hw]
    | [a], _ => simp [spanB, is_tuple ht (k + 1) hw]
    | a :: b :: c :: ws, _ =>
      have : ¬ ((ws.length : Int) + 1 + 1 + 1 = 2) := by omega
      simp [spanB, this, is_tuple ht (k + 1) hw]
    | [a, y], hd =>
      have da : a.dat = true := hd a (by simp)
      have dy : y.dat = true := hd y (by simp)
      have hx : ixOf 2 1 = some 1 := rfl
      cases a with
      | int a =>
        by_cases ha : 1 ≤ a
        · cases y <;> first | (simp [W.dat] at dy; done) | simp [spanB, is_tuple ht (k + 1) hw, from_ h hf k da, from_ h hf k dy, fromB, ha, k1__law_is_span, hx]
        · cases y <;> simp [spanB, is_tuple ht (k + 1) hw, from_ h hf k da, fromB, ha]
      | _ => first | (simp [W.dat] at da; done) | simp [spanB, is_tuple ht (k + 1) hw, from_ h hf k da, fromB]
  | _ => first | (simp [W.dat] at hw; done) | simp [spanB, is_tuple ht (k + 1) hw]
end P

-- LbNameIs
namespace Pf
open PySem
variable {A : Type} {ρ ρ1 : Env} {is : List Nat} {it : M (List W × List (Nat × W))} {tg : W → M Unit} {test : M Bool} {elt : M W}
/-- a comprehension that changes nothing -/
theorem lc_filter {l : List A} {g f : A → W} {p : A → Bool} (hit : it ρ = .ok (l.map g, []) ρ1) (hn : noOwn ρ1 is = true) (hsz : l.length ≤ sizeLine)
    (hs : ∀ a ∈ l, ∃ ρ2, obind (tg (g a) (clear ρ1 is)) (fun _ => test) = .ok (p a) ρ2 ∧ (p a = true → ∃ ρ3, elt ρ2 = .ok (f a) ρ3 ∧ clear ρ3 is = clear ρ1 is) ∧ (p a = false → clear ρ2 is = clear ρ1 is)) :
    lcE is it tg test elt ρ = .ok (.o (.lst ((l.filter p).map f))) (restore ρ1 (clear ρ1 is) is) := by
  obtain ⟨acc, ρ', h1, l1, l2, h2, h3, h4, h5⟩ := lc_if0 hit hn (by rw [List.length_map]; exact hsz) (fun pre acc ρ => ∃ l1 l2, l = l1 ++ l2 ∧ pre = l1.map g ∧ acc = (l1.filter p).map f ∧ ρ = clear ρ1 is) ⟨[], l, rfl, rfl, rfl, rfl⟩
    (elt := elt) (test := test) (tg := tg) (fun pre w post acc ρ e ⟨l1, l2, h2, h3, h4, h5⟩ => by
      subst h2 h3 h4 h5
      rw [List.map_append] at e
      have e2 := List.append_cancel_left e
      cases l2 with
      | nil => cases e2
      | cons a l3 =>
        have e3 : g a = w := (List.cons.inj e2).1
        subst e3
        obtain ⟨ρ2, q1, q2, q3⟩ := hs a (by simp)
        cases hp : p a with
        | true =>
          obtain ⟨ρ3, q4, q5⟩ := q2 hp
          exact .inl ⟨ρ2, f a, ρ3, by rw [q1, hp], q4, l1 ++ [a], l3, by simp, by simp, by simp [hp], q5⟩
        | false => exact .inr ⟨ρ2, by rw [q1, hp], l1 ++ [a], l3, by simp, by simp, by simp [hp], q3 hp⟩)
  have : l2 = [] := by
    have : l2.length = 0 := by
      have := congrArg List.length h3
      rw [h2] at this
      simp at this
      simpa using this
    exact List.eq_nil_of_length_eq_zero this
  subst this
  rw [List.append_nil] at h2
  subst h2
  rw [h1, h4, h5]
theorem lc_pure {l : List A} {g f : A → W} (hit : it ρ = .ok (l.map g, []) ρ1) (hn : noOwn ρ1 is = true) (hsz : l.length ≤ sizeLine)
    (hs : ∀ a ∈ l, ∃ ρ3, obind (tg (g a) (clear ρ1 is)) (fun _ => elt) = .ok (f a) ρ3 ∧ clear ρ3 is = clear ρ1 is) :
    lcE is it tg (M.ret true) elt ρ = .ok (.o (.lst (l.map f))) (restore ρ1 (clear ρ1 is) is) := by
  have := lc_filter (p := fun _ => true) (test := M.ret true) (elt := elt) (tg := tg) (f := f) hit hn hsz fun a ha => by
    obtain ⟨ρ3, h1, h2⟩ := hs a ha
    cases e : tg (g a) (clear ρ1 is) with
    | bad => rw [e] at h1; cases h1
    | exc C ρ2 => rw [e] at h1; cases h1
    | ok u ρ2 =>
      rw [e] at h1
      exact ⟨ρ2, rfl, fun _ => ⟨ρ3, h1, h2⟩, fun z => by cases z⟩
  rw [List.filter_eq_self.mpr (by simp)] at this
  exact this
theorem bools_map {l : List A} {p : A → Bool} : bools (l.map fun a => .bl (p a)) = some (l.map p) := by
  induction l with
  | nil => rfl
  | cons a l ih => simp [bools, ih]
@[simp] theorem isIn_1 {c : Nat} {z : Str} : W.isIn (.str ⟨#[c]⟩) (.str z) = some (decide (c ∈ z.cps.toList)) := rfl
@[simp] theorem eqvL_nil {xs : List W} : W.eqvL xs [] = xs.isEmpty := by cases xs <;> rfl
theorem isEq_l0 {xs : List W} (h : (W.lst xs).shp = true) : W.isEq (.lst xs) (.lst []) = some xs.isEmpty := by
  rw [isEq_is h (by decide)]
  show some (W.eqvL xs []) = _
  rw [eqvL_nil]
theorem isEq_t0d {xs : List W} (h : (W.tup xs).dat = true) : W.isEq (.tup xs) (.tup []) = some xs.isEmpty := by
  rw [isEq_any h (by decide) (by decide)]
  show some (W.eqvL xs []) = _
  rw [eqvL_nil]
theorem isEq_t0 {xs : List W} (h : (W.tup xs).shp = true) : W.isEq (.tup xs) (.tup []) = some xs.isEmpty := by
  rw [isEq_is h (by decide)]
  show some (W.eqvL xs []) = _
  rw [eqvL_nil]
end Pf
namespace P
open PySem Pf
theorem is_name {C : Nat → Orc} (hs : H_is_name C) (k : Nat) {w : W} (hw : w.dat = true) (hz : ∀ s, w = .str s → s.length ≤ 10000000) : C (k + 1) "is_name" [.d w] = .ret (.d (.bl (nameB w))) [.d w] := by
  rw [hs]
  unfold b_is_name
  cases w with
  | str s =>
    have hl := hz s rfl
    have hsz : s.length ≤ 16777216 := by omega
    by_cases h1 : 1 ≤ s.length
    · by_cases h8 : s.length ≤ 8
      · have loop : l1_is_name (C k) [.d (.str s), .e] = .ok (.o (.lst (s.cps.toList.map fun c => .bl (decide (c ∈ letS.cps.toList))))) (restore [.d (.str s), .e] (clear [.d (.str s), .e] [1]) [1]) := by
          refine lc_pure (ρ1 := [.d (.str s), .e]) (g := fun c => .str ⟨#[c]⟩) ?_ rfl ?_ ?_
          · simp
          · rw [← str_len]; unfold sizeLine; omega
          · intro c hc
            refine ⟨[.d (.str s), .d (.str ⟨#[c]⟩)], ?_, rfl⟩
            simp [clear, letS]
        have h8' : ((s.length : Int) ≤ 8) := by omega
        have h1' : (1 : Int) ≤ s.length := by omega
        simp [sz, hsz, h1', h8', loop, bools_map, nameB, h1, h8, restore, clear]
      · have h8' : ¬ ((s.length : Int) ≤ 8) := by omega
        have h1' : (1 : Int) ≤ s.length := by omega
        simp [sz, hsz, h1', h8', nameB, h1, h8]
    · have h1' : ¬ (1 : Int) ≤ s.length := by omega
      simp [sz, hsz, h1', nameB, h1]
  | _ => first | (simp [W.dat] at hw; done) | simp [nameB]
theorem shp_chars {l : List Nat} (h : ∀ c ∈ l, c < 0x110000) : (W.lst (l.map fun c => .str ⟨#[c]⟩)).shp = true := by
  unfold W.shp
  rw [Bool.and_eq_true, decide_eq_true_eq]
  constructor
  · show W.datL _ = true
    refine datL_of fun w hw => ?_
    obtain ⟨c, hc, rfl⟩ := List.mem_map.mp hw
    have := h c hc
    show PyData.strOk ⟨#[c]⟩ = true
    unfold PyData.strOk
    simpa using this
  · show W.depthL _ + 1 ≤ 64
    have : W.depthL (l.map fun c => W.str ⟨#[c]⟩) ≤ 0 := depL_of fun w hw => by
      obtain ⟨c, hc, rfl⟩ := List.mem_map.mp hw
      exact Nat.le_refl _
    omega
theorem cps_ok {s : Str} (h : PyData.strOk s = true) : ∀ c ∈ s.cps.toList, c < 0x110000 := by
  unfold PyData.strOk at h
  rw [← Array.all_toList, List.all_eq_true] at h
  intro c hc
  simpa using h c hc
theorem law_name {C : Nat → Orc} (hs : H__law_is_name C) (k : Nat) {w : W} (hw : w.dat = true) (hz : ∀ s, w = .str s → s.length ≤ 10000000) : C (k + 1) "_law_is_name" [.d w] = .ret (.d (.bl (nameB w))) [.d w] := by
  rw [hs]
  unfold b__law_is_name
  cases w with
  | str s =>
    have hl := hz s rfl
    have hsz : s.length ≤ 16777216 := by omega
    have hok := cps_ok (show PyData.strOk s = true from hw)
    by_cases h1 : 1 ≤ s.length
    · by_cases h8 : s.length ≤ 8
      · have loop : l1__law_is_name (C k) [.d (.str s), .e] = .ok (.o (.lst ((s.cps.toList.filter fun c => !decide (c ∈ letS.cps.toList)).map fun c => .str ⟨#[c]⟩))) (restore [.d (.str s), .e] (clear [.d (.str s), .e] [1]) [1]) := by
          refine lc_filter (ρ1 := [.d (.str s), .e]) (g := fun c => .str ⟨#[c]⟩) ?_ rfl ?_ ?_
          · simp
          · rw [← str_len]; unfold sizeLine; omega
          · intro c hc
            refine ⟨[.d (.str s), .d (.str ⟨#[c]⟩)], ?_, fun _ => ⟨[.d (.str s), .d (.str ⟨#[c]⟩)], ?_, rfl⟩, fun _ => rfl⟩
            · simp [clear, letS]
            · simp
        have h8' : ((s.length : Int) < 9) := by omega
        have h1' : (0 : Int) < s.length := by omega
        have h1n : 0 < s.length := h1
        have hq := isEq_l0 (shp_chars (l := s.cps.toList.filter fun c => !decide (c ∈ letS.cps.toList)) fun c hc => hok c (List.mem_filter.mp hc).1)
        have he : (s.cps.toList.filter fun c => !decide (c ∈ letS.cps.toList)).isEmpty = s.cps.toList.all fun c => decide (c ∈ letS.cps.toList) := by
          rw [Bool.eq_iff_iff, List.isEmpty_iff, List.filter_eq_nil_iff, List.all_eq_true]
          simp
        rw [List.isEmpty_map, he] at hq
        generalize (s.cps.toList.filter fun c => !decide (c ∈ letS.cps.toList)).map (fun c => W.str ⟨#[c]⟩) = fl at loop hq
        simp [sz, hsz, h1', h1n, h8', loop, hq, restore, clear, nameB, h1, h8]
      · have h8' : ¬ ((s.length : Int) < 9) := by omega
        have h1' : (0 : Int) < s.length := by omega
        have h1n : 0 < s.length := h1
        simp [sz, hsz, h1', h1n, h8', nameB, h1, h8]
    · have h1' : ¬ (0 : Int) < s.length := by omega
      have h1n : s.length = 0 := by omega
      simp [sz, hsz, h1', h1n, nameB]
  | _ => first | (simp [W.dat] at hw; done) | simp [nameB]
end P

-- LbTx1
/-! Wheres and their texts, plainly: codes 33 ! 38 & 40 ( 41 ) 45 - 58 : 124 | -/
namespace P
open PySem Pf
open SX (S)
/-! ### numbers -/
theorem snocInd {p : List Nat → Prop} (h0 : p []) (h1 : ∀ m c, p m → p (m ++ [c])) : ∀ l, p l := by
  have go : ∀ r : List Nat, p r.reverse := by
    intro r
    induction r with
    | nil => exact h0
    | cons a r ih => rw [List.reverse_cons]; exact h1 _ _ ih
  intro l
  have := go l.reverse
  rwa [List.reverse_reverse] at this
theorem digitsVal_snoc (m : List Nat) (c : Nat) : NumText.digitsVal (m ++ [c]) = NumText.digitsVal m * 10 + (c - 48) := by
  unfold NumText.digitsVal
  rw [List.foldl_append]
  rfl
theorem digitsVal_lt : ∀ (l : List Nat), NumText.AllDigits l → NumText.digitsVal l < 10 ^ l.length := by
  refine snocInd (fun _ => by decide) fun m c ih h => ?_
  have h1 := ih fun x hx => h x (List.mem_append_left _ hx)
  have h2 := h c (by simp)
  rw [digitsVal_snoc, List.length_append, List.length_singleton, Nat.pow_succ]
  omega
/-- digits without a 0 ahead are the text of their number -/
theorem numL_back : ∀ (l : List Nat), NumText.AllDigits l → l ≠ [] → (l.head? ≠ some 48 ∨ l.length = 1) → TL.numL (NumText.digitsVal l) = l := by
  refine snocInd (fun _ h => absurd rfl h) fun m c ih => ?_
  · intro h _ h0
    have hc := h c (by simp)
    rw [digitsVal_snoc]
    by_cases hm : m = []
    · subst hm
      show TL.numL (0 * 10 + (c - 48)) = [c]
      rw [TL.numL_lt (by omega)]
      congr 1
      omega
    · have hm0 : m.head? ≠ some 48 := by
        rcases h0 with h0 | h0
        · intro z
          apply h0
          cases m with
          | nil => exact absurd rfl hm
          | cons a m => exact z
        · rw [List.length_append, List.length_singleton] at h0
          exact absurd (List.length_eq_zero_iff.mp (by omega)) hm
      have e := ih (fun x hx => h x (List.mem_append_left _ hx)) hm (.inl hm0)
      have hpos : 1 ≤ NumText.digitsVal m := by
        rcases Nat.eq_zero_or_pos (NumText.digitsVal m) with z | z
        · rw [z, TL.numL_lt (by decide)] at e
          rw [← e] at hm0
          exact absurd rfl hm0
        · exact z
      rw [TL.numL_step (by omega)]
      have e1 : (NumText.digitsVal m * 10 + (c - 48)) / 10 = NumText.digitsVal m := by omega
      have e2 : 48 + (NumText.digitsVal m * 10 + (c - 48)) % 10 = c := by omega
      rw [e1, e2, e]
theorem numL_head : ∀ (n : Nat), (TL.numL n).head? ≠ some 48 ∨ (TL.numL n).length = 1 := by
  intro n
  have key : ∀ n, 1 ≤ n → (TL.numL n).head? ≠ some 48 := by
    intro n
    induction n using Nat.strongRecOn with
    | _ n ih =>
      intro h1
      by_cases h : n < 10
      · rw [TL.numL_lt h]
        intro z
        have : 48 + n = 48 := Option.some.inj z
        omega
      · rw [TL.numL_step (by omega)]
        have h2 := ih (n / 10) (by omega) (by omega)
        have h3 := TL.numL_ne (n / 10)
        cases e : TL.numL (n / 10) with
        | nil => exact absurd e h3
        | cons a r =>
          rw [e] at h2
          exact h2
  by_cases h : n = 0
  · right
    rw [h, TL.numL_lt (by decide)]
    rfl
  · exact .inl (key n (by omega))
def digB (c : Nat) : Bool := decide (48 ≤ c) && decide (c ≤ 57)
/-- the number that a word writes -/
def numIn (l : List Nat) : Option Nat := if l ≠ [] ∧ l.length ≤ 60 ∧ l.all digB = true ∧ (l.head? ≠ some 48 ∨ l.length = 1) then some (NumText.digitsVal l) else none
theorem allDig {l : List Nat} (h : l.all digB = true) : NumText.AllDigits l := fun c hc => by
  have := List.all_eq_true.mp h c hc
  unfold digB at this
  rw [Bool.and_eq_true, decide_eq_true_eq, decide_eq_true_eq] at this
  exact this
theorem numIn_back {l : List Nat} {n : Nat} (h : numIn l = some n) : l = TL.numL n ∧ n < 10 ^ 60 := by
  unfold numIn at h
  split at h
  · rename_i hc
    cases h
    refine ⟨(numL_back l (allDig hc.2.2.1) hc.1 hc.2.2.2).symm, Nat.lt_of_lt_of_le (digitsVal_lt l (allDig hc.2.2.1)) (Nat.pow_le_pow_right (by decide) hc.2.1)⟩
  · cases h
theorem numIn_num {n : Nat} (h : n < 10 ^ 60) : numIn (TL.numL n) = some n := by
  unfold numIn
  rw [if_pos, TL.numL_val]
  refine ⟨TL.numL_ne n, TL.numL_len (by decide) h, ?_, numL_head n⟩
  rw [List.all_eq_true]
  intro c hc
  have := TL.numL_digits n c hc
  unfold digB
  rw [Bool.and_eq_true, decide_eq_true_eq, decide_eq_true_eq]
  exact this
/-! ### wheres -/
inductive Wr where
  | all
  | span (days : Bool) (a : Nat) (b : Option Nat)
  | buyer (s : List Nat) | spent (s : List Nat) (a b : Nat)
  | neg (w : Wr) | two (e : Bool) (x y : Wr)
def oN : Option Nat → W
  | none => .non
  | some n => .int (n : Nat)
def spW (d : Bool) : Str := if d then "days" else "numbers"
def twW (e : Bool) : Str := if e then "either" else "both"
def twC (e : Bool) : Nat := if e then 124 else 38
def Wr.w : Wr → W
  | .all => .tup [.str "all"]
  | .span d a b => .tup [.str (spW d), .int (a : Nat), oN b]
  | .buyer s => .tup [.str "buyer", .str (S s)]
  | .spent s a b => .tup [.str "spent", .str (S s), .int (a : Nat), .int (b : Nat)]
  | .neg w => .tup [.str "not", w.w]
  | .two e x y => .tup [.str (twW e), x.w, y.w]
def cAll : List Nat := [97, 108, 108]
def cNum : List Nat := [110, 117, 109, 98, 101, 114, 115]
def cDays : List Nat := [100, 97, 121, 115]
def cBuyer : List Nat := [98, 117, 121, 101, 114]
def cSpent : List Nat := [115, 112, 101, 110, 116]
def spC (d : Bool) : List Nat := if d then cDays else cNum
def oT : Option Nat → List Nat
  | none => []
  | some n => TL.numL n
def Wr.t : Wr → List Nat
  | .all => cAll
  | .span d a b => TL.joinL [58] [spC d, TL.joinL [45] [TL.numL a, oT b]]
  | .buyer s => TL.joinL [58] [cBuyer, s]
  | .spent s a b => TL.joinL [58] [cSpent, s, TL.numL a, TL.numL b]
  | .neg w => 33 :: w.t
  | .two e x y => 40 :: (x.t ++ twC e :: (y.t ++ [41]))
def nmL (s : List Nat) : Bool := decide (1 ≤ s.length) && decide (s.length ≤ 8) && s.all fun c => decide (97 ≤ c) && decide (c ≤ 122)
def Wr.ok : Wr → Prop
  | .all => True
  | .span d a b => (d = true ∨ 1 ≤ a) ∧ a < 10 ^ 60 ∧ ∀ n, b = some n → a ≤ n ∧ n < 10 ^ 60
  | .buyer s => nmL s = true
  | .spent s a b => nmL s = true ∧ 1 ≤ a ∧ a < 10 ^ 60 ∧ b < 10 ^ 60
  | .neg w => w.ok
  | .two _ x y => x.ok ∧ y.ok
def Wr.d : Wr → Nat
  | .neg w => w.d + 1
  | .two _ x y => max x.d y.d + 1
  | _ => 1
/-! ### what a text without wheres in it writes -/
def words (l : List Nat) : List (List Nat) := TL.spl [58] 0 [] l
def plainP : List (List Nat) → W
  | [a, b] =>
    if a = cNum ∨ a = cDays then (match TL.spl [45] 0 [] b with
      | [x, y] => if y = [] then .tup [.str (S a), oN (numIn x), .non] else (match numIn y with
        | some n => .tup [.str (S a), oN (numIn x), .int (n : Nat)]
        | none => .non)
      | _ => .non)
    else if a = cBuyer ∨ a = cAll then .tup [.str (S a), .str (S b)] else .non
  | [a, b, c, d] => if a = cSpent then .tup [.str "spent", .str (S b), oN (numIn c), oN (numIn d)] else if a = cBuyer ∨ a = cAll then .tup [.str (S a), .str (S b), .str (S c), .str (S d)] else .non
  | a :: r => if a = cBuyer ∨ a = cAll then .tup (.str (S a) :: r.map fun x => .str (S x)) else .non
  | [] => .non
def plainIn (l : List Nat) : W := plainP (words l)
end P

-- LbWhereIs
namespace Pf
open PySem
theorem isIn_t {x : W} {ws : List W} (hx : x.shp = true) (hw : (W.tup ws).shp = true) : W.isIn x (.tup ws) = some (ws.any fun z => W.eqv z x) := by
  have h1 := W.shp_dat hx
  have h2 : (W.tup ws).dat = true := W.shp_dat hw
  have h3 : x.depth ≤ 64 := by
    unfold W.shp at hx
    rw [Bool.and_eq_true, decide_eq_true_eq] at hx
    exact hx.2
  have h4 : min x.depth (W.depthL ws) ≤ 64 := by omega
  cases x <;> simp_all [W.isIn]
theorem isIn_td {x : W} {ws : List W} (hx : x.dat = true) (hw : (W.tup ws).shp = true) : W.isIn x (.tup ws) = some (ws.any fun z => W.eqv z x) := by
  have h2 : (W.tup ws).dat = true := W.shp_dat hw
  have h3 : W.depthL ws + 1 ≤ 64 := by
    unfold W.shp at hw
    rw [Bool.and_eq_true, decide_eq_true_eq] at hw
    exact hw.2
  have h4 : min x.depth (W.depthL ws) ≤ 64 := by omega
  cases x <;> simp_all [W.isIn]
theorem eqv_ls {x : Str} (t : String) : W.eqv (.str (Str.ofString t)) (.str x) = decide (x = Str.ofString t) := by
  show (Str.ofString t == x) = _
  rw [Bool.eq_iff_iff]
  simp
  exact eq_comm
end Pf
namespace P
open PySem Pf
def plainB (s : Str) (r : List W) : Bool :=
  if s = ("all" : Str) then r.isEmpty
  else if s = ("numbers" : Str) then spanB (.tup r)
  else if s = ("days" : Str) then (match r with
    | [.int a, .non] => decide (0 ≤ a)
    | [.int a, .int b] => decide (0 ≤ a) && decide (a ≤ b)
    | _ => false)
  else if s = ("buyer" : Str) then (match r with
    | [n] => nameB n
    | _ => false)
  else if s = ("spent" : Str) then (match r with
    | [n, a, b] => nameB n && (fromB a 1 && fromB b 0)
    | _ => false)
  else false
def whereB : Nat → W → Bool
  | n + 1, .tup (.str s :: r) => if s = ("not" : Str) then (match r with
      | [a] => whereB n a
      | _ => false)
    else if s = ("both" : Str) ∨ s = ("either" : Str) then (match r with
      | [a, b] => whereB n a && whereB n b
      | _ => false)
    else plainB s r
  | _, _ => false
/-- a thing that is data, in all its parts -/
def Dt (w : W) : Prop := w.dat = true ∧ ∀ s, w = .str s → s.length ≤ 10000000
theorem Ok.dt {b n : Nat} {w : W} (h : Ok b n w) : Dt w := ⟨h.dat.1, fun s e => by
  subst e
  rw [ok_str] at h
  exact Nat.le_trans h.2 (by decide)⟩
structure IsH (C : Nat → Orc) : Prop where
  whole : H_is_whole C
  span : H_is_span C
  name : H_is_name C
  count : H_is_count C
  plain : H_is_plain C
  within : H_is_within C
  where_ : H_is_where C
theorem is_plain {C : Nat → Orc} (h : IsH C) (k : Nat) {s : Str} {r : List W} (hs : PyData.strOk s = true) (hr : ∀ w ∈ r, Dt w) : C (k + 3) "is_plain" [.d (.tup (.str s :: r))] = .ret (.d (.bl (plainB s r))) [.d (.tup (.str s :: r))] := by
  rw [h.plain]
  unfold b_is_plain
  have e := isEq_sl hs
  have i1 : ∀ n, ixOf (n + 1 + 1) 1 = some 1 := fun n => by rw [ixOf_lt (by decide) (by omega)]; rfl
  have i2 : ∀ n, ixOf (n + 1 + 1 + 1) 2 = some 2 := fun n => by rw [ixOf_lt (by decide) (by omega)]; rfl
  have i3 : ∀ n, ixOf (n + 1 + 1 + 1 + 1) 3 = some 3 := fun n => by rw [ixOf_lt (by decide) (by omega)]; rfl
  by_cases h1 : s = ("all" : Str)
  · cases r with
    | nil => simp [e, h1, plainB]
    | cons a r =>
      have : ¬ ((r.length : Int) + 1 + 1 = 1) := by omega
      simp [e, h1, plainB, this]
  by_cases h2 : s = ("numbers" : Str)
  · have hc : cutL (W.str s :: r) (some 1) none = r := by rw [cut_from (by decide)]; rfl
    have hd : (W.tup r).dat = true := datL_of fun w hw => (hr w hw).1
    simp [e, h2, plainB, is_span h.whole h.span k hd]
    rw [h2] at hc
    simp [hc, is_span h.whole h.span k hd]
  by_cases h3 : s = ("days" : Str)
  · match r, hr with
    | [], _ => simp [e, h3, plainB]
    | [a], _ => simp [e, h3, plainB]
    | a :: b :: c :: r, _ =>
      have : ¬ ((r.length : Int) + 1 + 1 + 1 + 1 = 3) := by omega
      simp [e, h3, plainB, this]
    | [a, y], hr =>
      have da := (hr a (by simp)).1
      have dy := (hr y (by simp)).1
      have j1 : ixOf 3 1 = some 1 := rfl
      have j2 : ixOf 3 2 = some 2 := rfl
      cases a with
      | int a =>
        by_cases ha : 0 ≤ a
        · cases y <;> first | (simp [W.dat] at dy; done) | simp [e, h3, plainB, is_count h.whole h.count k da, is_count h.whole h.count k dy, fromB, ha, k1_is_plain, j1, j2]
        · cases y <;> simp [e, h3, plainB, is_count h.whole h.count k da, fromB, ha, j1, j2]
      | _ => first | (simp [W.dat] at da; done) | simp [e, h3, plainB, is_count h.whole h.count k da, fromB, j1, j2]
  by_cases h4 : s = ("buyer" : Str)
  · match r, hr with
    | [], _ => simp [e, h4, plainB]
    | [a], hr =>
      have da := hr a (by simp)
      have j1 : ixOf 2 1 = some 1 := rfl
      simp [e, h4, plainB, is_name h.name (k + 1) da.1 da.2, j1]
    | a :: b :: r, _ =>
      have : ¬ ((r.length : Int) + 1 + 1 + 1 = 2) := by omega
      simp [e, h4, plainB, this]
  by_cases h5 : s = ("spent" : Str)
  · match r, hr with
    | [], _ => simp [e, h5, plainB]
    | [a], _ => simp [e, h5, plainB]
    | [a, b], _ => simp [e, h5, plainB]
    | [n, a, b], hr =>
      have dn := hr n (by simp)
      have da := (hr a (by simp)).1
      have db := (hr b (by simp)).1
      have j1 : ixOf 4 1 = some 1 := rfl
      have j2 : ixOf 4 2 = some 2 := rfl
      have j3 : ixOf 4 3 = some 3 := rfl
      cases hn : nameB n <;> cases ha : fromB a 1 <;> simp [e, h5, plainB, is_name h.name (k + 1) dn.1 dn.2, is_count h.whole h.count k da, is_count h.whole h.count k db, hn, ha, j1, j2, j3]
    | a :: b :: c :: d :: r, _ =>
      have : ¬ ((r.length : Int) + 1 + 1 + 1 + 1 + 1 = 4) := by omega
      simp [e, h5, plainB, this]
  · simp [e, h1, h2, h3, h4, h5, plainB]
theorem within {C : Nat → Orc} (h : IsH C) {b : Nat} : ∀ (n k m : Nat) {w : W}, Ok b m w → C (k + n + 4) "is_within" [.d w, .d (.int n)] = .ret (.d (.bl (whereB n w))) [.d w, .d (.int n)] := by
  intro n
  induction n with
  | zero =>
    intro k m w ok
    rw [show k + 0 + 4 = (k + 3) + 1 by omega, h.within]
    unfold b_is_within
    have hsh := ok.dat.1
    cases w with
    | tup ws =>
      have hq := isEq_t0d hsh
      cases ws with
      | nil => simp [sz, hq, whereB]
      | cons x r =>
        have okx : Ok b (m - 1) x := by
          obtain ⟨m, rfl⟩ : ∃ j, m = j + 1 := ⟨m - 1, by cases m <;> first | (simp [Ok] at ok; done) | omega⟩
          exact ok.2 x (by simp)
        have dx := okx.dat.1
        cases x <;> first | (simp [W.dat] at dx; done) | simp [sz, hq, whereB]
    | _ => first | (have := ok.dat.1; simp [W.dat] at this; done) | simp [whereB]
  | succ n ih =>
    intro k m w ok
    rw [show k + (n + 1) + 4 = (k + n + 4) + 1 by omega, h.within]
    unfold b_is_within
    have hsh := ok.dat.1
    cases w with
    | tup ws =>
      obtain ⟨m, rfl⟩ : ∃ j, m = j + 1 := ⟨m - 1, by cases m <;> first | (simp [Ok] at ok; done) | omega⟩
      have hq := isEq_t0d hsh
      have okw := ok.2
      cases ws with
      | nil => simp [sz, hq, whereB]
      | cons x r =>
        have dx := (okw x (by simp)).dat.1
        cases x with
        | str s =>
          have hs : PyData.strOk s = true := dx
          have e := isEq_sl hs
          have hn0 : ¬ ((n : Int) + 1 = 0) := by omega
          have hn1 : ((n : Int) + 1 - 1) = n := by omega
          have hin := isIn_t (x := .str s) (ws := [.str "both", .str "either"]) (by rw [shp_str]; exact hs) (by decide +kernel)
          simp only [List.any_cons, List.any_nil, eqv_ls, Bool.or_false] at hin
          by_cases h1 : s = ("not" : Str)
          · subst h1
            match r, okw with
            | [], _ => simp [sz, hq, e, hn0, whereB]
            | [a], okw =>
              have j1 : ixOf 2 1 = some 1 := rfl
              have := ih k m (okw a (by simp))
              simp [sz, hq, e, hn0, hn1, j1, this, whereB]
            | a :: c :: r, _ =>
              have : ¬ ((r.length : Int) + 1 + 1 + 1 = 2) := by omega
              simp [sz, hq, e, hn0, this, whereB]
          by_cases h2 : s = ("both" : Str) ∨ s = ("either" : Str)
          · have h2' : (decide (s = Str.ofString "both") || decide (s = Str.ofString "either")) = true := by simpa using h2
            rw [h2'] at hin
            match r, okw with
            | [], _ => simp [sz, hq, e, h1, h2, hin, hn0, whereB]
            | [a], _ => simp [sz, hq, e, h1, h2, hin, hn0, whereB]
            | [a, c], okw =>
              have j1 : ixOf 3 1 = some 1 := rfl
              have j2 : ixOf 3 2 = some 2 := rfl
              have t1 := ih k m (okw a (by simp))
              have t2 := ih k m (okw c (by simp))
              cases ha : whereB n a <;> simp [sz, hq, e, h1, h2, hin, hn0, hn1, j1, j2, t1, t2, ha, whereB]
            | a :: c :: d :: r, _ =>
              have : ¬ ((r.length : Int) + 1 + 1 + 1 + 1 = 3) := by omega
              simp [sz, hq, e, h1, h2, hin, hn0, this, whereB]
          · have h2' : (decide (s = Str.ofString "both") || decide (s = Str.ofString "either")) = false := by simpa using h2
            rw [h2'] at hin
            have hp := is_plain h (k + n + 1) hs fun w hw => (okw w (List.mem_cons_of_mem _ hw)).dt
            simp [sz, hq, e, h1, h2, hin, hn0, hp, whereB]
        | _ => first | (simp [W.dat] at dx; done) | simp [sz, hq, whereB]
    | _ => first | (have := ok.dat.1; simp [W.dat] at this; done) | simp [whereB]
theorem is_where {C : Nat → Orc} (h : IsH C) {b m : Nat} (k : Nat) {w : W} (ok : Ok b m w) : C (k + 11) "is_where" [.d w] = .ret (.d (.bl (whereB 6 w))) [.d w] := by
  rw [h.where_]
  unfold b_is_where
  have := within h 6 k m ok
  simp at this
  simp [this]
end P

-- LbTx2
/-! Wheres and their texts, plainly: what the readers read. -/
namespace P
open PySem Pf
open SX (S)
theorem spl_ne (c : Nat) : ∀ (l acc : List Nat), TL.spl [c] 0 acc l ≠ []
  | [], acc => by rw [TL.spl_nil]; simp
  | d :: r, acc => by
    by_cases h : TL.pre [c] (d :: r) = true
    · rw [TL.spl_hit h]; simp
    · rw [TL.spl_miss (by simpa using h)]; exact spl_ne c r _
theorem pre1 (c d : Nat) (r : List Nat) : TL.pre [c] (d :: r) = (d == c) := by
  show ([d] == [c]) = (d == c)
  simp
theorem joinL_spl (c : Nat) : ∀ (l acc : List Nat), TL.joinL [c] (TL.spl [c] 0 acc l) = acc ++ l
  | [], acc => by rw [TL.spl_nil, List.append_nil]; rfl
  | d :: r, acc => by
    by_cases h : d = c
    · subst h
      have hp : TL.pre [d] (d :: r) = true := by rw [pre1]; simp
      rw [TL.spl_hit hp]
      have ih := joinL_spl d r []
      have hn := spl_ne d r []
      show TL.joinL [d] (acc :: TL.spl [d] 0 [] r) = _
      cases e : TL.spl [d] 0 [] r with
      | nil => exact absurd e hn
      | cons p q =>
        show acc ++ ([d] ++ TL.joinL [d] (p :: q)) = _
        rw [← e, ih]
        simp
    · have hp : TL.pre [c] (d :: r) = false := by rw [pre1]; simpa using h
      rw [TL.spl_miss hp, joinL_spl c r]
      simp
theorem join_words (l : List Nat) : TL.joinL [58] (words l) = l := joinL_spl 58 l []
theorem join_dash (l : List Nat) : TL.joinL [45] (TL.spl [45] 0 [] l) = l := joinL_spl 45 l []
theorem letS_mem (c : Nat) : c ∈ letS.cps.toList ↔ 97 ≤ c ∧ c ≤ 122 := by
  have e : letS.cps.toList = List.range' 97 26 := by decide +kernel
  rw [e, List.mem_range'_1]
  omega
theorem nameB_S (s : List Nat) : nameB (.str (S s)) = nmL s := by
  unfold nameB nmL
  have h1 : (S s).length = s.length := SX.S_len s
  have h2 : (S s).cps.toList = s := by simp [S]
  show (decide (1 ≤ (S s).length) && decide ((S s).length ≤ 8) && (S s).cps.toList.all fun c => decide (c ∈ letS.cps.toList)) = _
  rw [h1, h2]
  congr 1
  rw [Bool.eq_iff_iff, List.all_eq_true, List.all_eq_true]
  constructor
  · intro h c hc
    have := (letS_mem c).mp (of_decide_eq_true (h c hc))
    simp [this]
  · intro h c hc
    have := h c hc
    rw [Bool.and_eq_true, decide_eq_true_eq, decide_eq_true_eq] at this
    exact decide_eq_true ((letS_mem c).mpr this)
theorem S_all : S cAll = ("all" : Str) := by decide +kernel
theorem S_buyer : S cBuyer = ("buyer" : Str) := by decide +kernel
theorem S_num : S cNum = ("numbers" : Str) := by decide +kernel
theorem S_days : S cDays = ("days" : Str) := by decide +kernel
theorem wB_all (n : Nat) (r : List W) : whereB (n + 1) (.tup (.str "all" :: r)) = r.isEmpty := by simp [whereB, plainB]
theorem wB_buyer (n : Nat) (r : List W) : whereB (n + 1) (.tup (.str "buyer" :: r)) = (match r with | [x] => nameB x | _ => false) := by simp [whereB, plainB] <;> rfl
theorem wB_num (n : Nat) (r : List W) : whereB (n + 1) (.tup (.str "numbers" :: r)) = spanB (.tup r) := by simp [whereB, plainB]
theorem wB_days (n : Nat) (r : List W) : whereB (n + 1) (.tup (.str "days" :: r)) = (match r with
    | [.int a, .non] => decide (0 ≤ a)
    | [.int a, .int b] => decide (0 ≤ a) && decide (a ≤ b)
    | _ => false) := by simp [whereB, plainB] <;> rfl
theorem wB_spent (n : Nat) (r : List W) : whereB (n + 1) (.tup (.str "spent" :: r)) = (match r with
    | [n, a, b] => nameB n && (fromB a 1 && fromB b 0)
    | _ => false) := by simp [whereB, plainB] <;> rfl
theorem wB_not (n : Nat) (a : W) : whereB (n + 1) (.tup [.str "not", a]) = whereB n a := by simp [whereB]
theorem wB_both (n : Nat) (a b : W) : whereB (n + 1) (.tup [.str "both", a, b]) = (whereB n a && whereB n b) := by simp [whereB]
theorem wB_either (n : Nat) (a b : W) : whereB (n + 1) (.tup [.str "either", a, b]) = (whereB n a && whereB n b) := by simp [whereB]
theorem wB_none (n : Nat) (r : List W) : whereB n (.tup (.str "none" :: r)) = false := by cases n <;> simp [whereB, plainB]
theorem wB_non (n : Nat) : whereB n .non = false := by cases n <;> rfl
theorem dash2 {b x y : List Nat} (h : TL.spl [45] 0 [] b = [x, y]) : b = TL.joinL [45] [x, y] := by rw [← h, join_dash]
theorem plain_inv {l : List Nat} {n : Nat} (h : whereB (n + 1) (plainIn l) = true) : ∃ r : Wr, r.ok ∧ r.d = 1 ∧ plainIn l = r.w ∧ l = r.t := by
  have hl := join_words l
  unfold plainIn at h ⊢
  generalize words l = ws at h hl ⊢
  subst hl
  match ws, h with
  | [], h => simp [plainP, wB_non] at h
  | [a], h =>
    show ∃ r : Wr, r.ok ∧ r.d = 1 ∧ plainP [a] = r.w ∧ a = r.t
    have e : plainP [a] = if a = cBuyer ∨ a = cAll then .tup [.str (S a)] else .non := rfl
    rw [e] at h ⊢
    split at h
    · rename_i hc
      rcases hc with rfl | rfl
      · rw [S_buyer, wB_buyer] at h; cases h
      · rw [if_pos (.inr rfl)]
        exact ⟨.all, trivial, rfl, by rw [S_all]; rfl, rfl⟩
    · rw [wB_non] at h; cases h
  | [a, b], h =>
    unfold plainP at h ⊢
    dsimp only at h ⊢
    split at h
    · rename_i hc
      rw [if_pos hc]
      generalize e : TL.spl [45] 0 [] b = es at h ⊢
      match es, h with
      | [], h => rw [wB_non] at h; cases h
      | [_], h => rw [wB_non] at h; cases h
      | _ :: _ :: _ :: _, h => rw [wB_non] at h; cases h
      | [x, y], h =>
        have hb := dash2 e
        dsimp only at h ⊢
        split at h
        · rename_i hy
          rw [if_pos hy]
          subst hy
          cases hx : numIn x with
          | none =>
            rw [hx] at h
            rcases hc with rfl | rfl
            · rw [S_num, wB_num] at h; cases h
            · rw [S_days, wB_days] at h; cases h
          | some v =>
            rw [hx] at h
            obtain ⟨ex, lx⟩ := numIn_back hx
            rcases hc with rfl | rfl
            · rw [S_num, wB_num] at h
              have h1 : 1 ≤ (v : Int) := by simpa [oN, spanB] using h
              exact ⟨.span false v none, ⟨.inr (by omega), lx, fun _ z => nomatch z⟩, rfl, by rw [S_num]; rfl, by rw [hb, ex]; rfl⟩
            · exact ⟨.span true v none, ⟨.inl rfl, lx, fun _ z => nomatch z⟩, rfl, by rw [S_days]; rfl, by rw [hb, ex]; rfl⟩
        · rename_i hy
          rw [if_neg hy]
          cases hv : numIn y with
          | none => rw [hv] at h; rw [wB_non] at h; cases h
          | some u =>
            rw [hv] at h
            obtain ⟨ey, ly⟩ := numIn_back hv
            dsimp only at h ⊢
            cases hx : numIn x with
            | none =>
              rw [hx] at h
              rcases hc with rfl | rfl
              · rw [S_num, wB_num] at h; cases h
              · rw [S_days, wB_days] at h; cases h
            | some v =>
              rw [hx] at h
              obtain ⟨ex, lx⟩ := numIn_back hx
              rcases hc with rfl | rfl
              · rw [S_num, wB_num] at h
                have h1 : 1 ≤ (v : Int) ∧ (v : Int) ≤ u := by simpa [oN, spanB] using h
                exact ⟨.span false v (some u), ⟨.inr (by omega), lx, fun n z => by cases z; omega⟩, rfl, by rw [S_num]; rfl, by rw [hb, ex, ey]; rfl⟩
              · rw [S_days, wB_days] at h
                have h1 : (v : Int) ≤ u := by simpa [oN] using h
                exact ⟨.span true v (some u), ⟨.inl rfl, lx, fun n z => by cases z; omega⟩, rfl, by rw [S_days]; rfl, by rw [hb, ex, ey]; rfl⟩
    · rename_i hc
      rw [if_neg hc]
      split at h
      · rename_i hc2
        rw [if_pos hc2]
        rcases hc2 with rfl | rfl
        · rw [S_buyer, wB_buyer] at h
          dsimp only at h
          rw [nameB_S] at h
          exact ⟨.buyer b, h, rfl, by rw [S_buyer]; rfl, rfl⟩
        · rw [S_all, wB_all] at h; cases h
      · rw [wB_non] at h; cases h
  | [a, b, c], h =>
    exfalso
    have e : plainP [a, b, c] = if a = cBuyer ∨ a = cAll then .tup [.str (S a), .str (S b), .str (S c)] else .non := rfl
    rw [e] at h
    split at h
    · rename_i hc
      rcases hc with rfl | rfl
      · rw [S_buyer, wB_buyer] at h; cases h
      · rw [S_all, wB_all] at h; cases h
    · rw [wB_non] at h; cases h
  | [a, b, c, d], h =>
    unfold plainP at h ⊢
    dsimp only at h ⊢
    split at h
    · rename_i hc
      rw [if_pos hc]
      rw [wB_spent] at h
      dsimp only at h
      rw [Bool.and_eq_true, Bool.and_eq_true, nameB_S] at h
      obtain ⟨h1, h2, h3⟩ := h
      cases hx : numIn c with
      | none => rw [hx] at h2; cases h2
      | some v =>
        cases hy : numIn d with
        | none => rw [hy] at h3; cases h3
        | some u =>
          rw [hx] at h2
          obtain ⟨ex, lx⟩ := numIn_back hx
          obtain ⟨ey, ly⟩ := numIn_back hy
          have h2' : (1 : Int) ≤ v := by simpa [oN, fromB] using h2
          exact ⟨.spent b v u, ⟨h1, by omega, lx, ly⟩, rfl, rfl, by rw [hc, ex, ey]; rfl⟩
    · rename_i hc
      exfalso
      split at h
      · rename_i hc2
        rcases hc2 with rfl | rfl
        · rw [S_buyer, wB_buyer] at h; cases h
        · rw [S_all, wB_all] at h; cases h
      · rw [wB_non] at h; cases h
  | a :: b :: c :: d :: e :: r, h =>
    exfalso
    have e : plainP (a :: b :: c :: d :: e :: r) = if a = cBuyer ∨ a = cAll then .tup (.str (S a) :: (b :: c :: d :: e :: r).map fun x => .str (S x)) else .non := rfl
    rw [e] at h
    split at h
    · rename_i hc
      rcases hc with rfl | rfl
      · rw [S_buyer, wB_buyer] at h; cases h
      · rw [S_all, wB_all] at h; cases h
    · rw [wB_non] at h; cases h
theorem nm_free {s : List Nat} (h : nmL s = true) {c : Nat} (hc : c < 97 ∨ 122 < c) : c ∉ s := fun hm => by
  unfold nmL at h
  rw [Bool.and_eq_true] at h
  have := List.all_eq_true.mp h.2 c hm
  rw [Bool.and_eq_true, decide_eq_true_eq, decide_eq_true_eq] at this
  omega
theorem oT_free {b : Option Nat} {c : Nat} (hc : c < 48 ∨ 57 < c) : c ∉ oT b := by
  cases b with
  | none => simp [oT]
  | some n => exact TL.numL_free hc
def Wr.plain : Wr → Bool
  | .neg _ => false
  | .two .. => false
  | _ => true
theorem spC_free (d : Bool) {c : Nat} (hc : c < 97 ∨ 122 < c) : c ∉ spC d := by
  cases d <;> simp [spC, cNum, cDays] <;> omega
theorem plain_fwd : ∀ {r : Wr}, r.ok → r.plain = true → plainIn r.t = r.w
  | .all, _, _ => by
    have e : words cAll = [cAll] := by decide +kernel
    show plainP (words cAll) = _
    rw [e]
    show (if cAll = cBuyer ∨ cAll = cAll then W.tup [.str (S cAll)] else .non) = _
    rw [if_pos (.inr rfl), S_all]
    rfl
  | .span d a b, h, _ => by
    have e : words (Wr.span d a b).t = [spC d, TL.joinL [45] [TL.numL a, oT b]] := TL.spl_join (by simp) fun p hp => by
      simp at hp
      rcases hp with rfl | rfl
      · exact spC_free d (by omega)
      · show 58 ∉ TL.numL a ++ ([45] ++ oT b)
        have := TL.numL_free (n := a) (s := 58) (by omega)
        have := oT_free (b := b) (c := 58) (by omega)
        simp [*]
    have e2 : TL.spl [45] 0 [] (TL.joinL [45] [TL.numL a, oT b]) = [TL.numL a, oT b] := TL.spl_join (by simp) fun p hp => by
      simp at hp
      rcases hp with rfl | rfl
      · exact TL.numL_free (by omega)
      · exact oT_free (by omega)
    unfold plainIn
    rw [e]
    have hc : spC d = cNum ∨ spC d = cDays := by cases d <;> simp [spC]
    have hs : S (spC d) = spW d := by cases d <;> decide +kernel
    unfold plainP
    dsimp only
    rw [if_pos hc, e2]
    dsimp only
    rw [numIn_num h.2.1, hs]
    cases b with
    | none => rw [show oT none = [] from rfl, if_pos rfl]; rfl
    | some n => rw [show oT (some n) = TL.numL n from rfl, if_neg (TL.numL_ne n), numIn_num (h.2.2 n rfl).2]; rfl
  | .buyer s, h, _ => by
    have e : words (Wr.buyer s).t = [cBuyer, s] := TL.spl_join (by simp) fun p hp => by
      simp at hp
      rcases hp with rfl | rfl
      · decide
      · exact nm_free h (by omega)
    unfold plainIn
    rw [e]
    unfold plainP
    dsimp only
    rw [if_neg (by decide), if_pos (.inl rfl), S_buyer]
    rfl
  | .spent s a b, h, _ => by
    have e : words (Wr.spent s a b).t = [cSpent, s, TL.numL a, TL.numL b] := TL.spl_join (by simp) fun p hp => by
      simp at hp
      rcases hp with rfl | rfl | rfl | rfl
      · decide
      · exact nm_free h.1 (by omega)
      · exact TL.numL_free (by omega)
      · exact TL.numL_free (by omega)
    unfold plainIn
    rw [e]
    unfold plainP
    dsimp only
    rw [if_pos rfl, numIn_num h.2.2.1, numIn_num h.2.2.2]
    rfl
  | .neg _, _, h => by cases h
  | .two .., _, h => by cases h
end P

-- LbTx3
/-! Wheres and their texts, plainly: the two readers read the same. -/
namespace P
open PySem Pf
open SX (S)
/-- the place of the sign between two wheres -/
def part : List Nat → Int → Nat → Option Nat
  | [], _, _ => none
  | c :: r, deep, at_ => if c = 40 then part r (deep + 1) (at_ + 1) else if c = 41 then part r (deep - 1) (at_ + 1) else if (c = 38 ∨ c = 124) ∧ deep = 1 then some at_ else part r deep (at_ + 1)
def pIn : Nat → List Nat → W
  | 0, _ => .non
  | n + 1, l =>
    if l.head? = some 33 then .tup [.str "not", pIn n l.tail]
    else if l.head? = some 40 then (match part l 0 0 with
      | none => .non
      | some i => if l.getLast? ≠ some 41 then .non else .tup [.str (if l[i]? = some 38 then "both" else "either"), pIn n ((l.take i).drop 1), pIn n ((l.drop (i + 1)).take (l.length - 1 - (i + 1)))])
    else plainIn l
def spc (c : Nat) : Bool := decide (c = 38) || (decide (c = 124) || (decide (c = 40) || (decide (c = 41) || decide (c = 33))))
def wordOf (s : List Nat) : Str := if s.head? = some 38 then "both" else if s.head? = some 124 then "either" else "none"
def bIn : Nat → List Nat → W × List Nat
  | 0, _ => (.non, [])
  | n + 1, l =>
    if l.head? = some 33 then (.tup [.str "not", (bIn n l.tail).1], (bIn n l.tail).2)
    else if l.head? = some 40 then
      (if (bIn n (bIn n l.tail).2.tail).2.head? = some 41 then (.tup [.str (wordOf (bIn n l.tail).2), (bIn n l.tail).1, (bIn n (bIn n l.tail).2.tail).1], (bIn n (bIn n l.tail).2.tail).2.tail) else (.non, []))
    else (plainIn (l.takeWhile fun c => !spc c), l.dropWhile fun c => !spc c)
theorem spc_f {c : Nat} (h : spc c = false) : c ≠ 38 ∧ c ≠ 124 ∧ c ≠ 40 ∧ c ≠ 41 ∧ c ≠ 33 := by
  unfold spc at h
  simpa using h
theorem numL_spc {n c : Nat} (h : c ∈ TL.numL n) : spc c = false := by
  have := TL.numL_digits n c h
  unfold spc
  simp
  omega
theorem oT_spc {b : Option Nat} {c : Nat} (h : c ∈ oT b) : spc c = false := by
  cases b with
  | none => cases h
  | some n => exact numL_spc h
theorem nm_spc {s : List Nat} {c : Nat} (h : nmL s = true) (hc : c ∈ s) : spc c = false := by
  unfold nmL at h
  rw [Bool.and_eq_true] at h
  have := List.all_eq_true.mp h.2 c hc
  rw [Bool.and_eq_true, decide_eq_true_eq, decide_eq_true_eq] at this
  unfold spc
  simp
  omega
theorem plain_spc {r : Wr} (h : r.ok) (hp : r.plain = true) : ∀ c ∈ r.t, spc c = false := by
  intro c hc
  cases r with
  | all => simp [Wr.t, cAll] at hc; rcases hc with rfl | rfl <;> rfl
  | span d a b =>
    have hc' : c ∈ spC d ++ ([58] ++ (TL.numL a ++ ([45] ++ oT b))) := hc
    simp at hc'
    rcases hc' with hc' | rfl | hc' | rfl | hc'
    · cases d <;> simp [spC, cNum, cDays] at hc' <;> rcases hc' with rfl | rfl | rfl | rfl | rfl | rfl | rfl <;> rfl
    · rfl
    · exact numL_spc hc'
    · rfl
    · exact oT_spc hc'
  | buyer s =>
    have hc' : c ∈ cBuyer ++ ([58] ++ s) := hc
    simp at hc'
    rcases hc' with hc' | rfl | hc'
    · simp [cBuyer] at hc'; rcases hc' with rfl | rfl | rfl | rfl | rfl <;> rfl
    · rfl
    · exact nm_spc h hc'
  | spent s a b =>
    have hc' : c ∈ cSpent ++ ([58] ++ (s ++ ([58] ++ (TL.numL a ++ ([58] ++ TL.numL b))))) := hc
    simp at hc'
    rcases hc' with hc' | rfl | hc' | rfl | hc' | rfl | hc'
    · simp [cSpent] at hc'; rcases hc' with rfl | rfl | rfl | rfl | rfl <;> rfl
    · rfl
    · exact nm_spc h.1 hc'
    · rfl
    · exact numL_spc hc'
    · rfl
    · exact numL_spc hc'
  | neg w => cases hp
  | two e x y => cases hp
theorem plain_ne {r : Wr} (hp : r.plain = true) : r.t ≠ [] := by
  cases r with
  | all => simp [Wr.t, cAll]
  | span d a b => cases d <;> simp [Wr.t, spC, cNum, cDays, TL.joinL]
  | buyer s => simp [Wr.t, cBuyer, TL.joinL]
  | spent s a b => simp [Wr.t, cSpent, TL.joinL]
  | neg w => cases hp
  | two e x y => cases hp
theorem d_pos : ∀ r : Wr, 1 ≤ r.d
  | .neg w => by show 1 ≤ w.d + 1; omega
  | .two _ x y => by show 1 ≤ max x.d y.d + 1; omega
  | .all => Nat.le_refl _
  | .span .. => Nat.le_refl _
  | .buyer _ => Nat.le_refl _
  | .spent .. => Nat.le_refl _
/-! ### the first reader -/
theorem part_skip : ∀ (p : List Nat) (rest : List Nat) (deep : Int) (i : Nat), (∀ c ∈ p, spc c = false ∨ c = 33) → part (p ++ rest) deep i = part rest deep (i + p.length)
  | [], rest, deep, i, _ => rfl
  | c :: p, rest, deep, i, h => by
    have hc : c ≠ 40 ∧ c ≠ 41 ∧ c ≠ 38 ∧ c ≠ 124 := by
      rcases h c List.mem_cons_self with h | rfl
      · have := spc_f h; omega
      · decide
    show (if c = 40 then _ else if c = 41 then _ else if (c = 38 ∨ c = 124) ∧ deep = 1 then _ else part (p ++ rest) deep (i + 1)) = _
    rw [if_neg hc.1, if_neg hc.2.1, if_neg (by omega), part_skip p rest deep (i + 1) fun x hx => h x (List.mem_cons_of_mem _ hx), List.length_cons]
    congr 1
    omega
theorem part_t : ∀ (r : Wr), r.ok → ∀ (rest : List Nat) (deep : Int) (i : Nat), 1 ≤ deep → part (r.t ++ rest) deep i = part rest deep (i + r.t.length)
  | .neg w, h, rest, deep, i, hd => by
    have e := part_skip [33] (w.t ++ rest) deep i (by simp)
    show part ([33] ++ (w.t ++ rest)) deep i = _
    rw [e, part_t w h rest deep _ hd]
    show part rest deep (i + 1 + w.t.length) = part rest deep (i + (w.t.length + 1))
    congr 1
    omega
  | .two e x y, h, rest, deep, i, hd => by
    show part (40 :: (x.t ++ twC e :: (y.t ++ [41])) ++ rest) deep i = _
    have e1 : 40 :: (x.t ++ twC e :: (y.t ++ [41])) ++ rest = 40 :: (x.t ++ (twC e :: (y.t ++ (41 :: rest)))) := by simp
    rw [e1]
    show part (x.t ++ (twC e :: (y.t ++ (41 :: rest)))) (deep + 1) (i + 1) = _
    rw [part_t x h.1 _ (deep + 1) _ (by omega)]
    have e2 : part (twC e :: (y.t ++ (41 :: rest))) (deep + 1) (i + 1 + x.t.length) = part (y.t ++ (41 :: rest)) (deep + 1) (i + 1 + x.t.length + 1) := by
      have : twC e ≠ 40 ∧ twC e ≠ 41 := by cases e <;> decide
      show (if twC e = 40 then _ else if twC e = 41 then _ else if (twC e = 38 ∨ twC e = 124) ∧ deep + 1 = 1 then _ else part (y.t ++ (41 :: rest)) (deep + 1) (i + 1 + x.t.length + 1)) = _
      rw [if_neg this.1, if_neg this.2, if_neg (by omega)]
    rw [e2, part_t y h.2 _ (deep + 1) _ (by omega)]
    show part rest (deep + 1 - 1) (i + 1 + x.t.length + 1 + y.t.length + 1) = part rest deep (i + (40 :: (x.t ++ twC e :: (y.t ++ [41]))).length)
    rw [Int.add_sub_cancel]
    congr 1
    simp
    omega
  | .all, h, rest, deep, i, hd => part_skip _ _ _ _ fun c hc => .inl (plain_spc h rfl c hc)
  | .span d a b, h, rest, deep, i, hd => part_skip _ _ _ _ fun c hc => .inl (plain_spc h rfl c hc)
  | .buyer s, h, rest, deep, i, hd => part_skip _ _ _ _ fun c hc => .inl (plain_spc h rfl c hc)
  | .spent s a b, h, rest, deep, i, hd => part_skip _ _ _ _ fun c hc => .inl (plain_spc h rfl c hc)
theorem plain_head {r : Wr} (h : r.ok) (hp : r.plain = true) (rest : List Nat) : (r.t ++ rest).head? ≠ some 33 ∧ (r.t ++ rest).head? ≠ some 40 := by
  cases e : r.t with
  | nil => exact absurd e (plain_ne hp)
  | cons c l =>
    have := spc_f (plain_spc h hp c (by rw [e]; exact List.mem_cons_self))
    simp
    omega
theorem pIn_plain {r : Wr} (h : r.ok) (hp : r.plain = true) (n : Nat) : pIn (n + 1) r.t = r.w := by
  have hh := plain_head h hp []
  rw [List.append_nil] at hh
  unfold pIn
  rw [if_neg hh.1, if_neg hh.2]
  exact plain_fwd h hp
theorem pIn_t : ∀ (r : Wr), r.ok → ∀ n, r.d ≤ n → pIn n r.t = r.w
  | .neg w, h, n, hd => by
    obtain ⟨n, rfl⟩ : ∃ m, n = m + 1 := ⟨n - 1, by have : w.d + 1 ≤ n := hd; omega⟩
    show (if (33 :: w.t).head? = some 33 then W.tup [.str "not", pIn n (33 :: w.t).tail] else _) = _
    rw [if_pos (show (33 :: w.t).head? = some 33 from rfl)]
    show W.tup [.str "not", pIn n w.t] = _
    rw [pIn_t w h n (Nat.le_of_succ_le_succ hd)]
    rfl
  | .two e x y, h, n, hd => by
    have hd' : max x.d y.d + 1 ≤ n := hd
    obtain ⟨n, rfl⟩ : ∃ m, n = m + 1 := ⟨n - 1, by omega⟩
    have e0 : (Wr.two e x y).t = 40 :: (x.t ++ twC e :: (y.t ++ [41])) := rfl
    have hp : part (Wr.two e x y).t 0 0 = some (1 + x.t.length) := by
      rw [e0]
      show part (x.t ++ (twC e :: (y.t ++ [41]))) (0 + 1) (0 + 1) = _
      rw [part_t x h.1 _ _ _ (by decide)]
      have : twC e ≠ 40 ∧ twC e ≠ 41 ∧ (twC e = 38 ∨ twC e = 124) := by cases e <;> decide
      show (if twC e = 40 then _ else if twC e = 41 then _ else if (twC e = 38 ∨ twC e = 124) ∧ (0 + 1 : Int) = 1 then some (0 + 1 + x.t.length) else _) = _
      rw [if_neg this.1, if_neg this.2.1, if_pos ⟨this.2.2, rfl⟩]
    unfold pIn
    rw [hp, if_neg (by rw [e0]; intro z; have : (40 : Nat) = 33 := Option.some.inj z; omega), if_pos (by rw [e0]; rfl)]
    have hl : (Wr.two e x y).t.getLast? = some 41 := by
      rw [e0]
      have : 40 :: (x.t ++ twC e :: (y.t ++ [41])) = (40 :: (x.t ++ twC e :: y.t)) ++ [41] := by simp
      rw [this, List.getLast?_append]
      rfl
    have e1 : ((Wr.two e x y).t.take (1 + x.t.length)).drop 1 = x.t := by
      rw [e0, Nat.add_comm, List.take_succ_cons, List.drop_succ_cons, List.drop_zero, List.take_left]
    have e2 : (Wr.two e x y).t.drop (1 + x.t.length + 1) = y.t ++ [41] := by
      rw [e0, show 1 + x.t.length + 1 = (x.t.length + 1) + 1 by omega, List.drop_succ_cons, show x.t ++ twC e :: (y.t ++ [41]) = (x.t ++ [twC e]) ++ (y.t ++ [41]) by simp, List.drop_left' (by simp)]
    have e3 : (Wr.two e x y).t.length - 1 - (1 + x.t.length + 1) = y.t.length := by rw [e0]; simp; omega
    have e4 : (Wr.two e x y).t[1 + x.t.length]? = some (twC e) := by
      rw [e0, Nat.add_comm, List.getElem?_cons_succ, List.getElem?_append_right (Nat.le_refl _), Nat.sub_self]
      rfl
    dsimp only
    rw [if_neg (by rw [hl]; exact fun z => z rfl), e1, e2, e3, e4, List.take_left, pIn_t x h.1 n (by omega), pIn_t y h.2 n (by omega)]
    cases e <;> rfl
  | .all, h, n, hd => by
    obtain ⟨n, rfl⟩ : ∃ m, n = m + 1 := ⟨n - 1, by have : 1 ≤ n := hd; omega⟩
    exact pIn_plain h rfl n
  | .span d a b, h, n, hd => by
    obtain ⟨n, rfl⟩ : ∃ m, n = m + 1 := ⟨n - 1, by have : 1 ≤ n := hd; omega⟩
    exact pIn_plain h rfl n
  | .buyer s, h, n, hd => by
    obtain ⟨n, rfl⟩ : ∃ m, n = m + 1 := ⟨n - 1, by have : 1 ≤ n := hd; omega⟩
    exact pIn_plain h rfl n
  | .spent s a b, h, n, hd => by
    obtain ⟨n, rfl⟩ : ∃ m, n = m + 1 := ⟨n - 1, by have : 1 ≤ n := hd; omega⟩
    exact pIn_plain h rfl n
theorem part_at : ∀ (l : List Nat) (deep : Int) (i j : Nat), part l deep i = some j → i ≤ j ∧ (l[j - i]? = some 38 ∨ l[j - i]? = some 124)
  | [], _, _, _, h => by cases h
  | c :: r, deep, i, j, h => by
    have h' : (if c = 40 then part r (deep + 1) (i + 1) else if c = 41 then part r (deep - 1) (i + 1) else if (c = 38 ∨ c = 124) ∧ deep = 1 then some i else part r deep (i + 1)) = some j := h
    have step : ∀ d, part r d (i + 1) = some j → i ≤ j ∧ ((c :: r)[j - i]? = some 38 ∨ (c :: r)[j - i]? = some 124) := fun d hd => by
      obtain ⟨h1, h2⟩ := part_at r d (i + 1) j hd
      refine ⟨by omega, ?_⟩
      rw [show j - i = (j - (i + 1)) + 1 by omega, List.getElem?_cons_succ]
      exact h2
    split at h'
    · exact step _ h'
    · split at h'
      · exact step _ h'
      · split at h'
        · rename_i hc
          cases h'
          refine ⟨Nat.le_refl _, ?_⟩
          rw [Nat.sub_self]
          rcases hc.1 with rfl | rfl
          · exact .inl rfl
          · exact .inr rfl
        · exact step _ h'
theorem pIn_inv : ∀ (n : Nat) (l : List Nat), whereB n (pIn n l) = true → ∃ r : Wr, r.ok ∧ r.d ≤ n ∧ pIn n l = r.w ∧ l = r.t
  | 0, l, h => by cases h
  | n + 1, l, h => by
    unfold pIn at h ⊢
    by_cases h1 : l.head? = some 33
    · rw [if_pos h1] at h ⊢
      rw [wB_not] at h
      obtain ⟨r, k1, k2, k3, k4⟩ := pIn_inv n l.tail h
      refine ⟨.neg r, k1, Nat.succ_le_succ k2, by rw [k3]; rfl, ?_⟩
      cases l with
      | nil => cases h1
      | cons c t =>
        cases h1
        exact congrArg (33 :: ·) k4
    rw [if_neg h1] at h ⊢
    by_cases h2 : l.head? = some 40
    · rw [if_pos h2] at h ⊢
      cases hp : part l 0 0 with
      | none => rw [hp] at h; rw [wB_non] at h; cases h
      | some i =>
        rw [hp] at h
        dsimp only at h ⊢
        by_cases h3 : l.getLast? = some 41
        · rw [if_neg (fun z => z h3)] at h ⊢
          obtain ⟨_, hc⟩ := part_at l 0 0 i hp
          rw [Nat.sub_zero] at hc
          have core : ∀ (e : Bool), l[i]? = some (twC e) → whereB n (pIn n ((l.take i).drop 1)) = true → whereB n (pIn n ((l.drop (i + 1)).take (l.length - 1 - (i + 1)))) = true →
              ∃ x y : Wr, (x.ok ∧ y.ok) ∧ max x.d y.d + 1 ≤ n + 1 ∧ pIn n ((l.take i).drop 1) = x.w ∧ pIn n ((l.drop (i + 1)).take (l.length - 1 - (i + 1))) = y.w ∧ l = 40 :: (x.t ++ twC e :: (y.t ++ [41])) := fun e he q1 q2 => by
            obtain ⟨x, x1, x2, x3, x4⟩ := pIn_inv n _ q1
            obtain ⟨y, y1, y2, y3, y4⟩ := pIn_inv n _ q2
            refine ⟨x, y, ⟨x1, y1⟩, by omega, x3, y3, ?_⟩
            obtain ⟨hi, hi2⟩ := List.getElem?_eq_some_iff.mp he
            have hne : twC e ≠ 40 ∧ twC e ≠ 41 := by cases e <;> decide
            have d1 : l = l.take i ++ twC e :: l.drop (i + 1) := by
              rw [← hi2, ← List.drop_eq_getElem_cons hi, List.take_append_drop]
            have d2 : l.take i = 40 :: x.t := by
              cases l with
              | nil => cases h2
              | cons c t =>
                cases h2
                cases i with
                | zero =>
                  have : (40 : Nat) = twC e := Option.some.inj he
                  exact absurd this.symm hne.1
                | succ i => rw [← x4, List.take_succ_cons, List.drop_succ_cons, List.drop_zero]
            have d3 : l.drop (i + 1) = y.t ++ [41] := by
              have hne2 : l.drop (i + 1) ≠ [] := fun z => by
                rw [z] at d1
                rw [d1, List.getLast?_append] at h3
                have : twC e = 41 := Option.some.inj h3
                exact hne.2 this
              have hlast : (l.drop (i + 1)).getLast? = some 41 := by
                rw [d1, List.getLast?_append, List.getLast?_cons] at h3
                cases q : (l.drop (i + 1)).getLast? with
                | none => exact absurd (List.getLast?_eq_none_iff.mp q) hne2
                | some z =>
                  rw [q] at h3
                  exact h3
              have hlen : (l.drop (i + 1)).length = l.length - (i + 1) := List.length_drop
              have hpos : 0 < (l.drop (i + 1)).length := List.length_pos_iff.mpr hne2
              rw [show l.length - 1 - (i + 1) = (l.drop (i + 1)).length - 1 by omega, ← List.dropLast_eq_take] at y4
              rw [← y4]
              obtain ⟨ys, hys⟩ := List.getLast?_eq_some_iff.mp hlast
              rw [hys, List.dropLast_concat]
            rw [d2, d3] at d1
            exact d1
          rcases hc with hc | hc
          · rw [if_pos hc] at h ⊢
            rw [wB_both, Bool.and_eq_true] at h
            obtain ⟨x, y, k1, k2, k3, k4, k5⟩ := core false hc h.1 h.2
            exact ⟨.two false x y, k1, k2, by rw [k3, k4]; rfl, k5⟩
          · rw [if_neg (by rw [hc]; decide)] at h ⊢
            rw [wB_either, Bool.and_eq_true] at h
            obtain ⟨x, y, k1, k2, k3, k4, k5⟩ := core true hc h.1 h.2
            exact ⟨.two true x y, k1, k2, by rw [k3, k4]; rfl, k5⟩
        · rw [if_pos h3] at h
          rw [wB_non] at h
          cases h
    · rw [if_neg h2] at h ⊢
      obtain ⟨r, k1, k2, k3, k4⟩ := plain_inv h
      exact ⟨r, k1, by omega, k3, k4⟩
/-! ### the second reader -/
theorem takeW (p rest : List Nat) (h : ∀ c ∈ p, spc c = false) (hr : ∀ c, rest.head? = some c → spc c = true) : (p ++ rest).takeWhile (fun c => !spc c) = p ∧ (p ++ rest).dropWhile (fun c => !spc c) = rest := by
  induction p with
  | nil =>
    cases rest with
    | nil => exact ⟨rfl, rfl⟩
    | cons c r =>
      have := hr c rfl
      rw [List.nil_append, List.takeWhile_cons, List.dropWhile_cons, this]
      exact ⟨rfl, rfl⟩
  | cons c p ih =>
    have hc := h c List.mem_cons_self
    obtain ⟨i1, i2⟩ := ih fun x hx => h x (List.mem_cons_of_mem _ hx)
    rw [List.cons_append, List.takeWhile_cons, List.dropWhile_cons, hc]
    exact ⟨by show c :: _ = _; rw [i1], i2⟩
theorem bIn_plain {r : Wr} (h : r.ok) (hp : r.plain = true) (n : Nat) {rest : List Nat} (hr : ∀ c, rest.head? = some c → spc c = true) : bIn (n + 1) (r.t ++ rest) = (r.w, rest) := by
  have hh := plain_head h hp rest
  obtain ⟨t1, t2⟩ := takeW r.t rest (plain_spc h hp) hr
  unfold bIn
  rw [if_neg hh.1, if_neg hh.2, t1, t2, plain_fwd h hp]
theorem bIn_t : ∀ (r : Wr), r.ok → ∀ n, r.d ≤ n → ∀ rest : List Nat, (∀ c, rest.head? = some c → spc c = true) → bIn n (r.t ++ rest) = (r.w, rest)
  | .neg w, h, n, hd, rest, hr => by
    obtain ⟨n, rfl⟩ : ∃ m, n = m + 1 := ⟨n - 1, by have : w.d + 1 ≤ n := hd; omega⟩
    have ih := bIn_t w h n (Nat.le_of_succ_le_succ hd) rest hr
    unfold bIn
    rw [if_pos (show ((Wr.neg w).t ++ rest).head? = some 33 from rfl), show ((Wr.neg w).t ++ rest).tail = w.t ++ rest from rfl, ih]
    rfl
  | .two e x y, h, n, hd, rest, hr => by
    have hd' : max x.d y.d + 1 ≤ n := hd
    obtain ⟨n, rfl⟩ : ∃ m, n = m + 1 := ⟨n - 1, by omega⟩
    have e0 : (Wr.two e x y).t ++ rest = 40 :: (x.t ++ twC e :: (y.t ++ 41 :: rest)) := by
      show 40 :: (x.t ++ twC e :: (y.t ++ [41])) ++ rest = _
      simp
    have i1 := bIn_t x h.1 n (by omega) (twC e :: (y.t ++ 41 :: rest)) (fun c hc => by
      have : twC e = c := Option.some.inj hc
      subst this
      cases e <;> rfl)
    have i2 := bIn_t y h.2 n (by omega) (41 :: rest) (fun c hc => by
      have : 41 = c := Option.some.inj hc
      subst this
      rfl)
    unfold bIn
    rw [e0, if_neg (by intro z; have : (40 : Nat) = 33 := Option.some.inj z; omega), if_pos (show (40 :: (x.t ++ twC e :: (y.t ++ 41 :: rest))).head? = some 40 from rfl)]
    show (if (bIn n (bIn n (x.t ++ twC e :: (y.t ++ 41 :: rest))).2.tail).2.head? = some 41 then (W.tup [.str (wordOf (bIn n (x.t ++ twC e :: (y.t ++ 41 :: rest))).2), (bIn n (x.t ++ twC e :: (y.t ++ 41 :: rest))).1, (bIn n (bIn n (x.t ++ twC e :: (y.t ++ 41 :: rest))).2.tail).1], (bIn n (bIn n (x.t ++ twC e :: (y.t ++ 41 :: rest))).2.tail).2.tail) else (.non, [])) = _
    rw [i1]
    show (if (bIn n (y.t ++ 41 :: rest)).2.head? = some 41 then (W.tup [.str (wordOf (twC e :: (y.t ++ 41 :: rest))), x.w, (bIn n (y.t ++ 41 :: rest)).1], (bIn n (y.t ++ 41 :: rest)).2.tail) else (.non, [])) = _
    rw [i2, if_pos (show (41 :: rest).head? = some 41 from rfl)]
    cases e <;> rfl
  | .all, h, n, hd, rest, hr => by
    obtain ⟨n, rfl⟩ : ∃ m, n = m + 1 := ⟨n - 1, by have : 1 ≤ n := hd; omega⟩
    exact bIn_plain h rfl n hr
  | .span d a b, h, n, hd, rest, hr => by
    obtain ⟨n, rfl⟩ : ∃ m, n = m + 1 := ⟨n - 1, by have : 1 ≤ n := hd; omega⟩
    exact bIn_plain h rfl n hr
  | .buyer s, h, n, hd, rest, hr => by
    obtain ⟨n, rfl⟩ : ∃ m, n = m + 1 := ⟨n - 1, by have : 1 ≤ n := hd; omega⟩
    exact bIn_plain h rfl n hr
  | .spent s a b, h, n, hd, rest, hr => by
    obtain ⟨n, rfl⟩ : ∃ m, n = m + 1 := ⟨n - 1, by have : 1 ≤ n := hd; omega⟩
    exact bIn_plain h rfl n hr
theorem headTail {l : List Nat} {c : Nat} (h : l.head? = some c) : l = c :: l.tail := by
  cases l with
  | nil => cases h
  | cons a t => cases h; rfl
theorem bIn_inv : ∀ (n m : Nat) (l : List Nat), whereB m (bIn n l).1 = true → ∃ r : Wr, r.ok ∧ r.d ≤ m ∧ (bIn n l).1 = r.w ∧ l = r.t ++ (bIn n l).2
  | 0, m, l, h => by
    have : whereB m .non = true := h
    rw [wB_non] at this
    cases this
  | n + 1, 0, l, h => by cases h
  | n + 1, m + 1, l, h => by
    unfold bIn at h ⊢
    by_cases h1 : l.head? = some 33
    · rw [if_pos h1] at h ⊢
      rw [show whereB (m + 1) (W.tup [.str "not", (bIn n l.tail).1]) = _ from wB_not _ _] at h
      obtain ⟨r, k1, k2, k3, k4⟩ := bIn_inv n m l.tail h
      refine ⟨.neg r, k1, Nat.succ_le_succ k2, by rw [k3]; rfl, ?_⟩
      show l = 33 :: (r.t ++ (bIn n l.tail).2)
      rw [← k4]
      exact headTail h1
    rw [if_neg h1] at h ⊢
    by_cases h2 : l.head? = some 40
    · rw [if_pos h2] at h ⊢
      by_cases h3 : (bIn n (bIn n l.tail).2.tail).2.head? = some 41
      · rw [if_pos h3] at h ⊢
        have core : ∀ (e : Bool), (bIn n l.tail).2.head? = some (twC e) → whereB m (bIn n l.tail).1 = true → whereB m (bIn n (bIn n l.tail).2.tail).1 = true →
            ∃ x y : Wr, (x.ok ∧ y.ok) ∧ max x.d y.d + 1 ≤ m + 1 ∧ (bIn n l.tail).1 = x.w ∧ (bIn n (bIn n l.tail).2.tail).1 = y.w ∧ l = (Wr.two e x y).t ++ (bIn n (bIn n l.tail).2.tail).2.tail := fun e he q1 q2 => by
          obtain ⟨x, x1, x2, x3, x4⟩ := bIn_inv n m _ q1
          obtain ⟨y, y1, y2, y3, y4⟩ := bIn_inv n m _ q2
          refine ⟨x, y, ⟨x1, y1⟩, by omega, x3, y3, ?_⟩
          have z1 := headTail h2
          have z2 := headTail he
          have z3 := headTail h3
          show l = 40 :: (x.t ++ twC e :: (y.t ++ [41])) ++ (bIn n (bIn n l.tail).2.tail).2.tail
          have e1 : 40 :: (x.t ++ twC e :: (y.t ++ [41])) ++ (bIn n (bIn n l.tail).2.tail).2.tail = 40 :: (x.t ++ twC e :: (y.t ++ 41 :: (bIn n (bIn n l.tail).2.tail).2.tail)) := by simp
          rw [e1, ← z3, ← y4, ← z2, ← x4]
          exact z1
        unfold wordOf at h ⊢
        by_cases c1 : (bIn n l.tail).2.head? = some 38
        · rw [if_pos c1] at h ⊢
          rw [show whereB (m + 1) (W.tup [.str "both", (bIn n l.tail).1, (bIn n (bIn n l.tail).2.tail).1]) = _ from wB_both _ _ _, Bool.and_eq_true] at h
          obtain ⟨x, y, k1, k2, k3, k4, k5⟩ := core false c1 h.1 h.2
          exact ⟨.two false x y, k1, k2, by show W.tup _ = _; rw [k3, k4]; rfl, k5⟩
        · rw [if_neg c1] at h ⊢
          by_cases c2 : (bIn n l.tail).2.head? = some 124
          · rw [if_pos c2] at h ⊢
            rw [show whereB (m + 1) (W.tup [.str "either", (bIn n l.tail).1, (bIn n (bIn n l.tail).2.tail).1]) = _ from wB_either _ _ _, Bool.and_eq_true] at h
            obtain ⟨x, y, k1, k2, k3, k4, k5⟩ := core true c2 h.1 h.2
            exact ⟨.two true x y, k1, k2, by show W.tup _ = _; rw [k3, k4]; rfl, k5⟩
          · rw [if_neg c2] at h
            rw [show whereB (m + 1) (W.tup [.str "none", (bIn n l.tail).1, (bIn n (bIn n l.tail).2.tail).1]) = _ from wB_none _ _] at h
            cases h
      · rw [if_neg h3] at h
        rw [show whereB (m + 1) (W.non) = _ from wB_non _] at h
        cases h
    · rw [if_neg h2] at h ⊢
      obtain ⟨r, k1, k2, k3, k4⟩ := plain_inv (n := m) h
      refine ⟨r, k1, by omega, k3, ?_⟩
      show l = r.t ++ l.dropWhile (fun c => !spc c)
      rw [← k4, List.takeWhile_append_dropWhile]
/-- what a text writes -/
inductive Reads (l : List Nat) : Option Wr → Prop
  | some {r : Wr} : r.ok → r.d ≤ 6 → l = r.t → Reads l (some r)
  | none : (∀ r : Wr, r.ok → r.d ≤ 6 → l ≠ r.t) → Reads l none
theorem reads (l : List Nat) : ∃ o, Reads l o := by
  by_cases h : ∃ r : Wr, r.ok ∧ r.d ≤ 6 ∧ l = r.t
  · obtain ⟨r, h1, h2, h3⟩ := h
    exact ⟨some r, .some h1 h2 h3⟩
  · exact ⟨none, .none fun r h1 h2 h3 => h ⟨r, h1, h2, h3⟩⟩
theorem w_valid : ∀ (r : Wr), r.ok → ∀ n, r.d ≤ n → whereB n r.w = true
  | .neg w, h, n, hd => by
    obtain ⟨n, rfl⟩ : ∃ m, n = m + 1 := ⟨n - 1, by have : w.d + 1 ≤ n := hd; omega⟩
    exact (wB_not n w.w).trans (w_valid w h n (Nat.le_of_succ_le_succ hd))
  | .two e x y, h, n, hd => by
    have hd' : max x.d y.d + 1 ≤ n := hd
    obtain ⟨n, rfl⟩ : ∃ m, n = m + 1 := ⟨n - 1, by omega⟩
    have i1 := w_valid x h.1 n (by omega)
    have i2 := w_valid y h.2 n (by omega)
    cases e with
    | false => exact (wB_both n x.w y.w).trans (by rw [i1, i2]; rfl)
    | true => exact (wB_either n x.w y.w).trans (by rw [i1, i2]; rfl)
  | .all, h, n, hd => by
    obtain ⟨n, rfl⟩ : ∃ m, n = m + 1 := ⟨n - 1, by have : 1 ≤ n := hd; omega⟩
    exact wB_all n []
  | .span d a b, h, n, hd => by
    obtain ⟨n, rfl⟩ : ∃ m, n = m + 1 := ⟨n - 1, by have : 1 ≤ n := hd; omega⟩
    cases d with
    | false =>
      refine (wB_num n _).trans ?_
      have h1 : 1 ≤ a := by rcases h.1 with z | z; cases z; exact z
      cases b with
      | none => simp [oN, spanB]; omega
      | some b =>
        have := h.2.2 b rfl
        simp [oN, spanB]
        omega
    | true =>
      refine (wB_days n _).trans ?_
      cases b with
      | none => simp [oN]
      | some b =>
        have := h.2.2 b rfl
        simp [oN]
        omega
  | .buyer s, h, n, hd => by
    obtain ⟨n, rfl⟩ : ∃ m, n = m + 1 := ⟨n - 1, by have : 1 ≤ n := hd; omega⟩
    exact (wB_buyer n _).trans ((nameB_S s).trans h)
  | .spent s a b, h, n, hd => by
    obtain ⟨n, rfl⟩ : ∃ m, n = m + 1 := ⟨n - 1, by have : 1 ≤ n := hd; omega⟩
    refine (wB_spent n _).trans ?_
    have h1 := h.1
    have h2 := h.2.1
    show (nameB (.str (S s)) && (fromB (.int (a : Nat)) 1 && fromB (.int (b : Nat)) 0)) = true
    rw [nameB_S, h1]
    simp [fromB]
    omega
/-- both readers agree with it -/
theorem reads_p {l : List Nat} {o : Option Wr} (h : Reads l o) : (match o with | some r => pIn 6 l = r.w ∧ whereB 6 (pIn 6 l) = true | none => whereB 6 (pIn 6 l) = false) := by
  cases h with
  | some h1 h2 h3 =>
    rename_i r
    have e := pIn_t r h1 6 h2
    rw [← h3] at e
    exact ⟨e, by rw [e]; exact w_valid r h1 6 h2⟩
  | none hn =>
    show whereB 6 (pIn 6 l) = false
    cases q : whereB 6 (pIn 6 l) with
    | false => rfl
    | true =>
      obtain ⟨r, k1, k2, k3, k4⟩ := pIn_inv 6 l q
      exact absurd k4 (hn r k1 k2)
theorem reads_b {l : List Nat} {o : Option Wr} (h : Reads l o) {n : Nat} (hn : 6 ≤ n) : (match o with | some r => bIn n l = (r.w, []) | none => (bIn n l).2 = [] → whereB 6 (bIn n l).1 = false) := by
  cases h with
  | some h1 h2 h3 =>
    rename_i r
    have e := bIn_t r h1 n (by omega) [] (fun c z => by cases z)
    rw [List.append_nil, ← h3] at e
    exact e
  | none hn =>
    intro he
    cases q : whereB 6 (bIn n l).1 with
    | false => rfl
    | true =>
      obtain ⟨r, k1, k2, k3, k4⟩ := bIn_inv n 6 l q
      rw [he, List.append_nil] at k4
      exact absurd k4 (hn r k1 k2)
end P

-- LbWhereLaw
namespace P
open PySem Pf
structure LIsH (C : Nat → Orc) : Prop where
  whole : H__law_whole C
  from_ : H__law_from C
  name : H__law_is_name C
  tuple : H__law_is_tuple C
  span : H__law_is_span C
  where_ : H__law_is_where C
theorem isEq_l0d {xs : List W} (h : W.datL xs = true) : W.isEq (.lst xs) (.lst []) = some xs.isEmpty := by
  rw [isEq_any (show (W.lst xs).dat = true from h) (by decide) (by decide)]
  show some (W.eqvL xs []) = _
  rw [eqvL_nil]
theorem isEq_nld {x : W} (hx : x.dat = true) (hn : ∀ s, x ≠ .str s) (t : String) : W.isEq x (.str (Str.ofString t)) = some false := by
  rw [isEq_any hx (by show PyData.strOk _ = true; rw [lit_ok]) (Nat.zero_le _)]
  cases x <;> first | rfl | exact absurd rfl (hn _)
theorem isEq_all {x : W} {r : List W} (h : (W.tup (x :: r)).dat = true) : W.isEq (.tup (x :: r)) (.tup [.str "all"]) = some (W.eqv x (.str "all") && r.isEmpty) := by
  rw [isEq_any h (by decide +kernel) (by decide)]
  show some (W.eqv x (.str "all") && W.eqvL r []) = _
  rw [eqvL_nil]
theorem shp_lst {b m : Nat} {ws : List W} (h : ∀ w ∈ ws, Ok b m w) (hm : m ≤ 63) : (W.lst ws).shp = true := by
  unfold W.shp
  rw [Bool.and_eq_true, decide_eq_true_eq]
  refine ⟨datL_of fun w hw => (h w hw).dat.1, ?_⟩
  have : W.depthL ws ≤ m := depL_of fun w hw => (h w hw).dat.2
  show W.depthL ws + 1 ≤ 64
  omega
theorem law_where {C : Nat → Orc} (h : LIsH C) {b : Nat} (hb : b ≤ 10000000) : ∀ (n k m : Nat) {w : W}, Ok b m w → C (k + n + 5) "_law_is_where" [.d w, .d (.int n)] = .ret (.d (.bl (whereB n w))) [.d w, .d (.int n)] := by
  intro n
  induction n with
  | zero =>
    intro k m w ok
    rw [show k + 0 + 5 = (k + 4) + 1 by omega, h.where_]
    unfold b__law_is_where
    cases w with
    | tup ws => cases ws <;> simp [whereB]
    | _ => first | (have := ok.dat.1; simp [W.dat] at this; done) | simp [whereB]
  | succ n ih =>
    intro k m w ok
    rw [show k + (n + 1) + 5 = (k + n + 5) + 1 by omega, h.where_]
    unfold b__law_is_where
    have hsh := ok.dat.1
    cases w with
    | tup ws =>
      obtain ⟨m, rfl⟩ : ∃ j, m = j + 1 := ⟨m - 1, by cases m <;> first | (simp [Ok] at ok; done) | omega⟩
      have okw := ok.2
      have hlen := ok.1
      cases ws with
      | nil => simp [whereB]
      | cons x r =>
        have okx := okw x (by simp)
        have dx := okx.dat.1
        have hn0 : ¬ ((n : Int) + 1 = 0) := by omega
        have hl0 : ¬ ((r.length : Int) + 1 = 0) := by omega
        have hall := isEq_all hsh
        have hin0 := isIn_td (x := x) (ws := [.str "not", .str "both", .str "either"]) okx.dat.1 (by decide +kernel)
        by_cases hx : ∃ s, x = .str s
        · obtain ⟨s, rfl⟩ := hx
          have hs : PyData.strOk s = true := dx
          have e := isEq_sl hs
          have hn1 : ((n : Int) + 1 - 1) = n := by omega
          have hin := hin0
          simp only [List.any_cons, List.any_nil, eqv_ls, Bool.or_false] at hin
          have hall2 : W.eqv (.str s) (.str "all") = decide (s = Str.ofString "all") := by
            show (s == Str.ofString "all") = _
            rw [Bool.eq_iff_iff]
            simp
          rw [hall2] at hall
          have hc : cutL (W.str s :: r) (some 1) none = r := by rw [cut_from (by decide)]; rfl
          by_cases h0 : s = ("not" : Str) ∨ s = ("both" : Str) ∨ s = ("either" : Str)
          · have h0' : (decide (s = Str.ofString "not") || (decide (s = Str.ofString "both") || decide (s = Str.ofString "either"))) = true := by simpa using h0
            rw [h0'] at hin
            have loop : l1__law_is_where (C (k + n + 5)) [.d (.tup (.str s :: r)), .d (.int ((n : Int) + 1)), .d (.str s), .e] = .ok (.o (.lst ((r.filter fun a => !whereB n a).map id))) (restore [.d (.tup (.str s :: r)), .d (.int ((n : Int) + 1)), .d (.str s), .e] (clear [.d (.tup (.str s :: r)), .d (.int ((n : Int) + 1)), .d (.str s), .e] [3]) [3]) := by
              refine lc_filter (ρ1 := [.d (.tup (.str s :: r)), .d (.int ((n : Int) + 1)), .d (.str s), .e]) (g := id) ?_ rfl ?_ ?_
              · simp [hc]
              · simp at hlen; unfold sizeLine; omega
              · intro a ha
                have := ih k m (okw a (List.mem_cons_of_mem _ ha))
                refine ⟨[.d (.tup (.str s :: r)), .d (.int ((n : Int) + 1)), .d (.str s), .d a], ?_, fun _ => ⟨[.d (.tup (.str s :: r)), .d (.int ((n : Int) + 1)), .d (.str s), .d a], ?_, rfl⟩, fun _ => rfl⟩
                · simp [clear, hn1, this]
                · simp
            rw [List.map_id] at loop
            have hq := isEq_l0d (xs := r.filter fun a => !whereB n a) (datL_of fun a ha => (okw a (List.mem_cons_of_mem _ (List.mem_filter.mp ha).1)).dat.1)
            have hr : (r.filter fun a => !whereB n a).isEmpty = r.all (whereB n) := by
              rw [Bool.eq_iff_iff, List.isEmpty_iff, List.filter_eq_nil_iff, List.all_eq_true]
              simp
            rw [hr] at hq
            generalize (r.filter fun a => !whereB n a) = fl at loop hq
            by_cases h1 : s = ("not" : Str)
            · subst h1
              have hx2 : ixOf 2 1 = some 1 := rfl
              match r, hl0, loop, hq with
              | [], _, _, _ => simp [sz, hin, e, hn0, hx2, whereB]
              | [a], _, loop, hq =>
                simp at loop hq
                simp [sz, hin, e, hn0, hx2, loop, hq, restore, clear, whereB]
              | a :: c :: r, hl0, _, _ =>
                have t1 : ¬ ((r.length : Int) + 1 + 1 + 1 = 2) := by omega
                have t2 : ¬ ((r.length : Int) + 1 + 1 + 1 = 0) := by omega
                simp [sz, hin, e, hn0, hx2, t1, t2, whereB]
            · have h2 : s = ("both" : Str) ∨ s = ("either" : Str) := by simpa [h1] using h0
              match r, hl0, loop, hq with
              | [], _, _, _ => simp [sz, hin, e, h1, h2, hn0, whereB]
              | [a], _, _, _ => simp [sz, hin, e, h1, h2, hn0, whereB]
              | [a, c], _, loop, hq =>
                simp at loop hq
                simp [sz, hin, e, h1, h2, hn0, loop, hq, restore, clear, whereB]
              | a :: c :: d :: r, hl0, _, _ =>
                have t1 : ¬ ((r.length : Int) + 1 + 1 + 1 + 1 = 3) := by omega
                have t2 : ¬ ((r.length : Int) + 1 + 1 + 1 + 1 = 0) := by omega
                simp [sz, hin, e, h1, h2, hn0, t1, t2, whereB]
          · have h0' : (decide (s = Str.ofString "not") || (decide (s = Str.ofString "both") || decide (s = Str.ofString "either"))) = false := by simpa using h0
            rw [h0'] at hin
            have hn : ¬ s = ("not" : Str) := fun z => h0 (.inl z)
            have hbe : ¬ (s = ("both" : Str) ∨ s = ("either" : Str)) := fun z => h0 (.inr z)
            have hwb : whereB (n + 1) (.tup (.str s :: r)) = plainB s r := by simp [whereB, hn, hbe]
            rw [hwb]
            have hr : ∀ w ∈ r, Dt w := fun w hw => (okw w (List.mem_cons_of_mem _ hw)).dt
            by_cases h3 : s = ("days" : Str)
            · subst h3
              match r, hr, hl0 with
              | [], _, _ => simp [sz, hin, hn0, e, plainB]
              | [a], _, _ => simp [sz, hin, hn0, e, plainB]
              | a :: b :: c :: r, _, hl0 =>
                have t1 : ¬ ((r.length : Int) + 1 + 1 + 1 + 1 = 3) := by omega
                have t2 : ¬ ((r.length : Int) + 1 + 1 + 1 + 1 = 0) := by omega
                simp [sz, hin, hn0, e, plainB, t1, t2]
              | [a, y], hr, _ =>
                have da := (hr a (by simp)).1
                have dy := (hr y (by simp)).1
                have j1 : ixOf 3 1 = some 1 := rfl
                have j2 : ixOf 3 2 = some 2 := rfl
                cases a with
                | int a =>
                  by_cases ha : 0 ≤ a
                  · cases y <;> first | (simp [W.dat] at dy; done) | simp [sz, hin, hn0, e, plainB, P.from_ h.whole h.from_ (k + n + 3) da, P.from_ h.whole h.from_ (k + n + 3) dy, fromB, ha, k2__law_is_where, j1, j2]
                  · cases y <;> simp [sz, hin, hn0, e, plainB, P.from_ h.whole h.from_ (k + n + 3) da, fromB, ha, j1, j2]
                | _ => first | (simp [W.dat] at da; done) | simp [sz, hin, hn0, e, plainB, P.from_ h.whole h.from_ (k + n + 3) da, fromB, j1, j2]
            by_cases h5 : s = ("spent" : Str)
            · subst h5
              match r, hr, hl0 with
              | [], _, _ => simp [sz, hin, hn0, e, plainB]
              | [a], _, _ => simp [sz, hin, hn0, e, plainB]
              | [a, b], _, _ => simp [sz, hin, hn0, e, plainB]
              | [z, a, b], hr, _ =>
                have dn := hr z (by simp)
                have da := (hr a (by simp)).1
                have db := (hr b (by simp)).1
                have j1 : ixOf 4 1 = some 1 := rfl
                have j2 : ixOf 4 2 = some 2 := rfl
                have j3 : ixOf 4 3 = some 3 := rfl
                cases hn : nameB z <;> cases ha : fromB a 1 <;> simp [sz, hin, hn0, e, plainB, law_name h.name _ dn.1 dn.2, P.from_ h.whole h.from_ _ da, P.from_ h.whole h.from_ _ db, hn, ha, j1, j2, j3]
              | a :: b :: c :: d :: r, _, hl0 =>
                have t1 : ¬ ((r.length : Int) + 1 + 1 + 1 + 1 + 1 = 4) := by omega
                have t2 : ¬ ((r.length : Int) + 1 + 1 + 1 + 1 + 1 = 0) := by omega
                simp [sz, hin, hn0, e, plainB, t1, t2]
            by_cases h2 : s = ("numbers" : Str)
            · have hd : (W.tup r).dat = true := datL_of fun w hw => (hr w hw).1
              subst h2
              simp [sz, hin, hn0, hl0, e, plainB, hc, law_span h.whole h.from_ h.tuple h.span (k + n + 2) hd]
            by_cases h1 : s = ("all" : Str)
            · subst h1
              cases r with
              | nil => simp [sz, hin, hn0, e, plainB, hall]
              | cons a r =>
                simp at hall
                have t2 : ¬ ((r.length : Int) + 1 + 1 = 0) := by omega
                simp [sz, hin, hn0, e, plainB, hall, t2]
            simp [h1] at hall
            by_cases h4 : s = ("buyer" : Str)
            · subst h4
              match r, hr, hl0, hall with
              | [], _, _, hall => simp [sz, hin, hn0, e, plainB, hall]
              | [a], hr, _, hall =>
                have da := hr a (by simp)
                have j1 : ixOf 2 1 = some 1 := rfl
                simp [sz, hin, hn0, e, plainB, hall, law_name h.name (k + n + 4) da.1 da.2, j1]
              | a :: b :: r, _, hl0, hall =>
                have t1 : ¬ ((r.length : Int) + 1 + 1 + 1 = 2) := by omega
                have t2 : ¬ ((r.length : Int) + 1 + 1 + 1 = 0) := by omega
                simp [sz, hin, hn0, e, plainB, hall, t1, t2]
            · simp [sz, hin, hn0, hl0, e, h1, h2, h3, h4, h5, plainB, hall]
        · have hns : ∀ s, x ≠ .str s := fun s z => hx ⟨s, z⟩
          have hnl := isEq_nld okx.dat.1 hns
          have hv : ∀ t : String, W.eqv (.str (Str.ofString t)) x = false := fun t => by cases x <;> first | rfl | exact absurd rfl (hns _)
          have hv2 : W.eqv x (.str (Str.ofString "all")) = false := by cases x <;> first | rfl | exact absurd rfl (hns _)
          have hw : whereB (n + 1) (.tup (x :: r)) = false := by cases x <;> first | rfl | exact absurd rfl (hns _)
          simp only [List.any_cons, List.any_nil, hv, Bool.or_false] at hin0
          simp only [hv2, Bool.false_and] at hall
          simp [sz, hin0, hn0, hl0, hnl, hall, hw]
    | _ => first | (have := ok.dat.1; simp [W.dat] at this; done) | simp [whereB]
end P

-- LbTx4
/-! Wheres and their texts: the defs, run. -/
namespace P
open PySem Pf
open SX (S)
/-- a text of plain signs -/
def Tx (l : List Nat) : Prop := (∀ c ∈ l, c < 128) ∧ l.length ≤ 400000
theorem Tx.mono {l m : List Nat} (h : Tx l) (hs : ∀ c ∈ m, c ∈ l) (hl : m.length ≤ l.length) : Tx m := ⟨fun c hc => h.1 c (hs c hc), Nat.le_trans hl h.2⟩
@[simp] theorem S_cps (l : List Nat) : (S l).cps.toList = l := by simp [S]
theorem S_ok {l : List Nat} (h : Tx l) : PyData.strOk (S l) = true := by
  unfold PyData.strOk
  rw [← Array.all_toList, S_cps, List.all_eq_true]
  intro c hc
  have := h.1 c hc
  simp
  omega
theorem S_eq {l m : List Nat} : (S l = S m) ↔ l = m := ⟨SX.S_inj, fun h => by rw [h]⟩
theorem eq_S {l m : List Nat} {t : String} (h : Str.ofString t = S m) : (S l = Str.ofString t) ↔ l = m := by rw [h]; exact S_eq
theorem fig_mem (c : Nat) : decide (c ∈ ("0123456789" : Str).cps.toList) = digB c := by
  have e : ("0123456789" : Str).cps.toList = List.range' 48 10 := by decide +kernel
  rw [e]
  unfold digB
  rw [Bool.eq_iff_iff, decide_eq_true_eq, Bool.and_eq_true, decide_eq_true_eq, decide_eq_true_eq, List.mem_range'_1]
  omega
theorem call_int_S {l : List Nat} (h : l.all digB = true) (hne : l ≠ []) (hl : l.length ≤ 60) : W.call "int" [.str (S l)] = some (.d (.int ((NumText.digitsVal l : Nat) : Int))) := by
  have e : PySem.intText? (S l) = some ((NumText.digitsVal l : Nat) : Int) := SX.int_S (a := l) h hne (by omega)
  show (if (S l).length ≤ 640 then (PySem.intText? (S l)).map fun n => Sl.d (.int n) else none) = _
  rw [if_pos (by rw [SX.S_len]; omega), e]
  rfl
theorem item0 {c : Nat} {l : List Nat} (hl : (c :: l).length ≤ sizeLine) : itemW (.str (S (c :: l))) (.int 0) = some (.d (.str ⟨#[c]⟩)) := by
  rw [itemW_s, if_pos (by rw [SX.S_len]; exact hl), S_cps]
  have : ixOf (c :: l).length 0 = some 0 := by rw [ixOf_lt (by decide) (by simp)]; rfl
  rw [this]
  rfl
theorem isEq_c {c : Nat} (hc : c < 128) (d : Nat) (t : String) (ht : Str.ofString t = S [d]) : W.isEq (.str ⟨#[c]⟩) (.str (Str.ofString t)) = some (decide (c = d)) := by
  have hok : PyData.strOk (S [c]) = true := S_ok ⟨by simpa using hc, by simp⟩
  have := isEq_sl (x := S [c]) hok t
  rw [show (⟨#[c]⟩ : Str) = S [c] from rfl, this]
  congr 1
  rw [Bool.eq_iff_iff, decide_eq_true_eq, decide_eq_true_eq, eq_S ht]
  simp
theorem fig_mem2 (c : Nat) : (c ∈ ("0123456789" : Str).cps) ↔ digB c = true := by
  rw [← fig_mem, decide_eq_true_eq, Array.mem_def]
theorem Txl {l : List Nat} (h : Tx l) : l.length ≤ 16777216 := Nat.le_trans h.2 (by decide)
theorem number_in {C : Nat → Orc} (h : H_number_in C) (k : Nat) {l : List Nat} (hl : Tx l) : C (k + 1) "number_in" [.d (.str (S l))] = .ret (.d (oN (numIn l))) [.d (.str (S l))] := by
  rw [h]
  unfold b_number_in
  have hsz := Txl hl
  have hlen : (S l).length = l.length := SX.S_len l
  by_cases h1 : 1 ≤ l.length
  · by_cases h60 : l.length ≤ 60
    · have loop : l1_number_in (C k) [.d (.str (S l)), .e] = .ok (.o (.lst (l.map fun c => .bl (digB c)))) (restore [.d (.str (S l)), .e] (clear [.d (.str (S l)), .e] [1]) [1]) := by
        refine lc_pure (ρ1 := [.d (.str (S l)), .e]) (g := fun c => .str ⟨#[c]⟩) ?_ rfl ?_ ?_
        · simp
        · unfold sizeLine; omega
        · intro c hc
          refine ⟨[.d (.str (S l)), .d (.str ⟨#[c]⟩)], ?_, rfl⟩
          simp [clear, fig_mem2]
      have h60' : ((l.length : Int) ≤ 60) := by omega
      have h1' : (1 : Int) ≤ l.length := by omega
      cases hd : l.all digB with
      | false =>
        have hn : numIn l = none := by unfold numIn; rw [if_neg (by rw [hd]; simp)]
        have hd' : (l.map digB).all id = false := by rw [List.all_map]; exact hd
        simp [sz, hsz, hlen, h1', h60', loop, bools_map, hd', restore, clear, hn, oN]
      | true =>
        have hd' : (l.map digB).all id = true := by rw [List.all_map]; exact hd
        obtain ⟨c, r, rfl⟩ : ∃ c r, l = c :: r := by
          cases l with
          | nil => simp at h1
          | cons c r => exact ⟨c, r, rfl⟩
        have e0 := item0 (c := c) (l := r) (by unfold sizeLine; omega)
        have ec := isEq_c (hl.1 c (by simp)) 48 "0" (by decide +kernel)
        have ei := call_int_S (l := c :: r) hd (by simp) h60
        generalize hL : (c :: r).length = L at *
        generalize hll : c :: r = l at *
        by_cases hz : c = 48 ∧ 1 < L
        · have hn : numIn l = none := by
            unfold numIn
            rw [if_neg]
            rintro ⟨_, _, _, z | z⟩
            · exact z (by rw [← hll, hz.1]; rfl)
            · omega
          have hz2 : (1 : Int) < L := by omega
          rw [decide_eq_true hz.1] at ec
          simp [sz, hsz, hlen, hL, h1', h60', loop, bools_map, hd', restore, clear, hn, oN, e0, ec, hz2]
        · have hn : numIn l = some (NumText.digitsVal l) := by
            unfold numIn
            rw [if_pos]
            refine ⟨by rw [← hll]; simp, by omega, hd, ?_⟩
            by_cases z : c = 48
            · right; omega
            · left; rw [← hll]; intro q; exact z (Option.some.inj q)
          by_cases z : c = 48
          · have hz2 : ¬ (1 : Int) < L := by omega
            rw [decide_eq_true z] at ec
            simp [sz, hsz, hlen, hL, h1', h60', loop, bools_map, hd', restore, clear, hn, oN, e0, ec, hz2, ei]
          · rw [decide_eq_false z] at ec
            simp [sz, hsz, hlen, hL, h1', h60', loop, bools_map, hd', restore, clear, hn, oN, e0, ec, ei]
    · have h60' : ¬ ((l.length : Int) ≤ 60) := by omega
      have h1' : (1 : Int) ≤ l.length := by omega
      have hn : numIn l = none := by unfold numIn; rw [if_neg (fun z => h60 z.2.1)]
      simp [sz, hsz, hlen, h1', h60', hn, oN]
  · have h1' : ¬ (1 : Int) ≤ l.length := by omega
    have hn : numIn l = none := by
      unfold numIn
      rw [if_neg]
      rintro ⟨z, _⟩
      have := List.length_pos_iff.mpr z
      omega
    simp [sz, hsz, hlen, h1', hn, oN]
end P

-- LbTx5
/-! Wheres and their texts: numbers, texts of wheres. -/
namespace P
open PySem Pf
open SX (S)
theorem isEq_S {l : List Nat} (hl : Tx l) {m : List Nat} {t : String} (ht : Str.ofString t = S m) : W.isEq (.str (S l)) (.str (Str.ofString t)) = some (decide (l = m)) := by
  rw [isEq_sl (S_ok hl) t]
  congr 1
  rw [Bool.eq_iff_iff, decide_eq_true_eq, decide_eq_true_eq, eq_S ht]
theorem law_number_in {C : Nat → Orc} (h : H__law_number_in C) (k : Nat) {l : List Nat} (hl : Tx l) : C (k + 1) "_law_number_in" [.d (.str (S l))] = .ret (.d (oN (numIn l))) [.d (.str (S l))] := by
  rw [h]
  unfold b__law_number_in
  have hsz := Txl hl
  have hlen : (S l).length = l.length := SX.S_len l
  by_cases h1 : 1 ≤ l.length
  · by_cases h60 : l.length ≤ 60
    · have loop : l1__law_number_in (C k) [.d (.str (S l)), .e] = .ok (.o (.lst ((l.filter fun c => !digB c).map fun c => .str ⟨#[c]⟩))) (restore [.d (.str (S l)), .e] (clear [.d (.str (S l)), .e] [1]) [1]) := by
        refine lc_filter (ρ1 := [.d (.str (S l)), .e]) (g := fun c => .str ⟨#[c]⟩) ?_ rfl ?_ ?_
        · simp
        · unfold sizeLine; omega
        · intro c hc
          refine ⟨[.d (.str (S l)), .d (.str ⟨#[c]⟩)], ?_, fun _ => ⟨[.d (.str (S l)), .d (.str ⟨#[c]⟩)], ?_, rfl⟩, fun _ => rfl⟩
          · simp [clear, fig_mem2]
          · simp
      have h60' : ((l.length : Int) < 61) := by omega
      have h1' : (0 : Int) < l.length := by omega
      have h1n : 0 < l.length := by omega
      have hq := isEq_l0 (shp_chars (l := l.filter fun c => !digB c) fun c hc => by have := hl.1 c (List.mem_filter.mp hc).1; omega)
      have he : (l.filter fun c => !digB c).isEmpty = l.all digB := by
        rw [Bool.eq_iff_iff, List.isEmpty_iff, List.filter_eq_nil_iff, List.all_eq_true]
        simp
      rw [List.isEmpty_map, he] at hq
      generalize (l.filter fun c => !digB c).map (fun c => W.str ⟨#[c]⟩) = fl at loop hq
      cases hd : l.all digB with
      | false =>
        have hn : numIn l = none := by unfold numIn; rw [if_neg (by rw [hd]; simp)]
        rw [hd] at hq
        simp [sz, hsz, hlen, h1', h1n, h60', loop, hq, restore, clear, hn, oN]
      | true =>
        rw [hd] at hq
        obtain ⟨c, r, rfl⟩ : ∃ c r, l = c :: r := by
          cases l with
          | nil => simp at h1
          | cons c r => exact ⟨c, r, rfl⟩
        have e0 := item0 (c := c) (l := r) (by unfold sizeLine; omega)
        have ec := isEq_c (hl.1 c (by simp)) 48 "0" (by decide +kernel)
        have ei := call_int_S (l := c :: r) hd (by simp) h60
        have e1 := isEq_S hl (m := [48]) (t := "0") (by decide +kernel)
        have hcr : c :: r = [48] ↔ c = 48 ∧ ¬ 1 < (c :: r).length := by
          constructor
          · intro z; cases z; exact ⟨rfl, by simp⟩
          · rintro ⟨rfl, z⟩
            have : r.length = 0 := by simp at z; simpa using z
            rw [List.eq_nil_of_length_eq_zero this]
        generalize hL : (c :: r).length = L at *
        generalize hll : c :: r = l at *
        by_cases hz : c = 48 ∧ 1 < L
        · have hn : numIn l = none := by
            unfold numIn
            rw [if_neg]
            rintro ⟨_, _, _, z | z⟩
            · exact z (by rw [← hll, hz.1]; rfl)
            · omega
          rw [decide_eq_true hz.1] at ec
          rw [decide_eq_false (fun z => (hcr.mp z).2 hz.2)] at e1
          simp [sz, hsz, hlen, hL, h1', h1n, h60', loop, hq, restore, clear, hn, oN, e0, ec, e1]
        · have hn : numIn l = some (NumText.digitsVal l) := by
            unfold numIn
            rw [if_pos]
            refine ⟨by rw [← hll]; simp, by omega, hd, ?_⟩
            by_cases z : c = 48
            · right; omega
            · left; rw [← hll]; intro q; exact z (Option.some.inj q)
          by_cases z : c = 48
          · rw [decide_eq_true z] at ec
            rw [decide_eq_true (hcr.mpr ⟨z, fun q => hz ⟨z, q⟩⟩)] at e1
            simp [sz, hsz, hlen, hL, h1', h1n, h60', loop, hq, restore, clear, hn, oN, e0, ec, e1, ei]
          · rw [decide_eq_false z] at ec
            simp [sz, hsz, hlen, hL, h1', h1n, h60', loop, hq, restore, clear, hn, oN, e0, ec, ei]
    · have h60' : ¬ ((l.length : Int) < 61) := by omega
      have h1' : (0 : Int) < l.length := by omega
      have h1n : 0 < l.length := by omega
      have hn : numIn l = none := by unfold numIn; rw [if_neg (fun z => h60 z.2.1)]
      simp [sz, hsz, hlen, h1', h1n, h60', hn, oN]
  · have h1' : ¬ (0 : Int) < l.length := by omega
    have h1n : l.length = 0 := by omega
    have hn : numIn l = none := by
      unfold numIn
      rw [if_neg]
      rintro ⟨z, _⟩
      have := List.length_pos_iff.mpr z
      omega
    simp [sz, hsz, hlen, h1', h1n, hn, oN]
/-! ### texts of numbers -/
theorem str_num {a : Nat} (h : a < 10 ^ 60) : W.call "str" [.int (a : Nat)] = some (.d (.str (S (TL.numL a)))) := by
  have h1 : ((a : Nat) : Int).natAbs.log2 < 1920 := by
    rw [Int.natAbs_natCast]
    by_cases z : a = 0
    · subst z; decide
    · exact (Nat.log2_lt z).mpr (Nat.lt_of_lt_of_le h (by decide +kernel))
  show (if ((a : Nat) : Int).natAbs.log2 < 1920 then some (Sl.d (.str (toString ((a : Nat) : Int)))) else none) = _
  rw [if_pos h1]
  have := SX.num_S a
  exact congrArg (fun x => some (Sl.d (W.str x))) this
theorem S_add (a b : List Nat) : S a ++ S b = S (a ++ b) := SX.S_cat a b
theorem dash_S : ("-" : Str) = S [45] := by decide +kernel
/-- the text of a span -/
def spT (a : Nat) (b : Option Nat) : List Nat := TL.joinL [45] [TL.numL a, oT b]
theorem spT_eq (a : Nat) (b : Option Nat) : spT a b = TL.numL a ++ (45 :: oT b) := rfl
theorem numL_60 {a : Nat} (h : a < 10 ^ 60) : (TL.numL a).length ≤ 60 := TL.numL_len (by decide) h
theorem span_text {C : Nat → Orc} (h : H_span_text C) (k : Nat) {a : Nat} {b : Option Nat} (ha : a < 10 ^ 60) (hb : ∀ n, b = some n → n < 10 ^ 60) : C (k + 1) "span_text" [.d (.int (a : Nat)), .d (oN b)] = .ret (.d (.str (S (spT a b)))) [.d (.int (a : Nat)), .d (oN b)] := by
  rw [h]
  unfold b_span_text
  have e1 := str_num ha
  have l1 := numL_60 ha
  have e2 : ("-" : Str).length = 1 := by decide +kernel
  cases b with
  | none =>
    have hs : (S (TL.numL a)).length + ("-" : Str).length ≤ sizeLine := by rw [SX.S_len, e2]; unfold sizeLine; omega
    have hc : S (TL.numL a) ++ ("-" : Str) = S (spT a none) := by rw [dash_S, S_add]; rfl
    have hadd : W.add (.str (S (TL.numL a))) (.str "-") = some (.d (.str (S (spT a none)))) := by rw [add_ss, if_pos hs, hc]
    simp [oN, e1, hadd, W.bin, -add_ss]
  | some n =>
    have e3 := str_num (hb n rfl)
    have l3 := numL_60 (hb n rfl)
    have hs : (S (TL.numL a)).length + ("-" : Str).length ≤ sizeLine := by rw [SX.S_len, e2]; unfold sizeLine; omega
    have hc : S (TL.numL a) ++ ("-" : Str) = S (TL.numL a ++ [45]) := by rw [dash_S, S_add]
    have hadd : W.add (.str (S (TL.numL a))) (.str "-") = some (.d (.str (S (TL.numL a ++ [45])))) := by rw [add_ss, if_pos hs, hc]
    have hadd2 : W.add (.str (S (TL.numL a ++ [45]))) (.str (S (TL.numL n))) = some (.d (.str (S (spT a (some n))))) := by
      rw [add_ss, if_pos (by rw [SX.S_len, SX.S_len, List.length_append, List.length_singleton]; unfold sizeLine; omega), S_add]
      have : TL.numL a ++ [45] ++ TL.numL n = spT a (some n) := by rw [spT_eq]; simp [oT]
      rw [this]
    simp [oN, e1, e3, hadd, hadd2, -add_ss]
theorem law_span_text {C : Nat → Orc} (h : H__law_span_text C) (k : Nat) {a : Nat} {b : Option Nat} (ha : a < 10 ^ 60) (hb : ∀ n, b = some n → n < 10 ^ 60) : C (k + 1) "_law_span_text" [.d (.int (a : Nat)), .d (oN b)] = .ret (.d (.str (S (spT a b)))) [.d (.int (a : Nat)), .d (oN b)] := by
  rw [h]
  unfold b__law_span_text
  have e1 := str_num ha
  have l1 := numL_60 ha
  have e2 : ("-" : Str).length = 1 := by decide +kernel
  have hs : (S (TL.numL a)).length + ("-" : Str).length ≤ sizeLine := by rw [SX.S_len, e2]; unfold sizeLine; omega
  have hc : S (TL.numL a) ++ ("-" : Str) = S (TL.numL a ++ [45]) := by rw [dash_S, S_add]
  have hadd : W.add (.str (S (TL.numL a))) (.str "-") = some (.d (.str (S (TL.numL a ++ [45])))) := by rw [add_ss, if_pos hs, hc]
  cases b with
  | none =>
    have hadd2 : W.add (.str (S (TL.numL a ++ [45]))) (.str "") = some (.d (.str (S (spT a none)))) := by
      have e4 : ("" : Str) = S [] := by decide +kernel
      rw [e4, add_ss, if_pos (by rw [SX.S_len, SX.S_len, List.length_append, List.length_singleton]; unfold sizeLine; simp; omega), S_add, List.append_nil]
      rfl
    simp [oN, e1, hadd, hadd2, -add_ss]
  | some n =>
    have e3 := str_num (hb n rfl)
    have l3 := numL_60 (hb n rfl)
    have hadd2 : W.add (.str (S (TL.numL a ++ [45]))) (.str (S (TL.numL n))) = some (.d (.str (S (spT a (some n))))) := by
      rw [add_ss, if_pos (by rw [SX.S_len, SX.S_len, List.length_append, List.length_singleton]; unfold sizeLine; omega), S_add]
      have : TL.numL a ++ [45] ++ TL.numL n = spT a (some n) := by rw [spT_eq]; simp [oT]
      rw [this]
    simp [oN, e1, e3, hadd, hadd2, -add_ss]
/-! ### sizes -/
theorem joinL2 (a b : List Nat) : (TL.joinL [58] [a, b]).length = a.length + 1 + b.length := by
  show (a ++ ([58] ++ b)).length = _
  simp; omega
theorem t_len : ∀ (r : Wr), r.ok → r.t.length + 3 ≤ 72 * 2 ^ r.d
  | .all, _ => by decide
  | .span d a b, h => by
    have h1 := numL_60 h.2.1
    have h2 : (oT b).length ≤ 60 := by
      cases b with
      | none => simp [oT]
      | some n => exact numL_60 (h.2.2 n rfl).2
    have h3 : (spC d).length ≤ 7 := by cases d <;> decide
    show (TL.joinL [58] [spC d, spT a b]).length + 3 ≤ 72 * 2 ^ 1
    rw [joinL2, spT_eq, List.length_append, List.length_cons]
    omega
  | .buyer s, h => by
    unfold Wr.ok nmL at h
    rw [Bool.and_eq_true, Bool.and_eq_true, decide_eq_true_eq, decide_eq_true_eq] at h
    show (TL.joinL [58] [cBuyer, s]).length + 3 ≤ 72 * 2 ^ 1
    rw [joinL2]
    have : cBuyer.length = 5 := rfl
    omega
  | .spent s a b, h => by
    have h0 := h.1
    unfold nmL at h0
    rw [Bool.and_eq_true, Bool.and_eq_true, decide_eq_true_eq, decide_eq_true_eq] at h0
    have h1 := numL_60 h.2.2.1
    have h2 := numL_60 h.2.2.2
    show (cSpent ++ ([58] ++ (s ++ ([58] ++ (TL.numL a ++ ([58] ++ TL.numL b)))))).length + 3 ≤ 72 * 2 ^ 1
    have : cSpent.length = 5 := rfl
    simp only [List.length_append, List.length_singleton]
    omega
  | .neg w, h => by
    have := t_len w h
    show (33 :: w.t).length + 3 ≤ 72 * 2 ^ (w.d + 1)
    rw [List.length_cons, Nat.pow_succ]
    omega
  | .two e x y, h => by
    have h1 := t_len x h.1
    have h2 := t_len y h.2
    have p1 : 2 ^ x.d ≤ 2 ^ max x.d y.d := Nat.pow_le_pow_right (by decide) (by omega)
    have p2 : 2 ^ y.d ≤ 2 ^ max x.d y.d := Nat.pow_le_pow_right (by decide) (by omega)
    show (40 :: (x.t ++ twC e :: (y.t ++ [41]))).length + 3 ≤ 72 * 2 ^ (max x.d y.d + 1)
    rw [Nat.pow_succ]
    simp only [List.length_cons, List.length_append, List.length_nil]
    omega
theorem t_asc : ∀ (r : Wr), r.ok → ∀ c ∈ r.t, c < 128 := by
  have num : ∀ {n c : Nat}, c ∈ TL.numL n → c < 128 := fun {n c} h => by have := TL.numL_digits n c h; omega
  have nm : ∀ {s : List Nat} {c : Nat}, nmL s = true → c ∈ s → c < 128 := fun {s c} h hc => by
    unfold nmL at h
    rw [Bool.and_eq_true] at h
    have := List.all_eq_true.mp h.2 c hc
    rw [Bool.and_eq_true, decide_eq_true_eq, decide_eq_true_eq] at this
    omega
  intro r
  induction r with
  | all => intro _; decide
  | span d a b =>
    intro h c hc
    have hc' : c ∈ spC d ++ ([58] ++ (TL.numL a ++ ([45] ++ oT b))) := hc
    simp at hc'
    rcases hc' with hc' | rfl | hc' | rfl | hc'
    · have : ∀ c ∈ spC d, c < 128 := by cases d <;> decide
      exact this c hc'
    · decide
    · exact num hc'
    · decide
    · cases b with
      | none => cases hc'
      | some n => exact num hc'
  | buyer s =>
    intro h c hc
    have hc' : c ∈ cBuyer ++ ([58] ++ s) := hc
    simp at hc'
    rcases hc' with hc' | rfl | hc'
    · have : ∀ c ∈ cBuyer, c < 128 := by decide
      exact this c hc'
    · decide
    · exact nm h hc'
  | spent s a b =>
    intro h c hc
    have hc' : c ∈ cSpent ++ ([58] ++ (s ++ ([58] ++ (TL.numL a ++ ([58] ++ TL.numL b))))) := hc
    simp at hc'
    rcases hc' with hc' | rfl | hc' | rfl | hc' | rfl | hc'
    · have : ∀ c ∈ cSpent, c < 128 := by decide
      exact this c hc'
    · decide
    · exact nm h.1 hc'
    · decide
    · exact num hc'
    · decide
    · exact num hc'
  | neg w ih =>
    intro h c hc
    rcases List.mem_cons.mp hc with rfl | hc
    · decide
    · exact ih h c hc
  | two e x y ihx ihy =>
    intro h c hc
    have hc' : c ∈ 40 :: (x.t ++ twC e :: (y.t ++ [41])) := hc
    simp at hc'
    rcases hc' with rfl | hc' | rfl | hc' | rfl
    · decide
    · exact ihx h.1 c hc'
    · cases e <;> decide
    · exact ihy h.2 c hc'
    · decide
theorem t_Tx {r : Wr} (h : r.ok) (hd : r.d ≤ 6) : Tx r.t := by
  refine ⟨t_asc r h, ?_⟩
  have h1 := t_len r h
  have h2 : 2 ^ r.d ≤ 2 ^ 6 := Nat.pow_le_pow_right (by decide) hd
  omega
end P

-- LbTx6
/-! Wheres and their texts: texts of wheres. -/
namespace P
open PySem Pf
open SX (S)
abbrev tBE : W := .tup [.str "both", .str "either"]
abbrev tND : W := .tup [.str "numbers", .str "days"]
theorem be_not : W.isIn (.str "not") tBE = some false := by decide +kernel
theorem be_num : W.isIn (.str "numbers") tBE = some false := by decide +kernel
theorem be_days : W.isIn (.str "days") tBE = some false := by decide +kernel
theorem be_all : W.isIn (.str "all") tBE = some false := by decide +kernel
theorem be_buyer : W.isIn (.str "buyer") tBE = some false := by decide +kernel
theorem be_spent : W.isIn (.str "spent") tBE = some false := by decide +kernel
theorem be_both : W.isIn (.str "both") tBE = some true := by decide +kernel
theorem be_either : W.isIn (.str "either") tBE = some true := by decide +kernel
theorem nd_num : W.isIn (.str "numbers") tND = some true := by decide +kernel
theorem nd_days : W.isIn (.str "days") tND = some true := by decide +kernel
theorem nd_all : W.isIn (.str "all") tND = some false := by decide +kernel
theorem nd_buyer : W.isIn (.str "buyer") tND = some false := by decide +kernel
theorem nd_spent : W.isIn (.str "spent") tND = some false := by decide +kernel
theorem add_S {a b : List Nat} (h : a.length + b.length ≤ 16777216) : W.add (.str (S a)) (.str (S b)) = some (.d (.str (S (a ++ b)))) := by
  rw [add_ss, if_pos (by rw [SX.S_len, SX.S_len]; exact h), S_add]
theorem add_lS {a b : List Nat} {t : String} (ht : Str.ofString t = S a) (h : a.length + b.length ≤ 16777216) : W.add (.str (Str.ofString t)) (.str (S b)) = some (.d (.str (S (a ++ b)))) := by
  rw [ht]; exact add_S h
theorem add_Sl {a b : List Nat} {t : String} (ht : Str.ofString t = S b) (h : a.length + b.length ≤ 16777216) : W.add (.str (S a)) (.str (Str.ofString t)) = some (.d (.str (S (a ++ b)))) := by
  rw [ht]; exact add_S h
theorem add_ll {a b : List Nat} {s t : String} (hs : Str.ofString s = S a) (ht : Str.ofString t = S b) (h : a.length + b.length ≤ 16777216) : W.add (.str (Str.ofString s)) (.str (Str.ofString t)) = some (.d (.str (S (a ++ b)))) := by
  rw [hs, ht]; exact add_S h
theorem join_col (ys : List (List Nat)) (h : (ys.map (·.length)).sum + ys.length ≤ 16777216) : W.meth (.str ":") "join" [.lst (ys.map fun y => .str (S y))] = some (.d (.str (S (TL.joinL [58] ys)))) := by
  have e1 : strsOf (ys.map fun y => W.str (S y)) = some (ys.map S) := by
    clear h
    induction ys with
    | nil => rfl
    | cons y ys ih => simp only [List.map_cons, strsOf, ih, Option.map_some]
  have e2 : (":" : Str) = S [58] := by decide +kernel
  have e3 : joinLen (":" : Str) (ys.map S) ≤ 16777216 := by
    unfold joinLen
    rw [SX.lens, List.length_map]
    have : (":" : Str).length = 1 := by decide +kernel
    rw [this, Nat.mul_one]
    exact h
  rw [meth_join, e1]
  show (if joinLen (":" : Str) (ys.map S) ≤ 16777216 then some (Sl.d (.str (Txt.join (":" : Str) (ys.map S)))) else none) = _
  rw [if_pos e3, e2, SX.join_S]
/-- a part of a where without wheres in it, and its text -/
def PT (p : W × List Nat) : Prop := W.call "str" [p.1] = some (.d (.str (S p.2)))
theorem str_str (x : Str) : W.call "str" [.str x] = some (.d (.str x)) := rfl
theorem parts_loop {C : Orc} {ps : List (W × List Nat)} (h : ∀ p ∈ ps, PT p) (hl : ps.length ≤ 100) (s1 : Sl) (hs1 : noOwn [.d (.tup (ps.map (·.1))), s1, .e] [2] = true) : l2_where_text C [.d (.tup (ps.map (·.1))), s1, .e] = .ok (.o (.lst (ps.map fun p => .str (S p.2)))) [.d (.tup (ps.map (·.1))), s1, .e] ∧
    l1__law_where_text C [.d (.tup (ps.map (·.1))), s1, .e] = .ok (.o (.lst (ps.map fun p => .str (S p.2)))) [.d (.tup (ps.map (·.1))), s1, .e] := by
  constructor
  · refine (lc_pure (ρ1 := [.d (.tup (ps.map (·.1))), s1, .e]) (l := ps) (g := (·.1)) (f := fun p => .str (S p.2)) ?_ hs1 ?_ ?_).trans rfl
    · simp
    · unfold sizeLine; omega
    · intro p hp
      refine ⟨[.d (.tup (ps.map (·.1))), s1, .d p.1], ?_, rfl⟩
      have := h p hp
      unfold PT at this
      simp [clear, this]
  · refine (lc_pure (ρ1 := [.d (.tup (ps.map (·.1))), s1, .e]) (l := ps) (g := (·.1)) (f := fun p => .str (S p.2)) ?_ hs1 ?_ ?_).trans rfl
    · simp
    · unfold sizeLine; omega
    · intro p hp
      refine ⟨[.d (.tup (ps.map (·.1))), s1, .d p.1], ?_, rfl⟩
      have := h p hp
      unfold PT at this
      simp [clear, this]
theorem t_60 {r : Wr} (h : r.ok) (hd : r.d ≤ 6) : r.t.length ≤ 10000 := by
  have h1 := t_len r h
  have h2 : 2 ^ r.d ≤ 2 ^ 6 := Nat.pow_le_pow_right (by decide) hd
  omega
theorem where_text {C : Nat → Orc} (hs : H_span_text C) (h : H_where_text C) : ∀ (r : Wr), r.ok → r.d ≤ 6 → ∀ k, C (k + r.d + 2) "where_text" [.d r.w] = .ret (.d (.str (S r.t))) [.d r.w] := by
  intro r
  induction r with
  | all =>
    intro _ _ k
    rw [show k + Wr.all.d + 2 = (k + 2) + 1 from rfl, h]
    unfold b_where_text
    have l := (parts_loop (C := C (k + 2)) (ps := [(.str "all", cAll)]) (by simp [PT, str_str]; decide +kernel) (by simp) .e rfl).1
    have j := join_col [cAll] (by decide)
    simp at l
    simp only [List.map_cons, List.map_nil] at j
    simp [Wr.w, be_all, nd_all, l, j, sz, -meth_join]
    rfl
  | span d a b =>
    intro hr _ k
    rw [show k + (Wr.span d a b).d + 2 = (k + 2) + 1 from rfl, h]
    unfold b_where_text
    have e := span_text hs (k + 1) (b := b) hr.2.1 (fun n z => (hr.2.2 n z).2)
    have ls : (spT a b).length ≤ 200 := by
      rw [spT_eq, List.length_append, List.length_cons]
      have h1 := numL_60 hr.2.1
      have h2 : (oT b).length ≤ 60 := by
        cases b with
        | none => simp [oT]
        | some n => exact numL_60 (hr.2.2 n rfl).2
      omega
    have j1 : ixOf 3 1 = some 1 := rfl
    have j2 : ixOf 3 2 = some 2 := rfl
    cases d with
    | false =>
      have a1 : W.add (.str "numbers") (.str ":") = some (.d (.str (S (cNum ++ [58])))) := add_ll S_num.symm (by decide +kernel) (by decide)
      have a2 := add_S (a := cNum ++ [58]) (b := spT a b) (by simp [cNum]; omega)
      have e3 : cNum ++ [58] ++ spT a b = (Wr.span false a b).t := by simp [Wr.t, spC, TL.joinL, spT]
      rw [e3] at a2
      simp [Wr.w, spW, be_num, nd_num, j1, j2, e, a1, a2, sz, -add_ss]
    | true =>
      have a1 : W.add (.str "days") (.str ":") = some (.d (.str (S (cDays ++ [58])))) := add_ll S_days.symm (by decide +kernel) (by decide)
      have a2 := add_S (a := cDays ++ [58]) (b := spT a b) (by simp [cDays]; omega)
      have e3 : cDays ++ [58] ++ spT a b = (Wr.span true a b).t := by simp [Wr.t, spC, TL.joinL, spT]
      rw [e3] at a2
      simp [Wr.w, spW, be_days, nd_days, j1, j2, e, a1, a2, sz, -add_ss]
  | buyer s =>
    intro hr hd k
    rw [show k + (Wr.buyer s).d + 2 = (k + 2) + 1 from rfl, h]
    unfold b_where_text
    have hl : s.length ≤ 8 := by
      unfold Wr.ok nmL at hr
      rw [Bool.and_eq_true, Bool.and_eq_true, decide_eq_true_eq, decide_eq_true_eq] at hr
      exact hr.1.2
    have l := (parts_loop (C := C (k + 2)) (ps := [(.str "buyer", cBuyer), (.str (S s), s)]) (by simp [PT, str_str]; decide +kernel) (by simp) .e rfl).1
    have j := join_col [cBuyer, s] (by simp [cBuyer]; omega)
    simp at l
    simp only [List.map_cons, List.map_nil] at j
    simp [Wr.w, be_buyer, nd_buyer, l, j, sz, -meth_join]
    rfl
  | spent s a b =>
    intro hr hd k
    rw [show k + (Wr.spent s a b).d + 2 = (k + 2) + 1 from rfl, h]
    unfold b_where_text
    have hl : s.length ≤ 8 := by
      have := hr.1
      unfold nmL at this
      rw [Bool.and_eq_true, Bool.and_eq_true, decide_eq_true_eq, decide_eq_true_eq] at this
      exact this.1.2
    have h1 := numL_60 hr.2.2.1
    have h2 := numL_60 hr.2.2.2
    have l := (parts_loop (C := C (k + 2)) (ps := [(.str "spent", cSpent), (.str (S s), s), (.int (a : Nat), TL.numL a), (.int (b : Nat), TL.numL b)]) (by
      intro p hp
      simp at hp
      rcases hp with rfl | rfl | rfl | rfl
      · show some (Sl.d (W.str "spent")) = some (Sl.d (W.str (S cSpent)))
        rw [show S cSpent = ("spent" : Str) by decide +kernel]
      · rfl
      · exact str_num hr.2.2.1
      · exact str_num hr.2.2.2) (by simp) .e rfl).1
    have j := join_col [cSpent, s, TL.numL a, TL.numL b] (by simp [cSpent]; omega)
    simp at l
    simp only [List.map_cons, List.map_nil] at j
    simp [Wr.w, be_spent, nd_spent, l, j, sz, -meth_join]
    rfl
  | neg w ih =>
    intro hr hd k
    have hd' : w.d + 1 ≤ 6 := hd
    have e := ih hr (by omega) k
    have hl := t_60 (r := w) hr (by omega)
    rw [show k + (Wr.neg w).d + 2 = (k + w.d + 2) + 1 from by show k + (w.d + 1) + 2 = _; omega, h]
    unfold b_where_text
    have j1 : ixOf 2 1 = some 1 := rfl
    have a1 := add_lS (t := "!") (a := [33]) (b := w.t) (by decide +kernel) (by simp; omega)
    simp [Wr.w, j1, e, a1, sz, -add_ss]
    rfl
  | two q x y ihx ihy =>
    intro hr hd k
    have hd' : max x.d y.d + 1 ≤ 6 := hd
    have e1 := ihx hr.1 (by omega) (k + (max x.d y.d - x.d))
    have e2 := ihy hr.2 (by omega) (k + (max x.d y.d - y.d))
    rw [show k + (max x.d y.d - x.d) + x.d + 2 = k + max x.d y.d + 2 by omega] at e1
    rw [show k + (max x.d y.d - y.d) + y.d + 2 = k + max x.d y.d + 2 by omega] at e2
    have l1 := t_60 (r := x) hr.1 (by omega)
    have l2 := t_60 (r := y) hr.2 (by omega)
    rw [show k + (Wr.two q x y).d + 2 = (k + max x.d y.d + 2) + 1 from by show k + (max x.d y.d + 1) + 2 = _; omega, h]
    unfold b_where_text
    have j1 : ixOf 3 1 = some 1 := rfl
    have j2 : ixOf 3 2 = some 2 := rfl
    have a1 := add_lS (t := "(") (a := [40]) (b := x.t) (by decide +kernel) (by simp; omega)
    have a4 := add_Sl (t := ")") (a := [40] ++ x.t ++ [twC q] ++ y.t) (b := [41]) (by decide +kernel) (by simp; omega)
    have a3 := add_S (a := [40] ++ x.t ++ [twC q]) (b := y.t) (by simp; omega)
    have e3 : [40] ++ x.t ++ [twC q] ++ y.t ++ [41] = (Wr.two q x y).t := by simp [Wr.t]
    rw [e3] at a4
    cases q with
    | false =>
      have a2 := add_Sl (t := "&") (a := [40] ++ x.t) (b := [twC false]) (by decide +kernel) (by simp; omega)
      generalize (Wr.two false x y).t = T at *
      generalize [40] ++ x.t ++ [twC false] ++ y.t = T4 at *
      generalize [40] ++ x.t ++ [twC false] = T3 at *
      generalize [40] ++ x.t = T2 at *
      simp [Wr.w, twW, be_both, j1, j2, e1, e2, a1, a2, a3, a4, sz, k1_where_text, -add_ss]
    | true =>
      have a2 := add_Sl (t := "|") (a := [40] ++ x.t) (b := [twC true]) (by decide +kernel) (by simp; omega)
      generalize (Wr.two true x y).t = T at *
      generalize [40] ++ x.t ++ [twC true] ++ y.t = T4 at *
      generalize [40] ++ x.t ++ [twC true] = T3 at *
      generalize [40] ++ x.t = T2 at *
      simp [Wr.w, twW, be_either, j1, j2, e1, e2, a1, a2, a3, a4, sz, k1_where_text, -add_ss]
theorem law_where_text {C : Nat → Orc} (hs : H__law_span_text C) (h : H__law_where_text C) : ∀ (r : Wr), r.ok → r.d ≤ 6 → ∀ k, C (k + r.d + 2) "_law_where_text" [.d r.w] = .ret (.d (.str (S r.t))) [.d r.w] := by
  intro r
  induction r with
  | all =>
    intro _ _ k
    rw [show k + Wr.all.d + 2 = (k + 2) + 1 from rfl, h]
    unfold b__law_where_text
    have l := (parts_loop (C := C (k + 2)) (ps := [(.str "all", cAll)]) (by simp [PT, str_str]; decide +kernel) (by simp) .e rfl).2
    have j := join_col [cAll] (by decide)
    simp at l
    simp only [List.map_cons, List.map_nil] at j
    simp [Wr.w, be_all, nd_all, l, j, sz, -meth_join]
    rfl
  | span d a b =>
    intro hr _ k
    rw [show k + (Wr.span d a b).d + 2 = (k + 2) + 1 from rfl, h]
    unfold b__law_where_text
    have e := law_span_text hs (k + 1) (b := b) hr.2.1 (fun n z => (hr.2.2 n z).2)
    have ls : (spT a b).length ≤ 200 := by
      rw [spT_eq, List.length_append, List.length_cons]
      have h1 := numL_60 hr.2.1
      have h2 : (oT b).length ≤ 60 := by
        cases b with
        | none => simp [oT]
        | some n => exact numL_60 (hr.2.2 n rfl).2
      omega
    have j1 : ixOf 3 1 = some 1 := rfl
    have j2 : ixOf 3 2 = some 2 := rfl
    cases d with
    | false =>
      have a1 : W.add (.str "numbers") (.str ":") = some (.d (.str (S (cNum ++ [58])))) := add_ll S_num.symm (by decide +kernel) (by decide)
      have a2 := add_S (a := cNum ++ [58]) (b := spT a b) (by simp [cNum]; omega)
      have e3 : cNum ++ [58] ++ spT a b = (Wr.span false a b).t := by simp [Wr.t, spC, TL.joinL, spT]
      rw [e3] at a2
      simp [Wr.w, spW, be_num, nd_num, j1, j2, e, a1, a2, sz, -add_ss]
    | true =>
      have a1 : W.add (.str "days") (.str ":") = some (.d (.str (S (cDays ++ [58])))) := add_ll S_days.symm (by decide +kernel) (by decide)
      have a2 := add_S (a := cDays ++ [58]) (b := spT a b) (by simp [cDays]; omega)
      have e3 : cDays ++ [58] ++ spT a b = (Wr.span true a b).t := by simp [Wr.t, spC, TL.joinL, spT]
      rw [e3] at a2
      simp [Wr.w, spW, be_days, nd_days, j1, j2, e, a1, a2, sz, -add_ss]
  | buyer s =>
    intro hr hd k
    rw [show k + (Wr.buyer s).d + 2 = (k + 2) + 1 from rfl, h]
    unfold b__law_where_text
    have hl : s.length ≤ 8 := by
      unfold Wr.ok nmL at hr
      rw [Bool.and_eq_true, Bool.and_eq_true, decide_eq_true_eq, decide_eq_true_eq] at hr
      exact hr.1.2
    have l := (parts_loop (C := C (k + 2)) (ps := [(.str "buyer", cBuyer), (.str (S s), s)]) (by simp [PT, str_str]; decide +kernel) (by simp) .e rfl).2
    have j := join_col [cBuyer, s] (by simp [cBuyer]; omega)
    simp at l
    simp only [List.map_cons, List.map_nil] at j
    simp [Wr.w, be_buyer, nd_buyer, l, j, sz, -meth_join]
    rfl
  | spent s a b =>
    intro hr hd k
    rw [show k + (Wr.spent s a b).d + 2 = (k + 2) + 1 from rfl, h]
    unfold b__law_where_text
    have hl : s.length ≤ 8 := by
      have := hr.1
      unfold nmL at this
      rw [Bool.and_eq_true, Bool.and_eq_true, decide_eq_true_eq, decide_eq_true_eq] at this
      exact this.1.2
    have h1 := numL_60 hr.2.2.1
    have h2 := numL_60 hr.2.2.2
    have l := (parts_loop (C := C (k + 2)) (ps := [(.str "spent", cSpent), (.str (S s), s), (.int (a : Nat), TL.numL a), (.int (b : Nat), TL.numL b)]) (by
      intro p hp
      simp at hp
      rcases hp with rfl | rfl | rfl | rfl
      · show some (Sl.d (W.str "spent")) = some (Sl.d (W.str (S cSpent)))
        rw [show S cSpent = ("spent" : Str) by decide +kernel]
      · rfl
      · exact str_num hr.2.2.1
      · exact str_num hr.2.2.2) (by simp) .e rfl).2
    have j := join_col [cSpent, s, TL.numL a, TL.numL b] (by simp [cSpent]; omega)
    simp at l
    simp only [List.map_cons, List.map_nil] at j
    simp [Wr.w, be_spent, nd_spent, l, j, sz, -meth_join]
    rfl
  | neg w ih =>
    intro hr hd k
    have hd' : w.d + 1 ≤ 6 := hd
    have e := ih hr (by omega) k
    have hl := t_60 (r := w) hr (by omega)
    rw [show k + (Wr.neg w).d + 2 = (k + w.d + 2) + 1 from by show k + (w.d + 1) + 2 = _; omega, h]
    unfold b__law_where_text
    have j1 : ixOf 2 1 = some 1 := rfl
    have a1 := add_lS (t := "!") (a := [33]) (b := w.t) (by decide +kernel) (by simp; omega)
    simp [Wr.w, j1, e, a1, sz, -add_ss]
    rfl
  | two q x y ihx ihy =>
    intro hr hd k
    have hd' : max x.d y.d + 1 ≤ 6 := hd
    have e1 := ihx hr.1 (by omega) (k + (max x.d y.d - x.d))
    have e2 := ihy hr.2 (by omega) (k + (max x.d y.d - y.d))
    rw [show k + (max x.d y.d - x.d) + x.d + 2 = k + max x.d y.d + 2 by omega] at e1
    rw [show k + (max x.d y.d - y.d) + y.d + 2 = k + max x.d y.d + 2 by omega] at e2
    have l1 := t_60 (r := x) hr.1 (by omega)
    have l2 := t_60 (r := y) hr.2 (by omega)
    rw [show k + (Wr.two q x y).d + 2 = (k + max x.d y.d + 2) + 1 from by show k + (max x.d y.d + 1) + 2 = _; omega, h]
    unfold b__law_where_text
    have j1 : ixOf 3 1 = some 1 := rfl
    have j2 : ixOf 3 2 = some 2 := rfl
    have a1 := add_lS (t := "(") (a := [40]) (b := x.t) (by decide +kernel) (by simp; omega)
    have a4 := add_Sl (t := ")") (a := [40] ++ x.t ++ [twC q] ++ y.t) (b := [41]) (by decide +kernel) (by simp; omega)
    have a3 := add_S (a := [40] ++ x.t ++ [twC q]) (b := y.t) (by simp; omega)
    have e3 : [40] ++ x.t ++ [twC q] ++ y.t ++ [41] = (Wr.two q x y).t := by simp [Wr.t]
    rw [e3] at a4
    cases q with
    | false =>
      have a2 := add_Sl (t := "&") (a := [40] ++ x.t) (b := [twC false]) (by decide +kernel) (by simp; omega)
      generalize (Wr.two false x y).t = T at *
      generalize [40] ++ x.t ++ [twC false] ++ y.t = T4 at *
      generalize [40] ++ x.t ++ [twC false] = T3 at *
      generalize [40] ++ x.t = T2 at *
      simp [Wr.w, twW, be_both, j1, j2, e1, e2, a1, a2, a3, a4, sz, -add_ss]
    | true =>
      have a2 := add_Sl (t := "|") (a := [40] ++ x.t) (b := [twC true]) (by decide +kernel) (by simp; omega)
      generalize (Wr.two true x y).t = T at *
      generalize [40] ++ x.t ++ [twC true] ++ y.t = T4 at *
      generalize [40] ++ x.t ++ [twC true] = T3 at *
      generalize [40] ++ x.t = T2 at *
      simp [Wr.w, twW, be_either, j1, j2, e1, e2, a1, a2, a3, a4, sz, -add_ss]
end P

-- LbTx7
/-! Wheres and their texts: plain_in. -/
namespace P
open PySem Pf
open SX (S)
theorem spl_mem (c : Nat) : ∀ (l acc : List Nat), ∀ p ∈ TL.spl [c] 0 acc l, (∀ x ∈ p, x ∈ acc ∨ x ∈ l) ∧ p.length ≤ acc.length + l.length
  | [], acc, p, hp => by
    rw [TL.spl_nil] at hp
    rw [List.mem_singleton.mp hp]
    exact ⟨fun x hx => .inl hx, by omega⟩
  | d :: r, acc, p, hp => by
    by_cases h : TL.pre [c] (d :: r) = true
    · rw [TL.spl_hit h] at hp
      rcases List.mem_cons.mp hp with rfl | hp
      · exact ⟨fun x hx => .inl hx, by omega⟩
      · have := spl_mem c r [] p hp
        refine ⟨fun x hx => .inr ?_, by simp at this ⊢; omega⟩
        rcases this.1 x hx with z | z
        · cases z
        · exact List.mem_cons_of_mem _ z
    · rw [TL.spl_miss (by simpa using h)] at hp
      have := spl_mem c r (acc ++ [d]) p hp
      refine ⟨fun x hx => ?_, by simp at this ⊢; omega⟩
      rcases this.1 x hx with z | z
      · rcases List.mem_append.mp z with z | z
        · exact .inl z
        · exact .inr (by rw [List.mem_singleton.mp z]; exact List.mem_cons_self)
      · exact .inr (List.mem_cons_of_mem _ z)
theorem spl_Tx {c : Nat} {l : List Nat} (h : Tx l) : ∀ p ∈ TL.spl [c] 0 [] l, Tx p := fun p hp => by
  have := spl_mem c l [] p hp
  refine h.mono (fun x hx => ?_) (by simpa using this.2)
  rcases this.1 x hx with z | z
  · cases z
  · exact z
theorem spl_len (c : Nat) : ∀ (l acc : List Nat), (TL.spl [c] 0 acc l).length ≤ l.length + 1
  | [], acc => by rw [TL.spl_nil]; simp
  | d :: r, acc => by
    by_cases h : TL.pre [c] (d :: r) = true
    · rw [TL.spl_hit h]
      have := spl_len c r []
      simp at this ⊢
      exact this
    · rw [TL.spl_miss (by simpa using h)]
      have := spl_len c r (acc ++ [d])
      simp at this ⊢
      omega
theorem split_W {l : List Nat} (h : Tx l) (c : Nat) (hc : c < 256) {t : String} (ht : Str.ofString t = S [c]) : W.meth (.str (S l)) "split" [.str (Str.ofString t)] = some (.o (.lst ((TL.spl [c] 0 [] l).map fun w => .str (S w)))) := by
  have e : Txt.split (S l) (S [c]) = (TL.spl [c] 0 [] l).map S := SX.split_S (by simp) (by simpa using hc)
  rw [ht, meth_split, if_pos ⟨by rw [SX.S_len]; simp, by rw [SX.S_len]; have := h.2; unfold sizeLine; omega⟩, e, List.map_map]
  rfl
theorem isIn_2 {a x y : List Nat} {s t : String} (ha : Tx a) (hs : Str.ofString s = S x) (ht : Str.ofString t = S y) (hw : (W.tup [.str (Str.ofString s), .str (Str.ofString t)]).shp = true) : W.isIn (.str (S a)) (.tup [.str (Str.ofString s), .str (Str.ofString t)]) = some (decide (a = x ∨ a = y)) := by
  rw [isIn_td (x := .str (S a)) (S_ok ha) hw]
  simp only [List.any_cons, List.any_nil, eqv_ls, Bool.or_false]
  congr 1
  rw [Bool.eq_iff_iff]
  simp only [Bool.or_eq_true, decide_eq_true_eq]
  rw [eq_S hs, eq_S ht]
theorem nd_a {a : List Nat} (ha : Tx a) : W.isIn (.str (S a)) tND = some (decide (a = cNum ∨ a = cDays)) := isIn_2 ha S_num.symm S_days.symm (by decide +kernel)
theorem spent_S : ("spent" : Str) = S cSpent := by decide +kernel
theorem plainP_BA {a : List Nat} (h : a = cBuyer ∨ a = cAll) : ∀ r : List (List Nat), plainP (a :: r) = .tup (.str (S a) :: r.map fun x => .str (S x))
  | [] => by show (if a = cBuyer ∨ a = cAll then _ else _) = _; exact if_pos h
  | [b] => by
    have : ¬ (a = cNum ∨ a = cDays) := by rcases h with rfl | rfl <;> decide
    unfold plainP
    dsimp only
    rw [if_neg this]
    exact if_pos h
  | [b, c] => by show (if a = cBuyer ∨ a = cAll then _ else _) = _; exact if_pos h
  | [b, c, d] => by
    have : ¬ a = cSpent := by rcases h with rfl | rfl <;> decide
    unfold plainP
    dsimp only
    rw [if_neg this]
    exact if_pos h
  | b :: c :: d :: e :: r => by show (if a = cBuyer ∨ a = cAll then _ else _) = _; exact if_pos h
theorem plainP_no {a : List Nat} (h : ¬ (a = cBuyer ∨ a = cAll)) : ∀ r : List (List Nat), (a = cNum ∨ a = cDays → r.length ≠ 1) → (a = cSpent → r.length ≠ 3) → plainP (a :: r) = .non
  | [], _, _ => by show (if a = cBuyer ∨ a = cAll then _ else _) = _; rw [if_neg h]
  | [b], h1, _ => by
    unfold plainP
    dsimp only
    rw [if_neg fun z => h1 z rfl, if_neg h]
  | [b, c], _, _ => by show (if a = cBuyer ∨ a = cAll then _ else _) = _; rw [if_neg h]
  | [b, c, d], _, h2 => by
    unfold plainP
    dsimp only
    rw [if_neg fun z => h2 z rfl, if_neg h]
  | b :: c :: d :: e :: r, _, _ => by show (if a = cBuyer ∨ a = cAll then _ else _) = _; rw [if_neg h]
theorem plain_in {C : Nat → Orc} (hn : H_number_in C) (h : H_plain_in C) (k : Nat) {l : List Nat} (hl : Tx l) : C (k + 2) "plain_in" [.d (.str (S l))] = .ret (.d (plainIn l)) [.d (.str (S l))] := by
  rw [h]
  unfold b_plain_in
  have e1 := split_W hl 58 (by decide) (t := ":") (by decide +kernel)
  have hp := spl_Tx (c := 58) hl
  have hne := spl_ne 58 l []
  have hlen := spl_len 58 l []
  have hl2 := hl.2
  unfold plainIn words
  generalize TL.spl [58] 0 [] l = ws at e1 hp hne hlen ⊢
  obtain ⟨a, r, rfl⟩ : ∃ a r, ws = a :: r := by
    cases ws with
    | nil => exact absurd rfl hne
    | cons a r => exact ⟨a, r, rfl⟩
  have ha := hp a (by simp)
  have en := nd_a ha
  have es := isEq_S ha (m := cSpent) (t := "spent") spent_S
  have eb := isEq_S ha (m := cBuyer) (t := "buyer") S_buyer.symm
  have ea := isEq_S ha (m := cAll) (t := "all") S_all.symm
  have hsz : r.length + 1 ≤ 16777216 := by simp at hlen; omega
  rw [List.map_cons] at e1
  by_cases hBA : a = cBuyer ∨ a = cAll
  · have x1 : ¬ (a = cNum ∨ a = cDays) := by rcases hBA with rfl | rfl <;> decide
    have x2 : ¬ a = cSpent := by rcases hBA with rfl | rfl <;> decide
    rw [plainP_BA hBA]
    rw [decide_eq_false x1] at en
    rw [decide_eq_false x2] at es
    by_cases hB : a = cBuyer
    · rw [decide_eq_true hB] at eb
      simp [e1, en, es, eb, sz, -meth_split]
    · have hA : a = cAll := hBA.resolve_left hB
      rw [decide_eq_true hA] at ea
      rw [decide_eq_false hB] at eb
      simp [e1, en, es, eb, ea, sz, -meth_split]
  have nB : ¬ a = cBuyer := fun z => hBA (.inl z)
  have nA : ¬ a = cAll := fun z => hBA (.inr z)
  rw [decide_eq_false nB] at eb
  rw [decide_eq_false nA] at ea
  by_cases hN : a = cNum ∨ a = cDays
  · have x2 : ¬ a = cSpent := by rcases hN with rfl | rfl <;> decide
    rw [decide_eq_true hN] at en
    rw [decide_eq_false x2] at es
    by_cases hr : r.length = 1
    · obtain ⟨b, rfl⟩ := List.length_eq_one_iff.mp hr
      have hb := hp b (by simp)
      have e2 := split_W hb 45 (by decide) (t := "-") (by decide +kernel)
      have hp2 := spl_Tx (c := 45) hb
      have hne2 := spl_ne 45 b []
      have hlen2 := spl_len 45 b []
      have hb2 := hb.2
      have j21 : ixOf 2 1 = some 1 := rfl
      generalize eu : TL.spl [45] 0 [] b = us at e2 hp2 hne2 hlen2 ⊢
      match us, hne2 with
      | [x], _ =>
        have eP : plainP [a, b] = .non := by
          unfold plainP
          dsimp only
          rw [if_pos hN, eu]
        rw [eP]
        simp [e1, en, es, eb, ea, e2, sz, j21, -meth_split]
      | x :: y :: z :: r, _ =>
        have eP : plainP [a, b] = .non := by
          unfold plainP
          dsimp only
          rw [if_pos hN, eu]
        rw [eP]
        have hz : ¬ ((r.length : Int) + 1 + 1 + 1 = 2) := by omega
        simp [e1, en, es, eb, ea, e2, sz, j21, hz, -meth_split]
      | [x, y], _ =>
        have hx := hp2 x (by simp)
        have hy := hp2 y (by simp)
        have n1 := number_in hn k hx
        have n2 := number_in hn k hy
        have ey := isEq_S hy (m := []) (t := "") (by decide +kernel)
        by_cases hy0 : y = []
        · have eP : plainP [a, b] = .tup [.str (S a), oN (numIn x), .non] := by
            unfold plainP
            dsimp only
            rw [if_pos hN, eu]
            exact if_pos hy0
          rw [eP]
          rw [decide_eq_true hy0] at ey
          simp [e1, en, es, eb, ea, e2, sz, j21, n1, ey, k1_plain_in, -meth_split]
        · rw [decide_eq_false hy0] at ey
          have eP : plainP [a, b] = (match numIn y with
              | some n => .tup [.str (S a), oN (numIn x), .int (n : Nat)]
              | none => .non) := by
            unfold plainP
            dsimp only
            rw [if_pos hN, eu]
            exact if_neg hy0
          rw [eP]
          cases hv : numIn y with
          | none =>
            rw [hv] at n2
            replace n2 : C (k + 1) "number_in" [.d (.str (S y))] = .ret (.d .non) [.d (.str (S y))] := n2
            simp [e1, en, es, eb, ea, e2, sz, j21, n1, n2, ey, k1_plain_in, -meth_split]
          | some u =>
            rw [hv] at n2
            replace n2 : C (k + 1) "number_in" [.d (.str (S y))] = .ret (.d (.int (u : Nat))) [.d (.str (S y))] := n2
            simp [e1, en, es, eb, ea, e2, sz, j21, n1, n2, ey, k1_plain_in, -meth_split]
    · rw [plainP_no hBA r (fun _ => hr) (fun z => absurd z x2)]
      have hr' : ¬ ((r.length : Int) + 1 = 2) := by omega
      simp [e1, en, es, eb, ea, sz, hr', -meth_split]
  rw [decide_eq_false hN] at en
  by_cases hS : a = cSpent
  · rw [decide_eq_true hS] at es
    by_cases hr : r.length = 3
    · obtain ⟨b, c, d, rfl⟩ : ∃ b c d, r = [b, c, d] := by
        match r, hr with
        | [b, c, d], _ => exact ⟨b, c, d, rfl⟩
      have n1 := number_in hn k (hp c (by simp))
      have n2 := number_in hn k (hp d (by simp))
      have j1 : ixOf 4 1 = some 1 := rfl
      have j2 : ixOf 4 2 = some 2 := rfl
      have j3 : ixOf 4 3 = some 3 := rfl
      have eP : plainP [a, b, c, d] = .tup [.str "spent", .str (S b), oN (numIn c), oN (numIn d)] := by
        unfold plainP
        dsimp only
        rw [if_pos hS]
      rw [eP]
      simp [e1, en, es, eb, ea, sz, j1, j2, j3, n1, n2, -meth_split]
    · rw [plainP_no hBA r (fun z => absurd z hN) (fun _ => hr)]
      have hr' : ¬ ((r.length : Int) + 1 = 4) := by omega
      simp [e1, en, es, eb, ea, sz, hr', -meth_split]
  · rw [decide_eq_false hS] at es
    rw [plainP_no hBA r (fun z => absurd z hN) (fun z => absurd z hS)]
    simp [e1, en, es, eb, ea, sz, -meth_split]
end P

-- LbTx8
/-! Wheres and their texts: parted, where_in, read_where. -/
namespace P
open PySem Pf
open SX (S)
theorem enumL_get (ws : List W) (i : Nat) : (enumL ws)[i]? = (ws[i]?).map fun w => .tup [.int (i : Nat), w] := by
  unfold enumL
  rw [List.getElem?_map, List.getElem?_zipIdx]
  cases ws[i]? <;> simp
theorem enumL_len (ws : List W) : (enumL ws).length = ws.length := by unfold enumL; simp
abbrev chs (l : List Nat) : List W := l.map fun c => .str ⟨#[c]⟩
theorem enum_at {l : List Nat} {pre post : List W} {w : W} (h : enumL (chs l) = pre ++ w :: post) : ∃ c rest, w = .tup [.int (pre.length : Nat), .str ⟨#[c]⟩] ∧ l.drop pre.length = c :: rest ∧ l.drop (pre.length + 1) = rest := by
  have h1 : (enumL (chs l))[pre.length]? = some w := by rw [h, List.getElem?_append_right (Nat.le_refl _), Nat.sub_self]; rfl
  rw [enumL_get, List.getElem?_map] at h1
  cases e : l[pre.length]? with
  | none => rw [e] at h1; cases h1
  | some c =>
    rw [e] at h1
    obtain ⟨hi, hc⟩ := List.getElem?_eq_some_iff.mp e
    exact ⟨c, l.drop (pre.length + 1), (Option.some.inj h1).symm, by rw [List.drop_eq_getElem_cons hi, hc], rfl⟩
theorem amp_mem (c : Nat) : (c ∈ ("&|" : Str).cps) ↔ (c = 38 ∨ c = 124) := by
  have e : ("&|" : Str).cps.toList = [38, 124] := by decide +kernel
  rw [← Array.mem_toList_iff, e]
  simp
theorem parted {C : Nat → Orc} (h : H_parted C) (k : Nat) {l : List Nat} (hl : Tx l) : C (k + 1) "parted" [.d (.str (S l))] = .ret (.d (match part l 0 0 with | some i => .int (i : Nat) | none => .non)) [.d (.str (S l))] := by
  rw [h]
  unfold b_parted
  have loop := forS_ok0 (ρ := [.d (.str (S l)), .d (.int 0), .e, .e]) (ρ1 := [.d (.str (S l)), .d (.int 0), .e, .e]) (lk := [0]) (it := itEnum (plS [(plName 0)])) (xs := enumL (chs l)) (tg := tgTup [tgName 1 [0] 2, tgName 1 [0] 3])
    (body := blkS [ifE (tstE (cmpE .Eq (plName 3) (plE (cst (.str "("))))) (blkS [actS (augS 1 [0] 1 .Add (plE (cst (.int 1))))]) (blkS [ifE (tstE (cmpE .Eq (plName 3) (plE (cst (.str ")"))))) (blkS [actS (augS 1 [0] 1 .Sub (plE (cst (.int 1))))]) (blkS [ifE (andT [(tstE (cmpE .In (plName 3) (plE (cst (.str "&|"))))), (tstE (cmpE .Eq (plName 1) (plE (cst (.int 1)))))]) (blkS [retS (moveE 1 2)]) (blkS [])])])])
    (by simp [S_cps]) (fun pre ρ => ∃ (d : Int) (s2 s3 : Sl), ρ = [.d (.str (S l)), .d (.int d), s2, s3] ∧ part l 0 0 = part (l.drop pre.length) d pre.length)
    (fun f ρ => ∃ (i : Nat) (r : Pf.Env), f = .rt (.d (.int (i : Nat))) ∧ part l 0 0 = some i ∧ ρ = .d (.str (S l)) :: r) (fun _ _ => False) (by
      rintro pre w post ρ e ⟨d, s2, s3, rfl, hp⟩
      obtain ⟨c, rest, rfl, hd, hd1⟩ := enum_at e
      have hc : c < 128 := hl.1 c (List.mem_of_mem_drop (i := pre.length) (by rw [hd]; exact List.mem_cons_self))
      have e1 := isEq_c hc 40 "(" (by decide +kernel)
      have e2 := isEq_c hc 41 ")" (by decide +kernel)
      rw [hd] at hp
      replace hp : part l 0 0 = (if c = 40 then part rest (d + 1) (pre.length + 1) else if c = 41 then part rest (d - 1) (pre.length + 1) else if (c = 38 ∨ c = 124) ∧ d = 1 then some pre.length else part rest d (pre.length + 1)) := hp
      rw [List.length_append, List.length_singleton, hd1]
      by_cases h1 : c = 40
      · rw [if_pos h1] at hp
        rw [decide_eq_true h1] at e1
        exact .inl ⟨[.d (.str (S l)), .d (.int (d + 1)), .d (.int (pre.length : Nat)), .d (.str ⟨#[c]⟩)], by simp [e1, augW], d + 1, _, _, rfl, hp⟩
      rw [if_neg h1] at hp
      rw [decide_eq_false h1] at e1
      by_cases h2 : c = 41
      · rw [if_pos h2] at hp
        rw [decide_eq_true h2] at e2
        exact .inl ⟨[.d (.str (S l)), .d (.int (d - 1)), .d (.int (pre.length : Nat)), .d (.str ⟨#[c]⟩)], by simp [e1, e2, augW], d - 1, _, _, rfl, hp⟩
      rw [if_neg h2] at hp
      rw [decide_eq_false h2] at e2
      by_cases h3 : (c = 38 ∨ c = 124)
      · by_cases h4 : d = 1
        · rw [if_pos ⟨h3, h4⟩] at hp
          exact .inr (.inr (.inr (.inl ⟨.d (.int (pre.length : Nat)), [.d (.str (S l)), .d (.int d), .d (.int (pre.length : Nat)), .d (.str ⟨#[c]⟩)], by simp [e1, e2, amp_mem, h3, h4], pre.length, _, rfl, hp, rfl⟩)))
        · rw [if_neg (fun z => h4 z.2)] at hp
          exact .inl ⟨[.d (.str (S l)), .d (.int d), .d (.int (pre.length : Nat)), .d (.str ⟨#[c]⟩)], by simp [e1, e2, amp_mem, h3, h4], d, _, _, rfl, hp⟩
      · rw [if_neg (fun z => h3 z.1)] at hp
        exact .inl ⟨[.d (.str (S l)), .d (.int d), .d (.int (pre.length : Nat)), .d (.str ⟨#[c]⟩)], by simp [e1, e2, amp_mem, h3], d, _, _, rfl, hp⟩)
    ⟨0, .e, .e, rfl, rfl⟩
  rcases loop with ⟨ρ', h1, d, s2, s3, rfl, hp⟩ | ⟨f, ρ', h1, i, r, rfl, hp, rfl⟩ | ⟨_, _, _, z⟩
  · have hn : part l 0 0 = none := by
      rw [hp, enumL_len, List.length_map, List.drop_length]
      rfl
    rw [hn]
    have h2 : l1_parted (C k) [.d (.str (S l)), .d (.int 0), .e, .e] = .ok .nx [.d (.str (S l)), .d (.int d), s2, s3] := h1
    simp [h2]
  · rw [hp]
    have h2 : l1_parted (C k) [.d (.str (S l)), .d (.int 0), .e, .e] = .ok (.rt (.d (.int (i : Nat)))) (.d (.str (S l)) :: r) := h1
    simp [h2]
  · exact z.elim
/-! ### slices -/
theorem cutS_S (l : List Nat) (lo hi : Option Int) : L2.cutS (S l) lo hi = S (cutL l lo hi) := by
  unfold L2.cutS cutL
  rw [S_cps, SX.S_len]
theorem slice_S {l : List Nat} (h : l.length ≤ 16777216) (lo hi : Option Int) : W.slice (.str (S l)) lo hi = some (.d (.str (S (cutL l lo hi)))) := by
  rw [slice_s, if_pos (by rw [SX.S_len]; exact h), cutS_S]
theorem cut_01 (l : List Nat) : cutL l none (some 1) = l.take 1 := cut_to (by decide)
theorem cut_1 (l : List Nat) : cutL l (some 1) none = l.tail := by
  rw [cut_from (by decide)]
  simp
theorem cut_1n (l : List Nat) (i : Nat) : cutL l (some 1) (some (i : Int)) = (l.take i).drop 1 := by
  unfold cutL
  rw [show (some 1 : Option Int) = some ((1 : Nat) : Int) from rfl, HT.sIx_nat, HT.sIx_nat]
  cases l with
  | nil => simp
  | cons c r =>
    have e1 : min 1 (c :: r).length = 1 := by simp
    rw [e1]
    cases i with
    | zero => simp
    | succ i =>
      simp [List.take_eq_take_iff]
theorem cut_nm (l : List Nat) (i : Nat) (hi : i ≤ l.length) (hl : 1 ≤ l.length) : cutL l (some (i : Int)) (some (-1)) = (l.drop i).take (l.length - 1 - i) := by
  unfold cutL
  rw [HT.sIx_nat]
  have e : HT.sIx l.length l.length (some (-1)) = l.length - 1 := by
    unfold HT.sIx
    simp
    omega
  rw [e, Nat.min_eq_left hi]
theorem head1 {l : List Nat} {c : Nat} : l.take 1 = [c] ↔ l.head? = some c := by
  cases l with
  | nil => simp
  | cons a r => simp
theorem Tx_take {l : List Nat} (h : Tx l) (i : Nat) : Tx (l.take i) := h.mono (fun c hc => List.mem_of_mem_take hc) (by rw [List.length_take]; omega)
theorem Tx_drop {l : List Nat} (h : Tx l) (i : Nat) : Tx (l.drop i) := h.mono (fun c hc => List.mem_of_mem_drop hc) (by rw [List.length_drop]; omega)
theorem Tx_tail {l : List Nat} (h : Tx l) : Tx l.tail := h.mono (fun c hc => List.mem_of_mem_tail hc) (by rw [List.length_tail]; omega)
theorem item_at {l : List Nat} (h : l.length ≤ 16777216) {i c : Nat} (hc : l[i]? = some c) : itemW (.str (S l)) (.int (i : Nat)) = some (.d (.str ⟨#[c]⟩)) := by
  rw [itemW_s, if_pos (by rw [SX.S_len]; exact h), S_cps]
  obtain ⟨hi, _⟩ := List.getElem?_eq_some_iff.mp hc
  rw [ixOf_lt (by omega) (by omega)]
  show ((l[((i : Nat) : Int).toNat]?).map fun c => W.str ⟨#[c]⟩).map Sl.d = _
  rw [Int.toNat_natCast, hc]
  rfl
theorem item_last {l : List Nat} (h : l.length ≤ 16777216) {c : Nat} (hc : l.getLast? = some c) : itemW (.str (S l)) (.int (-1)) = some (.d (.str ⟨#[c]⟩)) := by
  rw [itemW_s, if_pos (by rw [SX.S_len]; exact h), S_cps]
  have hp : 0 < l.length := by
    cases l with
    | nil => cases hc
    | cons a r => simp
  have e : ixOf l.length (-1) = some (l.length - 1) := by
    unfold ixOf
    rw [if_neg (by decide), if_pos (by omega)]
    congr 1
    omega
  rw [e]
  show ((l[l.length - 1]?).map fun c => W.str ⟨#[c]⟩).map Sl.d = _
  rw [← List.getLast?_eq_getElem?, hc]
  rfl
theorem where_in {C : Nat → Orc} (hn : H_number_in C) (hp : H_plain_in C) (hq : H_parted C) (h : H_where_in C) : ∀ (n k : Nat) {l : List Nat}, Tx l → C (k + n + 3) "where_in" [.d (.str (S l)), .d (.int (n : Nat))] = .ret (.d (pIn n l)) [.d (.str (S l)), .d (.int (n : Nat))] := by
  intro n
  induction n with
  | zero =>
    intro k l hl
    rw [show k + 0 + 3 = (k + 2) + 1 by omega, h]
    unfold b_where_in
    simp [pIn]
  | succ n ih =>
    intro k l hl
    rw [show k + (n + 1) + 3 = (k + n + 3) + 1 by omega, h]
    unfold b_where_in
    have hsz := Txl hl
    have hn0 : ¬ ((n : Int) + 1 = 0) := by omega
    have hn1 : (n : Int) + 1 - 1 = n := by omega
    have s1 := slice_S hsz none (some 1)
    rw [cut_01] at s1
    have s2 := slice_S hsz (some 1) none
    rw [cut_1] at s2
    have e1 := isEq_S (Tx_take hl 1) (m := [33]) (t := "!") (by decide +kernel)
    have e2 := isEq_S (Tx_take hl 1) (m := [40]) (t := "(") (by decide +kernel)
    unfold pIn
    by_cases h1 : l.head? = some 33
    · rw [if_pos h1]
      rw [decide_eq_true (head1.mpr h1)] at e1
      have r1 := ih k (Tx_tail hl)
      simp [hn0, hn1, s1, s2, e1, r1, sz, -slice_s]
    rw [if_neg h1]
    rw [decide_eq_false (fun z => h1 (head1.mp z))] at e1
    by_cases h2 : l.head? = some 40
    · rw [if_pos h2]
      rw [decide_eq_true (head1.mpr h2)] at e2
      have r1 := parted hq (k + n + 2) hl
      rw [show k + n + 2 + 1 = k + n + 3 by omega] at r1
      cases ep : part l 0 0 with
      | none =>
        rw [ep] at r1
        replace r1 : C (k + n + 3) "parted" [.d (.str (S l))] = .ret (.d .non) [.d (.str (S l))] := r1
        simp [hn0, hn1, s1, s2, e1, e2, r1, sz, -slice_s]
      | some i =>
        rw [ep] at r1
        replace r1 : C (k + n + 3) "parted" [.d (.str (S l))] = .ret (.d (.int (i : Nat))) [.d (.str (S l))] := r1
        dsimp only
        obtain ⟨c, hcl⟩ : ∃ c, l.getLast? = some c := by
          cases l with
          | nil => cases h2
          | cons a r => exact ⟨_, List.getLast?_cons⟩
        have hc : c < 128 := hl.1 c (List.mem_of_getLast? hcl)
        have il := item_last hsz hcl
        have e3 := isEq_c hc 41 ")" (by decide +kernel)
        by_cases h3 : c = 41
        · rw [if_neg (by rw [hcl, h3]; exact fun z => z rfl)]
          rw [decide_eq_true h3] at e3
          obtain ⟨_, hs⟩ := part_at l 0 0 i ep
          rw [Nat.sub_zero] at hs
          obtain ⟨d, hd⟩ : ∃ d, l[i]? = some d := by rcases hs with z | z <;> exact ⟨_, z⟩
          obtain ⟨hi, _⟩ := List.getElem?_eq_some_iff.mp hd
          have hd1 : d < 128 := hl.1 d (List.mem_of_getElem? hd)
          have ia := item_at hsz hd
          have e4 := isEq_c hd1 38 "&" (by decide +kernel)
          have s3 := slice_S hsz (some 1) (some (i : Int))
          rw [cut_1n] at s3
          have s4 : W.slice (.str (S l)) (some ((i : Int) + 1)) (some (-1)) = some (.d (.str (S ((l.drop (i + 1)).take (l.length - 1 - (i + 1)))))) := by
            rw [show (i : Int) + 1 = ((i + 1 : Nat) : Int) by omega, slice_S hsz, cut_nm l (i + 1) (by omega) (by omega)]
          have r2 := ih k (Tx_drop (Tx_take hl i) 1)
          have r3 := ih k (Tx_take (Tx_drop hl (i + 1)) (l.length - 1 - (i + 1)))
          generalize hA : (l.take i).drop 1 = A at *
          generalize hB : (l.drop (i + 1)).take (l.length - 1 - (i + 1)) = B at *
          by_cases h4 : d = 38
          · rw [decide_eq_true h4] at e4
            rw [if_pos (by rw [hd, h4])]
            simp [hn0, hn1, s1, s2, e1, e2, r1, il, e3, ia, e4, s3, s4, r2, r3, k1_where_in, sz, -slice_s]
          · rw [decide_eq_false h4] at e4
            rw [if_neg (by rw [hd]; exact fun z => h4 (Option.some.inj z))]
            simp [hn0, hn1, s1, s2, e1, e2, r1, il, e3, ia, e4, s3, s4, r2, r3, k1_where_in, sz, -slice_s]
        · rw [if_pos (by rw [hcl]; exact fun z => h3 (Option.some.inj z))]
          rw [decide_eq_false h3] at e3
          simp [hn0, hn1, s1, s2, e1, e2, r1, il, e3, sz, -slice_s]
    · rw [if_neg h2]
      rw [decide_eq_false (fun z => h2 (head1.mp z))] at e2
      have r1 := plain_in hn hp (k + n + 1) hl
      rw [show k + n + 1 + 2 = k + n + 3 by omega] at r1
      simp [hn0, hn1, s1, s2, e1, e2, r1, sz, -slice_s]
end P

-- LbTx9
/-! Wheres and their texts: the law's reader. -/
namespace P
open PySem Pf
open SX (S)
theorem count_S (b : List Nat) : Txt.count (S b) (S [45]) + 1 = ((TL.spl [45] 0 [] b).length : Nat) := by
  have e : Txt.split (S b) (S [45]) = (TL.spl [45] 0 [] b).map S := SX.split_S (by simp) (by decide)
  have el := congrArg List.length e
  rw [List.length_map] at el
  rw [← el]
  cases b with
  | nil => decide +kernel
  | cons c r =>
    have h1 : (decide ((S (c :: r)).length < (S [45]).length) || decide (Builtin.Str.strKind (S (c :: r)) < Builtin.Str.strKind (S [45]))) = false := by
      rw [Bool.or_eq_false_iff]
      refine ⟨decide_eq_false (by rw [SX.S_len, SX.S_len]; simp), decide_eq_false (TL.kind_ok (SX.all256 (by decide)))⟩
    unfold Txt.split Txt.count
    rw [h1, if_neg (by decide)]
    split
    · rename_i h
      have := List.isEmpty_iff.mp h
      rw [this]
      rfl
    · simp [Builtin.Str.partsBetween]
theorem minOf_of {ns : List Int} {e : Int} (he : e ∈ ns) (hl : ∀ y ∈ ns, e ≤ y) : minOf ns = some e := by
  unfold minOf
  cases q : ns.find? fun m => ns.all fun y => decide (m ≤ y) with
  | none =>
    have := List.find?_eq_none.mp q e he
    exact absurd (List.all_eq_true.mpr fun y hy => decide_eq_true (hl y hy)) this
  | some m =>
    have h1 := List.find?_some q
    have h2 := List.mem_of_find?_eq_some q
    have h3 := of_decide_eq_true (List.all_eq_true.mp h1 e he)
    have h4 := hl m h2
    rw [show m = e by omega]
def pre (l : List Nat) : List Nat := l.takeWhile fun c => !spc c
def suf (l : List Nat) : List Nat := l.dropWhile fun c => !spc c
theorem pre_suf (l : List Nat) : pre l ++ suf l = l := List.takeWhile_append_dropWhile
theorem take_pre (l : List Nat) : l.take (pre l).length = pre l := by
  have h := pre_suf l
  generalize pre l = p at *
  generalize suf l = s at *
  subst h
  exact List.take_left
theorem drop_pre (l : List Nat) : l.drop (pre l).length = suf l := by
  have h := pre_suf l
  generalize pre l = p at *
  generalize suf l = s at *
  subst h
  exact List.drop_left
theorem pre_le (l : List Nat) : (pre l).length ≤ l.length := by
  have := congrArg List.length (pre_suf l)
  rw [List.length_append] at this
  omega
theorem pre_not {l : List Nat} {i c : Nat} (hi : i < (pre l).length) (hc : l[i]? = some c) : spc c = false := by
  have h1 : (pre l)[i]? = some c := by
    rw [← take_pre l, List.getElem?_take, if_pos hi, hc]
  have h2 : c ∈ pre l := List.mem_of_getElem? h1
  have h3 : ∀ (l : List Nat), ∀ c ∈ l.takeWhile (fun c => !spc c), spc c = false := by
    intro l
    induction l with
    | nil => intro c hc; cases hc
    | cons a r ih =>
      intro c hc
      rw [List.takeWhile_cons] at hc
      split at hc
      · rename_i ha
        rcases List.mem_cons.mp hc with rfl | hc
        · simpa using ha
        · exact ih c hc
      · cases hc
  exact h3 l c h2
theorem suf_head {l : List Nat} {c : Nat} (h : (suf l).head? = some c) : spc c = true := by
  have : ∀ (l : List Nat) c, (l.dropWhile (fun c => !spc c)).head? = some c → spc c = true := by
    intro l
    induction l with
    | nil => intro c h; cases h
    | cons a r ih =>
      intro c h
      rw [List.dropWhile_cons] at h
      split at h
      · exact ih c h
      · rename_i ha
        have : a = c := Option.some.inj h
        subst this
        simpa using ha
  exact this l c h
theorem spc_mem (c : Nat) : (c ∈ ("&|()!" : Str).cps) ↔ spc c = true := by
  have e : ("&|()!" : Str).cps.toList = [38, 124, 40, 41, 33] := by decide +kernel
  rw [← Array.mem_toList_iff, e]
  unfold spc
  simp
/-- the places of signs that are special -/
def sps (l : List Nat) : List Nat := (List.range l.length).filter fun i => spc (l.getD i 0)
theorem end_min (l : List Nat) : minOf ((l.length : Int) :: (sps l).map fun i => ((i : Nat) : Int)) = some ((pre l).length : Nat) := by
  apply minOf_of
  · cases e : suf l with
    | nil =>
      have h := pre_suf l
      rw [e, List.append_nil] at h
      rw [h]
      exact List.mem_cons_self
    | cons c r =>
      have hc := suf_head (l := l) (c := c) (by rw [e]; rfl)
      have h := pre_suf l
      have hl : (pre l).length < l.length := by
        have := congrArg List.length h
        rw [e, List.length_append, List.length_cons] at this
        omega
      refine List.mem_cons_of_mem _ (List.mem_map.mpr ⟨(pre l).length, List.mem_filter.mpr ⟨List.mem_range.mpr hl, ?_⟩, rfl⟩)
      have : l[(pre l).length]? = some c := by
        have h2 := drop_pre l
        rw [e] at h2
        have := congrArg (·[0]?) h2
        rw [List.getElem?_drop] at this
        simpa using this
      rw [List.getD_eq_getElem?_getD, this]
      exact hc
  · intro y hy
    rcases List.mem_cons.mp hy with rfl | hy
    · have := pre_le l; omega
    · obtain ⟨i, hi, rfl⟩ := List.mem_map.mp hy
      obtain ⟨h1, h2⟩ := List.mem_filter.mp hi
      have h1 := List.mem_range.mp h1
      by_cases h : (pre l).length ≤ i
      · omega
      · obtain ⟨c, hc⟩ : ∃ c, l[i]? = some c := ⟨_, List.getElem?_eq_getElem h1⟩
        have := pre_not (by omega) hc
        rw [List.getD_eq_getElem?_getD, hc] at h2
        rw [show (some c).getD 0 = c from rfl, this] at h2
        cases h2
theorem amp_S : ("&" : Str) = S [38] := by decide +kernel
theorem bar_S : ("|" : Str) = S [124] := by decide +kernel
theorem dict_get {s : List Nat} (h : Tx s) : getW (.dct false (mergeW [] [(.str "&", .str "both"), (.str "|", .str "either")])) [.str (S (s.take 1)), .str "none"] = some (.d (.str (wordOf s))) := by
  have e1 : W.eqv (.str "&") (.str "|") = false := by decide +kernel
  have em : mergeW [] [(W.str "&", W.str "both"), (.str "|", .str "either")] = [(.str "&", .str "both"), (.str "|", .str "either")] := by
    simp [mergeW, putW, hasW, e1]
  rw [em, getW_2, if_pos (show W.keyOk false (.str (S (s.take 1))) = true from rfl)]
  have k1 : W.eqv (.str "&") (.str (S (s.take 1))) = decide (s.head? = some 38) := by
    rw [eqv_ls, Bool.eq_iff_iff, decide_eq_true_eq, decide_eq_true_eq, eq_S amp_S, head1]
  have k2 : W.eqv (.str "|") (.str (S (s.take 1))) = decide (s.head? = some 124) := by
    rw [eqv_ls, Bool.eq_iff_iff, decide_eq_true_eq, decide_eq_true_eq, eq_S bar_S, head1]
  unfold valW wordOf
  simp only [List.find?_cons, k1, k2, List.find?_nil]
  by_cases c1 : s.head? = some 38
  · rw [decide_eq_true c1, if_pos c1]; rfl
  · rw [decide_eq_false c1, if_neg c1]
    by_cases c2 : s.head? = some 124
    · rw [decide_eq_true c2, if_pos c2]; rfl
    · rw [decide_eq_false c2, if_neg c2]; rfl
def ops (l : List Nat) : Nat := l.countP fun c => decide (c = 33) || decide (c = 40)
theorem bIn_suf : ∀ (n : Nat) (l : List Nat), (bIn n l).2 <:+ l
  | 0, l => List.nil_suffix
  | n + 1, l => by
    unfold bIn
    split
    · exact (bIn_suf n l.tail).trans (List.tail_suffix l)
    · split
      · split
        · exact (List.tail_suffix _).trans ((bIn_suf n _).trans ((List.tail_suffix _).trans ((bIn_suf n l.tail).trans (List.tail_suffix l))))
        · exact List.nil_suffix
      · exact List.dropWhile_suffix _
theorem Tx_suf {l m : List Nat} (h : Tx l) (s : m <:+ l) : Tx m := h.mono (fun c hc => s.subset hc) s.length_le
theorem ops_suf {l m : List Nat} (s : m <:+ l) : ops m ≤ ops l := s.sublist.countP_le
theorem range_len {j : Nat} : rangeL 0 (j : Int) = (List.range j).map fun (i : Nat) => W.int (i : Nat) := by
  unfold rangeL
  rw [Int.sub_zero, Int.toNat_natCast]
  simp
theorem ba_a {a : List Nat} (ha : Tx a) : W.isIn (.str (S a)) (.tup [.str "all", .str "buyer"]) = some (decide (a = cAll ∨ a = cBuyer)) := isIn_2 ha S_all.symm S_buyer.symm (by decide +kernel)
theorem sps_loop {C : Orc} {l : List Nat} (hl : Tx l) (s1 s2 s3 s4 s5 s6 s8 s9 s10 : Sl) : l1__law_begin_in C [.d (.str (S l)), s1, s2, s3, s4, s5, s6, .e, s8, s9, s10] = .ok (.o (.lst ((sps l).map fun i => .int (i : Nat)))) [.d (.str (S l)), s1, s2, s3, s4, s5, s6, .e, s8, s9, s10] := by
  have hsz := Txl hl
  have hl2 := hl.2
  have hh : inHalf (l.length : Int) = true := by unfold inHalf; exact decide_eq_true (by omega)
  refine (lc_filter (ρ1 := [.d (.str (S l)), s1, s2, s3, s4, s5, s6, .e, s8, s9, s10]) (l := List.range l.length) (g := fun i => .int (i : Nat)) (f := fun i => .int (i : Nat)) (p := fun i => spc (l.getD i 0)) ?_ rfl ?_ ?_).trans rfl
  · simp -implicitDefEqProofs [SX.S_len, hsz, hh, range_len, sz]
  · rw [List.length_range]; unfold sizeLine; omega
  · intro i hi
    have hi' := List.mem_range.mp hi
    have hg : l[i]? = some (l.getD i 0) := by rw [List.getD_eq_getElem?_getD, List.getElem?_eq_getElem hi']; rfl
    have it := item_at hsz hg
    refine ⟨[.d (.str (S l)), s1, s2, s3, s4, s5, s6, .d (.int (i : Nat)), s8, s9, s10], ?_, fun _ => ⟨[.d (.str (S l)), s1, s2, s3, s4, s5, s6, .d (.int (i : Nat)), s8, s9, s10], ?_, rfl⟩, fun _ => rfl⟩
    · simp -implicitDefEqProofs [clear, it, spc_mem]
    · simp
theorem ints_nat (ns : List Nat) : intsOf (ns.map fun i => W.int (i : Nat)) = some (ns.map fun i => ((i : Nat) : Int)) := by
  induction ns with
  | nil => rfl
  | cons a r ih => simp only [List.map_cons, intsOf, ih, Option.map_some]
theorem end_min_W (l : List Nat) : W.call "min" [.lst (.int (l.length : Nat) :: (sps l).map fun i => .int (i : Nat))] = some (.d (.int ((pre l).length : Nat))) := by
  have e : intsOf (W.int (l.length : Nat) :: (sps l).map fun i => W.int (i : Nat)) = some ((l.length : Int) :: (sps l).map fun i => ((i : Nat) : Int)) := by
    simp only [intsOf, ints_nat, Option.map_some]
  rw [call_min_l, e]
  show ((minOf ((l.length : Int) :: (sps l).map fun i => ((i : Nat) : Int))).map fun m => Sl.d (W.int m)) = _
  rw [end_min]
  rfl
end P

-- LbTx10
set_option maxHeartbeats 8000000
/-! Wheres and their texts: the law's reader, run. -/
namespace P
open PySem Pf
open SX (S)
theorem cut_0n (l : List Nat) (i : Nat) : cutL l none (some (i : Int)) = l.take i := by rw [cut_to (by omega), Int.toNat_natCast]
theorem cut_n (l : List Nat) (i : Nat) : cutL l (some (i : Int)) none = l.drop i := by rw [cut_from (by omega), Int.toNat_natCast]
/-- a where without wheres in it, at a text's begin -/
theorem begin_plain {C : Nat → Orc} (hn : H__law_number_in C) (h : H__law_begin_in C) (k : Nat) {l : List Nat} (hl : Tx l) (h1 : ¬ l.head? = some 33) (h2 : ¬ l.head? = some 40) :
    C (k + 2) "_law_begin_in" [.d (.str (S l))] = .ret (.d (.tup [plainIn (pre l), .str (S (suf l))])) [.d (.str (S l))] := by
  rw [h]
  unfold b__law_begin_in
  have hsz := Txl hl
  have hlen : (S l).length = l.length := SX.S_len l
  have s1 := slice_S hsz none (some 1)
  rw [cut_01] at s1
  have e1 := isEq_S (Tx_take hl 1) (m := [33]) (t := "!") (by decide +kernel)
  have e2 := isEq_S (Tx_take hl 1) (m := [40]) (t := "(") (by decide +kernel)
  rw [decide_eq_false (fun z => h1 (head1.mp z))] at e1
  rw [decide_eq_false (fun z => h2 (head1.mp z))] at e2
  have lp := fun s1 s2 s3 s4 s5 s6 s8 s9 s10 => sps_loop (C := C (k + 1)) hl s1 s2 s3 s4 s5 s6 s8 s9 s10
  have mn := end_min_W l
  have hz1 : ((sps l).map fun i => W.int (i : Nat)).length + 1 ≤ 16777216 := by
    rw [List.length_map]
    have : (sps l).length ≤ l.length := by
      unfold sps
      have := List.length_filter_le (fun i => spc (l.getD i 0)) (List.range l.length)
      rwa [List.length_range] at this
    have := hl.2
    omega
  have s3 := slice_S hsz none (some ((pre l).length : Nat))
  rw [cut_0n, take_pre] at s3
  have s4 := slice_S hsz (some ((pre l).length : Nat)) none
  rw [cut_n, drop_pre] at s4
  have hpre : Tx (pre l) := hl.mono (fun c hc => (List.takeWhile_sublist _).subset hc) (pre_le l)
  have ew := split_W hpre 58 (by decide) (t := ":") (by decide +kernel)
  have hp := spl_Tx (c := 58) hpre
  have hne := spl_ne 58 (pre l) []
  have hln := spl_len 58 (pre l) []
  have hl2 := hl.2
  have hpl := pre_le l
  generalize (sps l).map (fun i => W.int (i : Nat)) = is at lp mn hz1
  replace hz1 : 1 + is.length ≤ 16777216 := by omega
  generalize hP : pre l = p at *
  generalize hS : suf l = sf at *
  unfold plainIn words
  generalize TL.spl [58] 0 [] p = ws at ew hp hne hln ⊢
  obtain ⟨a, r, rfl⟩ : ∃ a r, ws = a :: r := by
    cases ws with
    | nil => exact absurd rfl hne
    | cons a r => exact ⟨a, r, rfl⟩
  have ha := hp a (by simp)
  have en := nd_a ha
  have es := isEq_S ha (m := cSpent) (t := "spent") spent_S
  have eb := ba_a ha
  have hr1 : r.length + 1 ≤ 16777216 := by simp at hln; omega
  rw [List.map_cons] at ew
  by_cases hBA : a = cBuyer ∨ a = cAll
  · have x1 : ¬ (a = cNum ∨ a = cDays) := by rcases hBA with rfl | rfl <;> decide
    have x2 : ¬ a = cSpent := by rcases hBA with rfl | rfl <;> decide
    rw [plainP_BA hBA]
    rw [decide_eq_false x1] at en
    rw [decide_eq_false x2] at es
    rw [decide_eq_true (hBA.symm)] at eb
    simp [s1, e1, e2, lp, mn, hz1, s3, s4, ew, en, es, eb, hsz, hlen, sz, k2__law_begin_in, -meth_split, -slice_s, -call_min_l]
  have nBA : ¬ (a = cAll ∨ a = cBuyer) := fun z => hBA z.symm
  rw [decide_eq_false nBA] at eb
  by_cases hN : a = cNum ∨ a = cDays
  · have x2 : ¬ a = cSpent := by rcases hN with rfl | rfl <;> decide
    rw [decide_eq_true hN] at en
    rw [decide_eq_false x2] at es
    by_cases hr : r.length = 1
    · obtain ⟨b, rfl⟩ := List.length_eq_one_iff.mp hr
      have hb := hp b (by simp)
      have e3 := split_W hb 45 (by decide) (t := "-") (by decide +kernel)
      have hp2 := spl_Tx (c := 45) hb
      have hne2 := spl_ne 45 b []
      have hct := count_S b
      have hcw : W.meth (.str (S b)) "count" [.str "-"] = some (.d (.int (Txt.count (S b) (S [45])))) := by rw [dash_S]; rfl
      have j21 : ixOf 2 1 = some 1 := rfl
      generalize Txt.count (S b) (S [45]) = ct at hct hcw
      generalize eu : TL.spl [45] 0 [] b = us at e3 hp2 hne2 hct ⊢
      match us, hne2 with
      | [x], _ =>
        have eP : plainP [a, b] = .non := by
          unfold plainP
          dsimp only
          rw [if_pos hN, eu]
        rw [eP]
        have hc0 : ¬ ct = 1 := by simp at hct; omega
        simp [s1, e1, e2, lp, mn, hz1, s3, s4, ew, en, es, eb, hsz, hlen, sz, k2__law_begin_in, -meth_split, -slice_s, -call_min_l, e3, hcw, hc0, j21, -meth_count]
      | x :: y :: z :: r, _ =>
        have eP : plainP [a, b] = .non := by
          unfold plainP
          dsimp only
          rw [if_pos hN, eu]
        rw [eP]
        have hc0 : ¬ ct = 1 := by simp at hct; omega
        simp [s1, e1, e2, lp, mn, hz1, s3, s4, ew, en, es, eb, hsz, hlen, sz, k2__law_begin_in, -meth_split, -slice_s, -call_min_l, e3, hcw, hc0, j21, -meth_count]
      | [x, y], _ =>
        have hx := hp2 x (by simp)
        have hy := hp2 y (by simp)
        have n1 := law_number_in hn k hx
        have n2 := law_number_in hn k hy
        have ey := isEq_S hy (m := []) (t := "") (by decide +kernel)
        have hc1 : ct = 1 := by simp at hct; omega
        subst hc1
        by_cases hy0 : y = []
        · have eP : plainP [a, b] = .tup [.str (S a), oN (numIn x), .non] := by
            unfold plainP
            dsimp only
            rw [if_pos hN, eu]
            exact if_pos hy0
          rw [eP]
          rw [decide_eq_true hy0] at ey
          simp [s1, e1, e2, lp, mn, hz1, s3, s4, ew, en, es, eb, hsz, hlen, sz, k2__law_begin_in, -meth_split, -slice_s, -call_min_l, e3, hcw, j21, n1, ey, -meth_count]
        · rw [decide_eq_false hy0] at ey
          have eP : plainP [a, b] = (match numIn y with
              | some n => .tup [.str (S a), oN (numIn x), .int (n : Nat)]
              | none => .non) := by
            unfold plainP
            dsimp only
            rw [if_pos hN, eu]
            exact if_neg hy0
          rw [eP]
          cases hv : numIn y with
          | none =>
            rw [hv] at n2
            replace n2 : C (k + 1) "_law_number_in" [.d (.str (S y))] = .ret (.d .non) [.d (.str (S y))] := n2
            simp [s1, e1, e2, lp, mn, hz1, s3, s4, ew, en, es, eb, hsz, hlen, sz, k2__law_begin_in, -meth_split, -slice_s, -call_min_l, e3, hcw, j21, n1, n2, ey, -meth_count]
          | some u =>
            rw [hv] at n2
            replace n2 : C (k + 1) "_law_number_in" [.d (.str (S y))] = .ret (.d (.int (u : Nat))) [.d (.str (S y))] := n2
            simp [s1, e1, e2, lp, mn, hz1, s3, s4, ew, en, es, eb, hsz, hlen, sz, k2__law_begin_in, -meth_split, -slice_s, -call_min_l, e3, hcw, j21, n1, n2, ey, -meth_count]
    · rw [plainP_no hBA r (fun _ => hr) (fun z => absurd z x2)]
      have hr' : ¬ ((r.length : Int) + 1 = 2) := by omega
      simp [s1, e1, e2, lp, mn, hz1, s3, s4, ew, en, es, eb, hr', hsz, hlen, sz, k2__law_begin_in, -meth_split, -slice_s, -call_min_l]
  rw [decide_eq_false hN] at en
  by_cases hS' : a = cSpent
  · rw [decide_eq_true hS'] at es
    by_cases hr : r.length = 3
    · obtain ⟨b, c, d, rfl⟩ : ∃ b c d, r = [b, c, d] := by
        match r, hr with
        | [b, c, d], _ => exact ⟨b, c, d, rfl⟩
      have n1 := law_number_in hn k (hp c (by simp))
      have n2 := law_number_in hn k (hp d (by simp))
      have j1 : ixOf 4 1 = some 1 := rfl
      have j2 : ixOf 4 2 = some 2 := rfl
      have j3 : ixOf 4 3 = some 3 := rfl
      have eP : plainP [a, b, c, d] = .tup [.str "spent", .str (S b), oN (numIn c), oN (numIn d)] := by
        unfold plainP
        dsimp only
        rw [if_pos hS']
      rw [eP]
      simp [s1, e1, e2, lp, mn, hz1, s3, s4, ew, en, es, eb, hsz, hlen, sz, k2__law_begin_in, -meth_split, -slice_s, -call_min_l, j1, j2, j3, n1, n2]
    · rw [plainP_no hBA r (fun z => absurd z hN) (fun _ => hr)]
      have hr' : ¬ ((r.length : Int) + 1 = 4) := by omega
      simp [s1, e1, e2, lp, mn, hz1, s3, s4, ew, en, es, eb, hsz, hlen, sz, k2__law_begin_in, -meth_split, -slice_s, -call_min_l, hr']
  · rw [decide_eq_false hS'] at es
    rw [plainP_no hBA r (fun z => absurd z hN) (fun z => absurd z hS')]
    simp [s1, e1, e2, lp, mn, hz1, s3, s4, ew, en, es, eb, hsz, hlen, sz, k2__law_begin_in, -meth_split, -slice_s, -call_min_l]
theorem bIn_opsl {l : List Nat} {c : Nat} (h : l.head? = some c) (hc : c = 33 ∨ c = 40) : ops l.tail + 1 = ops l := by
  have e := headTail h
  rw [e]
  unfold ops
  rw [List.countP_cons, List.tail_cons]
  rcases hc with rfl | rfl <;> rfl
theorem begin_in {C : Nat → Orc} (hn : H__law_number_in C) (h : H__law_begin_in C) : ∀ (n k : Nat) {l : List Nat}, Tx l → ops l < n → C (k + n + 1) "_law_begin_in" [.d (.str (S l))] = .ret (.d (.tup [(bIn n l).1, .str (S (bIn n l).2)])) [.d (.str (S l))] := by
  intro n
  induction n with
  | zero => intro k l _ h; omega
  | succ n ih =>
    intro k l hl ho
    by_cases h1 : l.head? = some 33
    · have hop := bIn_opsl h1 (.inl rfl)
      have r1 := ih k (Tx_tail hl) (by omega)
      rw [show k + (n + 1) + 1 = (k + n + 1) + 1 by omega, h]
      unfold b__law_begin_in
      have hsz := Txl hl
      have s1 := slice_S hsz none (some 1)
      rw [cut_01] at s1
      have s2 := slice_S hsz (some 1) none
      rw [cut_1] at s2
      have e1 := isEq_S (Tx_take hl 1) (m := [33]) (t := "!") (by decide +kernel)
      rw [decide_eq_true (head1.mpr h1)] at e1
      unfold bIn
      rw [if_pos h1]
      generalize bIn n l.tail = q at r1 ⊢
      simp [s1, s2, e1, r1, sz, -slice_s]
    by_cases h2 : l.head? = some 40
    · have hop := bIn_opsl h2 (.inr rfl)
      have r1 := ih k (Tx_tail hl) (by omega)
      have su := bIn_suf n l.tail
      have hT1 := Tx_suf (Tx_tail hl) su
      have ho1 := ops_suf su
      have hT2 := Tx_tail hT1
      have ho2 : ops (bIn n l.tail).2.tail ≤ ops (bIn n l.tail).2 := ops_suf (List.tail_suffix _)
      have r2 := ih k hT2 (by omega)
      have su2 := bIn_suf n (bIn n l.tail).2.tail
      have hT3 := Tx_suf hT2 su2
      rw [show k + (n + 1) + 1 = (k + n + 1) + 1 by omega, h]
      unfold b__law_begin_in
      have hsz := Txl hl
      have s1 := slice_S hsz none (some 1)
      rw [cut_01] at s1
      have s2 := slice_S hsz (some 1) none
      rw [cut_1] at s2
      have e1 := isEq_S (Tx_take hl 1) (m := [33]) (t := "!") (by decide +kernel)
      have e2 := isEq_S (Tx_take hl 1) (m := [40]) (t := "(") (by decide +kernel)
      rw [decide_eq_false (fun z => h1 (head1.mp z))] at e1
      rw [decide_eq_true (head1.mpr h2)] at e2
      unfold bIn
      rw [if_neg h1, if_pos h2]
      generalize (bIn n (bIn n l.tail).2.tail) = q2 at r2 hT3 ⊢
      have s3 := slice_S (Txl hT1) none (some 1)
      rw [cut_01] at s3
      have s4 := slice_S (Txl hT1) (some 1) none
      rw [cut_1] at s4
      have dg := dict_get hT1
      have s5 := slice_S (Txl hT3) none (some 1)
      rw [cut_01] at s5
      have s6 := slice_S (Txl hT3) (some 1) none
      rw [cut_1] at s6
      have e3 := isEq_S (Tx_take hT3 1) (m := [41]) (t := ")") (by decide +kernel)
      generalize (bIn n l.tail) = q at *
      generalize hD : mergeW [] [(W.str "&", W.str "both"), (.str "|", .str "either")] = D at dg
      by_cases h3 : q2.2.head? = some 41
      · rw [if_pos h3]
        rw [decide_eq_true (head1.mpr h3)] at e3
        simp [s1, s2, e1, e2, r1, r2, s3, s4, s5, s6, e3, hD, dg, sz, -slice_s, -getW_2]
      · rw [if_neg h3]
        rw [decide_eq_false (fun z => h3 (head1.mp z))] at e3
        simp [s1, s2, e1, e2, r1, r2, s3, s4, s5, s6, e3, hD, dg, sz, -slice_s, -getW_2]
        decide +kernel
    · have r1 := begin_plain hn h (k + n) hl h1 h2
      rw [show k + (n + 1) + 1 = k + n + 2 by omega, r1]
      unfold bIn
      rw [if_neg h1, if_neg h2]
      rfl
end P

-- LbTx11
/-! Wheres and their texts: drawn wheres. -/
namespace P
open PySem Pf
open SX (S)
theorem nat_of {a : Int} (h : 0 ≤ a) : ∃ n : Nat, a = n := ⟨a.toNat, by omega⟩
theorem number71 {C : Nat → Orc} (h : H__law_draw C) (hn : H__law_number C) (k : Nat) {ds : List W} {n : Int} (hd : Dr ds) (h1 : 1 ≤ n) (h2 : n ≤ 10 ^ 40) :
    ∃ (v : Nat) (ds' : List W), C (k + 2) "_law_number" [.o (.lst ds), .d (.int n)] = .ret (.d (.int (v : Nat))) [.o (.lst ds'), .d (.int n)] ∧ Dr ds' ∧ 1 ≤ v ∧ v ≤ 10 ^ 40 := by
  obtain ⟨v, d, e, g, l, u⟩ := number h hn k hd h1 (by omega)
  obtain ⟨v, rfl⟩ := nat_of (by omega : 0 ≤ v)
  exact ⟨v, d, e, g, by omega, by omega⟩
theorem span71 {C : Nat → Orc} (h : H__law_draw C) (hn : H__law_number C) (hs : H__law_span C) (k : Nat) {ds : List W} {n : Int} (hd : Dr ds) (h1 : 1 ≤ n) (h2 : n ≤ 10 ^ 40) :
    ∃ (a : Nat) (b : Option Nat) (ds' : List W), C (k + 3) "_law_span" [.o (.lst ds), .d (.int n)] = .ret (.d (.tup [.int (a : Nat), oN b])) [.o (.lst ds'), .d (.int n)] ∧ Dr ds' ∧ 1 ≤ a ∧ a < 10 ^ 60 ∧ ∀ m, b = some m → a ≤ m ∧ m < 10 ^ 60 := by
  obtain ⟨a, d0, e0, g0, l0, u0⟩ := number71 h hn k hd h1 h2
  obtain ⟨v1, d1, e1, g1, l1, u1⟩ := draw h (k + 1) g0 (n := 9) (by decide) (by decide)
  obtain ⟨v1, rfl⟩ := nat_of l1
  obtain ⟨b, d2, e2, g2, l2, u2⟩ := number71 h hn k g1 h1 h2
  obtain ⟨v3, d3, e3, g3, l3, u3⟩ := draw h (k + 1) g2 (n := 4) (by decide) (by decide)
  obtain ⟨y, hy, ey⟩ := pick (xs := [.non, .int (a : Nat), .int ((a : Nat) + (v1 : Nat)), .int ((a : Nat) + (b : Nat))]) (n := 4) (i := v3) rfl (by omega) (by omega)
  have : ∃ c : Option Nat, y = oN c ∧ ∀ m, c = some m → a ≤ m ∧ m < 10 ^ 60 := by
    simp at hy
    rcases hy with rfl | rfl | rfl | rfl
    · exact ⟨none, rfl, fun m z => nomatch z⟩
    · exact ⟨some a, rfl, fun m z => by cases z; omega⟩
    · exact ⟨some (a + v1), by simp [oN], fun m z => by cases z; omega⟩
    · exact ⟨some (a + b), by simp [oN], fun m z => by cases z; omega⟩
  obtain ⟨c, rfl, hc⟩ := this
  refine ⟨a, c, d3, ?_, g3, l0, by omega, hc⟩
  rw [hs]
  unfold b__law_span
  simp [e0, e1, e2, e3, ey, sizeLine]
theorem nm_S {w : W} (h : Nm w) : ∃ l, w = .str (S l) ∧ nmL l = true := by
  obtain ⟨s, rfl, h1, h2, h3⟩ := h
  refine ⟨s.cps.toList, by rw [SX.S_tl], ?_⟩
  unfold nmL
  rw [str_len] at h1 h2
  rw [decide_eq_true h1, decide_eq_true h2]
  show (s.cps.toList.all _) = true
  rw [List.all_eq_true]
  intro c hc
  have := h3 c hc
  simp [this]
theorem plain71 {C : Nat → Orc} (h : H__law_draw C) (hu : H__law_number C) (hs : H__law_span C) (hp : H__law_plain_where C) (k : Nat) {ds nm : List W} {n : Int} {m : Nat} (hd : Dr ds) (h1 : 1 ≤ n) (h2 : n ≤ 10 ^ 40) (hn : nm.length = m) (hm : 3 ≤ m) (hm2 : m ≤ 100) (hN : ∀ w ∈ nm, Nm w) :
    ∃ (r : Wr) (ds' : List W), C (k + 4) "_law_plain_where" [.o (.lst ds), .o (.lst nm), .d (.int n)] = .ret (.d r.w) [.o (.lst ds'), .o (.lst nm), .d (.int n)] ∧ Dr ds' ∧ r.ok ∧ r.d = 1 := by
  obtain ⟨way, d0, e0, g0, l0, u0⟩ := draw h (k + 2) hd (n := 9) (by decide) (by decide)
  rw [hp]
  unfold b__law_plain_where
  by_cases w0 : way = 0
  · refine ⟨.all, d0, ?_, g0, trivial, rfl⟩
    simp [e0, w0, sizeLine, Wr.w]
  by_cases w4 : way < 4
  · obtain ⟨a, b, d1, e1, g1, a1, a2, hb⟩ := span71 h hu hs k g0 h1 h2
    refine ⟨.span false a b, d1, ?_, g1, ⟨.inr a1, a2, hb⟩, rfl⟩
    simp [e0, w0, w4, e1, sizeLine, Wr.w, spW]
  by_cases w6 : way < 6
  · obtain ⟨v1, d1, e1, g1, l1, u1⟩ := draw h (k + 2) g0 (n := 9) (by decide) (by decide)
    obtain ⟨v2, d2, e2, g2, l2, u2⟩ := draw h (k + 2) g1 (n := 9) (by decide) (by decide)
    obtain ⟨v3, d3, e3, g3, l3, u3⟩ := draw h (k + 2) g2 (n := 2) (by decide) (by decide)
    obtain ⟨v1, rfl⟩ := nat_of l1
    obtain ⟨v2, rfl⟩ := nat_of l2
    obtain ⟨y, hy, ey⟩ := pick (xs := [.non, .int ((v1 : Nat) + (v2 : Nat))]) (n := 2) (i := v3) rfl (by omega) (by omega)
    have : ∃ c : Option Nat, y = oN c ∧ ∀ m, c = some m → v1 ≤ m ∧ m < 10 ^ 60 := by
      simp at hy
      rcases hy with rfl | rfl
      · exact ⟨none, rfl, fun m z => nomatch z⟩
      · exact ⟨some (v1 + v2), by simp [oN], fun m z => by cases z; omega⟩
    obtain ⟨c, rfl, hc⟩ := this
    refine ⟨.span true v1 c, d3, ?_, g3, ⟨.inl rfl, by omega, hc⟩, rfl⟩
    simp [e0, w0, w4, w6, e1, e2, e3, ey, sizeLine, Wr.w, spW]
  by_cases w7 : way = 6
  · obtain ⟨v1, d1, e1, g1, l1, u1⟩ := draw h (k + 2) g0 (n := 3) (by decide) (by decide)
    obtain ⟨y, hy, ey⟩ := pick (xs := nm) (n := m) (i := v1) hn (by omega) (by omega)
    obtain ⟨s, rfl, hs⟩ := nm_S (hN y hy)
    refine ⟨.buyer s, d1, ?_, g1, hs, rfl⟩
    simp [e0, w0, w4, w6, w7, e1, ey, hn, sizeLine, Wr.w]
  obtain ⟨v1, d1, e1, g1, l1, u1⟩ := draw h (k + 2) g0 (n := 99) (by decide) (by decide)
  obtain ⟨v1, rfl⟩ := nat_of l1
  obtain ⟨v2, d2, e2, g2, l2, u2⟩ := number71 h hu (k + 1) g1 h1 h2
  obtain ⟨v3, d3, e3, g3, l3, u3⟩ := draw h (k + 2) g2 (n := 9) (by decide) (by decide)
  obtain ⟨v3, rfl⟩ := nat_of l3
  obtain ⟨v4, d4, e4, g4, l4, u4⟩ := draw h (k + 2) g3 (n := 5) (by decide) (by decide)
  obtain ⟨y, hy, ey⟩ := pick (xs := [.int (v1 : Nat), .int ((v2 : Nat) * (v3 : Nat)), .int 0]) (n := 3) (i := v4 / 2) rfl (by omega) (by omega)
  obtain ⟨v5, d5, e5, g5, l5, u5⟩ := draw h (k + 2) g4 (n := (m : Int) - 1) (by omega) (by omega)
  obtain ⟨z, hz, ez⟩ := pick (xs := nm) (n := m) (i := 1 + v5) hn (by omega) (by omega)
  obtain ⟨v6, d6, e6, g6, l6, u6⟩ := number71 h hu (k + 1) g5 h1 h2
  obtain ⟨s, rfl, hs⟩ := nm_S (hN z hz)
  have m0 : mulOk (v2 : Nat) (v3 : Nat) = true := mulOk_of 600 32 (by omega) (by omega) (by decide)
  have : ∃ c : Nat, y = .int (c : Nat) ∧ c < 10 ^ 60 := by
    simp at hy
    rcases hy with rfl | rfl | rfl
    · exact ⟨v1, rfl, by omega⟩
    · refine ⟨v2 * v3, by simp, ?_⟩
      have : v2 * v3 ≤ 10 ^ 40 * 9 := Nat.mul_le_mul u2 (by omega)
      omega
    · exact ⟨0, rfl, by decide⟩
  obtain ⟨c, rfl, hc⟩ := this
  refine ⟨.spent s v6 c, d6, ?_, g6, ⟨hs, l6, by omega, hc⟩, rfl⟩
  simp [e0, w0, w4, w6, w7, e1, e2, e3, e4, e5, e6, ey, ez, m0, hn, sizeLine, Wr.w]
theorem where71 {C : Nat → Orc} (h : H__law_draw C) (hu : H__law_number C) (hs : H__law_span C) (hp : H__law_plain_where C) (hw : H__law_where C) {nm : List W} {n : Int} {m : Nat} (h1 : 1 ≤ n) (h2 : n ≤ 10 ^ 40) (hn : nm.length = m) (hm : 3 ≤ m) (hm2 : m ≤ 100) (hN : ∀ w ∈ nm, Nm w) :
    ∀ (deep : Nat) (k : Nat) {ds : List W} (hd : Dr ds), ∃ (r : Wr) (ds' : List W), C (k + deep + 5) "_law_where" [.o (.lst ds), .o (.lst nm), .d (.int n), .d (.int deep)] = .ret (.d r.w) [.o (.lst ds'), .o (.lst nm), .d (.int n), .d (.int deep)] ∧ Dr ds' ∧ r.ok ∧ r.d ≤ max deep 1 := by
  intro deep
  induction deep with
  | zero =>
    intro k ds hd
    obtain ⟨way, d0, e0, g0, l0, u0⟩ := draw h (k + 3) hd (n := 8) (by decide) (by decide)
    obtain ⟨r, d1, e1, g1, p1, p2⟩ := plain71 h hu hs hp k g0 h1 h2 hn hm hm2 hN
    refine ⟨r, d1, ?_, g1, p1, by omega⟩
    rw [show k + 0 + 5 = k + 4 + 1 by omega, hw]
    unfold b__law_where
    simp [e0, e1]
  | succ deep ih =>
    intro k ds hd
    obtain ⟨way, d0, e0, g0, l0, u0⟩ := draw h (k + deep + 4) hd (n := 8) (by decide) (by decide)
    rw [show k + (deep + 1) + 5 = (k + deep + 5) + 1 by omega, hw]
    unfold b__law_where
    by_cases hc : deep = 0 ∨ way < 4
    · obtain ⟨r, d1, e1, g1, p1, p2⟩ := plain71 h hu hs hp (k + deep + 1) g0 h1 h2 hn hm hm2 hN
      refine ⟨r, d1, ?_, g1, p1, by omega⟩
      by_cases hz : deep = 0
      · subst hz
        simp [e0, e1]
      · have h4 : way < 4 := by omega
        have hz2 : ¬ ((deep : Int) + 1 < 2) := by omega
        simp [e0, e1, h4, hz2]
    · have hz2 : ¬ ((deep : Int) + 1 < 2) := by omega
      have h4 : ¬ way < 4 := by omega
      obtain ⟨r, d1, e1, g1, p1, p2⟩ := ih k g0
      by_cases w4 : way = 4
      · refine ⟨.neg r, d1, ?_, g1, p1, ?_⟩
        · simp [e0, e1, h4, hz2, w4, sizeLine, Wr.w]
        · show r.d + 1 ≤ _; omega
      · obtain ⟨q, d2, e2, g2, q1, q2⟩ := ih k g1
        obtain ⟨y, hy, ey⟩ := pick (xs := [.str "both", .str "either"]) (n := 2) (i := way % 2) rfl (by omega) (by omega)
        have : ∃ b, y = .str (twW b) := by
          simp at hy
          rcases hy with rfl | rfl
          · exact ⟨false, rfl⟩
          · exact ⟨true, rfl⟩
        obtain ⟨b, rfl⟩ := this
        refine ⟨.two b r q, d2, ?_, g2, ⟨p1, q1⟩, ?_⟩
        · simp [e0, e1, e2, h4, hz2, w4, ey, sizeLine, Wr.w]
        · show max r.d q.d + 1 ≤ _; omega
end P

-- LbTx12
/-! Wheres and their texts: how much a text may grow when spoilt, plainly. -/
namespace P
open PySem Pf
open SX (S)
theorem ops_app (a b : List Nat) : ops (a ++ b) = ops a + ops b := List.countP_append
theorem ops_cons (c : Nat) (l : List Nat) : ops (c :: l) ≤ ops l + 1 := by
  unfold ops
  rw [List.countP_cons]
  split <;> omega
theorem ops_sp (l : List Nat) : ops (32 :: l) = ops l := by unfold ops; rw [List.countP_cons]; rfl
abbrev sws (l : List Nat) : List (List Nat) := TL.spl [32] 0 [] l
theorem join_sws (l : List Nat) : TL.joinL [32] (sws l) = l := joinL_spl 32 l []
theorem ops_join : ∀ ws : List (List Nat), ops (TL.joinL [32] ws) = (ws.map ops).sum
  | [] => rfl
  | [p] => by simp [TL.joinL]
  | p :: q :: r => by
    show ops (p ++ ([32] ++ TL.joinL [32] (q :: r))) = _
    rw [ops_app, List.singleton_append, ops_sp, ops_join (q :: r)]
    simp
theorem len_join : ∀ ws : List (List Nat), (TL.joinL [32] ws).length ≤ (ws.map fun w => w.length + 1).sum
  | [] => by simp [TL.joinL]
  | [p] => by simp [TL.joinL]
  | p :: q :: r => by
    show (p ++ ([32] ++ TL.joinL [32] (q :: r))).length ≤ _
    have := len_join (q :: r)
    simp only [List.length_append, List.length_singleton, List.map_cons, List.sum_cons] at this ⊢
    omega
theorem len_join2 : ∀ ws : List (List Nat), ws ≠ [] → (ws.map fun w => w.length + 1).sum = (TL.joinL [32] ws).length + 1
  | [], h => absurd rfl h
  | [p], _ => by simp [TL.joinL]
  | p :: q :: r, _ => by
    have := len_join2 (q :: r) (by simp)
    show _ = (p ++ ([32] ++ TL.joinL [32] (q :: r))).length + 1
    simp only [List.length_append, List.length_singleton, List.map_cons, List.sum_cons] at this ⊢
    omega
theorem spl_free32 : ∀ (l acc : List Nat), 32 ∉ acc → ∀ p ∈ TL.spl [32] 0 acc l, 32 ∉ p
  | [], acc, h, p, hp => by
    rw [TL.spl_nil] at hp
    rw [List.mem_singleton.mp hp]
    exact h
  | d :: r, acc, h, p, hp => by
    by_cases hd : TL.pre [32] (d :: r) = true
    · rw [TL.spl_hit hd] at hp
      rcases List.mem_cons.mp hp with rfl | hp
      · exact h
      · exact spl_free32 r [] (by simp) p hp
    · have hd' : TL.pre [32] (d :: r) = false := by simpa using hd
      rw [TL.spl_miss hd'] at hp
      refine spl_free32 r _ ?_ p hp
      rw [pre1] at hd'
      have : d ≠ 32 := by simpa using hd'
      simp
      exact ⟨h, fun z => this z.symm⟩
/-- a text's openers, and its words' -/
structure Bd (l : List Nat) (T m : Nat) : Prop where
  tx : ∀ c ∈ l, c < 128
  all : ops l ≤ T
  word : ∀ w ∈ sws l, ops w ≤ m
theorem sum_mem {ws : List (List Nat)} {w : List Nat} (h : w ∈ ws) : ops w ≤ (ws.map ops).sum := by
  induction ws with
  | nil => cases h
  | cons a r ih =>
    rw [List.map_cons, List.sum_cons]
    rcases List.mem_cons.mp h with rfl | h
    · omega
    · have := ih h; omega
theorem bd_all {l : List Nat} (h : ∀ c ∈ l, c < 128) {T : Nat} (ho : ops l ≤ T) : Bd l T T := ⟨h, ho, fun w hw => by
  have := sum_mem hw
  rw [← ops_join, join_sws] at this
  omega⟩
/-- a sign put in, exchanged, left out or told twice -/
theorem bd_sign {l : List Nat} {T m : Nat} (h : Bd l T m) {i j : Nat} {u : List Nat} (hu : ∀ c ∈ u, c < 128) (hj : i ≤ j) (ho : ops u ≤ ops ((l.drop i).take (j - i)) + 1) : Bd (l.take i ++ u ++ l.drop j) (T + 1) (T + 1) := by
  have e : l = l.take i ++ ((l.drop i).take (j - i) ++ l.drop j) := by
    have : l.drop j = (l.drop i).drop (j - i) := by rw [List.drop_drop]; congr 1; omega
    rw [this, List.take_append_drop, List.take_append_drop]
  have h1 := h.all
  have e2 : ops l = ops (l.take i) + (ops ((l.drop i).take (j - i)) + ops (l.drop j)) := by
    rw [← ops_app, ← ops_app, ← e]
  refine bd_all (fun c hc => ?_) (by rw [ops_app, ops_app]; omega)
  rcases List.mem_append.mp hc with hc | hc
  · rcases List.mem_append.mp hc with hc | hc
    · exact h.tx c (List.mem_of_mem_take hc)
    · exact hu c hc
  · exact h.tx c (List.mem_of_mem_drop hc)
/-- a word left out, told twice, or another one in its place -/
theorem bd_word {l : List Nat} {T m : Nat} (h : Bd l T m) {i : Nat} {w : List Nat} (hi : (sws l)[i]? = some w) {us : List (List Nat)} (hu : ∀ u ∈ us, u ∈ sws l) (ho : (us.map ops).sum ≤ ops w + m) (hl : (us.map fun w => w.length + 1).sum ≤ 2 * l.length + 2) :
    Bd (TL.joinL [32] ((sws l).take i ++ us ++ (sws l).drop (i + 1))) (T + m) m ∧ (TL.joinL [32] ((sws l).take i ++ us ++ (sws l).drop (i + 1))).length ≤ 3 * l.length + 3 := by
  have hne : sws l ≠ [] := spl_ne 32 l []
  have hf : ∀ p ∈ sws l, 32 ∉ p := spl_free32 l [] (by simp)
  have hm : ∀ p ∈ sws l, (∀ x ∈ p, x ∈ [] ∨ x ∈ l) ∧ p.length ≤ ([] : List Nat).length + l.length := fun p hp => spl_mem 32 l [] p hp
  have hj := join_sws l
  have h1 := h.all
  have h2 := h.word
  have h3 := h.tx
  generalize hws : sws l = ws at *
  obtain ⟨hi1, hi2⟩ := List.getElem?_eq_some_iff.mp hi
  have e : ws = ws.take i ++ w :: ws.drop (i + 1) := by rw [← hi2, ← List.drop_eq_getElem_cons hi1, List.take_append_drop]
  have mem : ∀ p ∈ ws.take i ++ us ++ ws.drop (i + 1), p ∈ ws := fun p hp => by
    rcases List.mem_append.mp hp with hp | hp
    · rcases List.mem_append.mp hp with hp | hp
      · exact List.mem_of_mem_take hp
      · exact hu p hp
    · exact List.mem_of_mem_drop hp
  have s1 : (ws.map ops).sum = ((ws.take i).map ops).sum + (ops w + ((ws.drop (i + 1)).map ops).sum) := by
    have := congrArg (fun z => (z.map ops).sum) e
    simpa using this
  have s2 : (ws.map fun w => w.length + 1).sum = ((ws.take i).map fun w => w.length + 1).sum + (w.length + 1 + ((ws.drop (i + 1)).map fun w => w.length + 1).sum) := by
    have := congrArg (fun z => (z.map fun w => w.length + 1).sum) e
    simpa only [List.map_append, List.sum_append, List.map_cons, List.sum_cons] using this
  have s3 : ops l = (ws.map ops).sum := by rw [← hj, ops_join]
  have s4 := len_join2 ws hne
  have s5 : (TL.joinL [32] ws).length = l.length := by rw [hj]
  refine ⟨⟨fun c hc => ?_, ?_, fun p hp => ?_⟩, ?_⟩
  · have key : ∀ vs : List (List Nat), (∀ p ∈ vs, ∀ c ∈ p, c < 128) → ∀ c ∈ TL.joinL [32] vs, c < 128 := by
      intro vs
      induction vs with
      | nil => intro _ c hc; cases hc
      | cons p r ih =>
        intro hv c hc
        cases r with
        | nil => exact hv p (by simp) c hc
        | cons q r =>
          have hc' : c ∈ p ++ ([32] ++ TL.joinL [32] (q :: r)) := hc
          rcases List.mem_append.mp hc' with hc | hc
          · exact hv p (by simp) c hc
          · rcases List.mem_append.mp hc with hc | hc
            · rw [List.mem_singleton.mp hc]; decide
            · exact ih (fun p hp => hv p (List.mem_cons_of_mem _ hp)) c hc
    refine key _ (fun p hp c hc => ?_) c hc
    rcases (hm p (mem p hp)).1 c hc with z | z
    · cases z
    · exact h3 c z
  · rw [ops_join]
    simp only [List.map_append, List.sum_append]
    omega
  · by_cases hz : ws.take i ++ us ++ ws.drop (i + 1) = []
    · rw [hz] at hp
      have : p ∈ [([] : List Nat)] := hp
      rw [List.mem_singleton.mp this]
      exact Nat.zero_le _
    · have : sws (TL.joinL [32] (ws.take i ++ us ++ ws.drop (i + 1))) = ws.take i ++ us ++ ws.drop (i + 1) := TL.spl_join hz fun p hp => hf p (mem p hp)
      rw [this] at hp
      exact h2 p (mem p hp)
  · refine Nat.le_trans (len_join _) ?_
    simp only [List.map_append, List.sum_append]
    omega
/-- four turns -/
def Tn (j : Nat) (l : List Nat) : Prop := ∃ T m, Bd l T m ∧ ((j = 0 ∧ T ≤ 31 ∧ m ≤ 31 ∧ l.length ≤ 4608) ∨
  (j = 1 ∧ l.length ≤ 13900 ∧ ((T ≤ 32 ∧ m ≤ 32) ∨ (T ≤ 62 ∧ m ≤ 31))) ∨
  (j = 2 ∧ l.length ≤ 42000 ∧ ((T ≤ 63 ∧ m ≤ 63) ∨ (T ≤ 64 ∧ m ≤ 32) ∨ (T ≤ 93 ∧ m ≤ 31))) ∨
  (j = 3 ∧ l.length ≤ 127000 ∧ ((T ≤ 94 ∧ m ≤ 94) ∨ (T ≤ 126 ∧ m ≤ 63) ∨ (T ≤ 96 ∧ m ≤ 32) ∨ (T ≤ 124 ∧ m ≤ 31))) ∨
  (j = 4 ∧ l.length ≤ 390000 ∧ T ≤ 190))
theorem Tn.step {j : Nat} {l l' : List Nat} (hj : j < 4) (h : Tn j l) (hl : l'.length ≤ 3 * l.length + 3) (hs : ∀ T m, Bd l T m → Bd l' (T + 1) (T + 1) ∨ Bd l' (T + m) m) : Tn (j + 1) l' := by
  obtain ⟨T, m, hb, hc⟩ := h
  rcases hs T m hb with h' | h'
  · refine ⟨_, _, h', ?_⟩
    rcases hc with ⟨rfl, h1, h2, h3⟩ | ⟨rfl, h1, h2⟩ | ⟨rfl, h1, h2⟩ | ⟨rfl, h1, h2⟩ | ⟨rfl, h1, h2⟩
    · exact .inr (.inl ⟨rfl, by omega, by omega⟩)
    · exact .inr (.inr (.inl ⟨rfl, by omega, by omega⟩))
    · exact .inr (.inr (.inr (.inl ⟨rfl, by omega, by omega⟩)))
    · exact .inr (.inr (.inr (.inr ⟨rfl, by omega, by omega⟩)))
    · omega
  · refine ⟨_, _, h', ?_⟩
    rcases hc with ⟨rfl, h1, h2, h3⟩ | ⟨rfl, h1, h2⟩ | ⟨rfl, h1, h2⟩ | ⟨rfl, h1, h2⟩ | ⟨rfl, h1, h2⟩
    · exact .inr (.inl ⟨rfl, by omega, by omega⟩)
    · exact .inr (.inr (.inl ⟨rfl, by omega, by omega⟩))
    · exact .inr (.inr (.inr (.inl ⟨rfl, by omega, by omega⟩)))
    · exact .inr (.inr (.inr (.inr ⟨rfl, by omega, by omega⟩)))
    · omega
theorem Tn.tx {j : Nat} {l : List Nat} (h : Tn j l) : Tx l ∧ ops l ≤ 190 := by
  obtain ⟨T, m, hb, hc⟩ := h
  have := hb.all
  exact ⟨⟨hb.tx, by omega⟩, by omega⟩
theorem t_ops : ∀ (r : Wr), r.ok → 2 * (ops r.t + 1) ≤ 2 ^ r.d := by
  have z : ∀ {r : Wr}, r.ok → r.plain = true → ops r.t = 0 := fun {r} h hp => by
    unfold ops
    rw [List.countP_eq_zero]
    intro c hc
    have := spc_f (plain_spc h hp c hc)
    simp
    omega
  intro r
  induction r with
  | all => intro h; rw [z h rfl]; decide
  | span d a b => intro h; rw [z h rfl]; show 2 * (0 + 1) ≤ 2 ^ 1; decide
  | buyer s => intro h; rw [z h rfl]; show 2 * (0 + 1) ≤ 2 ^ 1; decide
  | spent s a b => intro h; rw [z h rfl]; show 2 * (0 + 1) ≤ 2 ^ 1; decide
  | neg w ih =>
    intro h
    have h1 := ih h
    have h2 : ops (33 :: w.t) = ops w.t + 1 := by unfold ops; rw [List.countP_cons]; rfl
    have h3 : 1 ≤ 2 ^ w.d := Nat.one_le_two_pow
    show 2 * (ops (33 :: w.t) + 1) ≤ 2 ^ (w.d + 1)
    rw [h2, Nat.pow_succ]
    have : 2 ≤ 2 ^ w.d := by omega
    omega
  | two e x y ihx ihy =>
    intro h
    have h1 := ihx h.1
    have h2 := ihy h.2
    have p1 : 2 ^ x.d ≤ 2 ^ max x.d y.d := Nat.pow_le_pow_right (by decide) (by omega)
    have p2 : 2 ^ y.d ≤ 2 ^ max x.d y.d := Nat.pow_le_pow_right (by decide) (by omega)
    have h3 : ops (40 :: (x.t ++ twC e :: (y.t ++ [41]))) = ops x.t + ops y.t + 1 := by
      have e1 : 40 :: (x.t ++ twC e :: (y.t ++ [41])) = [40] ++ (x.t ++ ([twC e] ++ (y.t ++ [41]))) := by simp
      have e2 : ops [twC e] = 0 := by cases e <;> rfl
      rw [e1, ops_app, ops_app, ops_app, ops_app, e2]
      show 1 + (ops x.t + (0 + (ops y.t + 0))) = _
      omega
    show 2 * (ops (40 :: (x.t ++ twC e :: (y.t ++ [41]))) + 1) ≤ 2 ^ (max x.d y.d + 1)
    rw [h3, Nat.pow_succ]
    omega
theorem Tn0 {r : Wr} (h : r.ok) (hd : r.d ≤ 6) : Tn 0 r.t := by
  have h1 := t_ops r h
  have h2 : 2 ^ r.d ≤ 2 ^ 6 := Nat.pow_le_pow_right (by decide) hd
  have h3 := t_len r h
  have h4 : ops r.t ≤ 31 := by omega
  exact ⟨31, 31, bd_all (t_asc r h) h4, .inl ⟨rfl, Nat.le_refl _, Nat.le_refl _, by omega⟩⟩
end P

-- LbTx13
/-! Wheres and their texts: a text, spoilt. -/
namespace P
open PySem Pf
open SX (S)
theorem cut_n1 (l : List Nat) (i : Nat) (hi : i ≤ l.length) : cutL l (some (i : Int)) (some ((i : Int) + 1)) = (l.drop i).take 1 := by
  unfold cutL
  rw [show (i : Int) + 1 = ((i + 1 : Nat) : Int) by omega, HT.sIx_nat, HT.sIx_nat, Nat.min_eq_left hi, List.take_eq_take_iff, List.length_drop]
  omega
theorem rep2 {u : List Nat} (h : u.length ≤ 1) : W.mul (.str (S u)) (.int 2) = some (.d (.str (S (u ++ u)))) := by
  have e : strRep (S u) 2 = S (u ++ u) := by
    match u, h with
    | [], _ => decide +kernel
    | [c], _ => rfl
  rw [mul_si, e, SX.S_len, SX.S_len, if_pos]
  refine ⟨by decide, by decide, ?_, ?_⟩
  · show u.length * 2 ≤ _; omega
  · rw [List.length_append]; omega
theorem litItem {t : Str} {n : Nat} (hl : t.cps.toList.length = n) (hn : n ≤ 1000) (ha : ∀ c ∈ t.cps.toList, c < 128) {i : Int} (h0 : 0 ≤ i) (h1 : i < n) : ∃ c, c < 128 ∧ itemW (.str t) (.int i) = some (.d (.str (S [c]))) := by
  obtain ⟨j, rfl⟩ := nat_of h0
  have hj : j < t.cps.toList.length := by omega
  refine ⟨t.cps.toList[j], ha _ (List.getElem_mem _), ?_⟩
  have e : S t.cps.toList = t := SX.S_tl t
  have := item_at (l := t.cps.toList) (by omega) (List.getElem?_eq_getElem hj)
  rw [e] at this
  exact this
theorem join_sp (ys : List (List Nat)) (h : (ys.map fun w => w.length + 1).sum ≤ 16777216) : W.meth (.str " ") "join" [.lst (ys.map fun y => .str (S y))] = some (.d (.str (S (TL.joinL [32] ys)))) := by
  have e1 : strsOf (ys.map fun y => W.str (S y)) = some (ys.map S) := by
    clear h
    induction ys with
    | nil => rfl
    | cons y ys ih => simp only [List.map_cons, strsOf, ih, Option.map_some]
  have e2 : (" " : Str) = S [32] := by decide +kernel
  have e4 : ∀ zs : List (List Nat), (zs.map (·.length)).sum + zs.length = (zs.map fun w => w.length + 1).sum := by
    intro zs
    induction zs with
    | nil => rfl
    | cons z zs ih => simp only [List.map_cons, List.sum_cons, List.length_cons] at ih ⊢; omega
  have e3 : joinLen (" " : Str) (ys.map S) ≤ 16777216 := by
    unfold joinLen
    rw [SX.lens, List.length_map]
    have : (" " : Str).length = 1 := by decide +kernel
    rw [this, Nat.mul_one, e4]
    exact h
  rw [meth_join, e1]
  show (if joinLen (" " : Str) (ys.map S) ≤ 16777216 then some (Sl.d (.str (Txt.join (" " : Str) (ys.map S)))) else none) = _
  rw [if_pos e3, e2, SX.join_S]
abbrev sgT : Str := " !\"#$&'()*+,-./0123456789:;<=>?@ABCDEFGHIJKLMNOPQRSTUVWXYZ[\\]^_`abcdefghijklmnopqrstuvwxyz{|}~\n"
abbrev sg2 : Str := "0123456789-:;,!(&|) "
theorem sg_len : sgT.cps.toList.length = 95 := by decide +kernel
theorem sg_asc : ∀ c ∈ sgT.cps.toList, c < 128 := by decide +kernel
theorem sg2_len : sg2.cps.toList.length = 20 := by decide +kernel
theorem sg2_asc : ∀ c ∈ sg2.cps.toList, c < 128 := by decide +kernel
theorem ops1 (u : List Nat) : ops u ≤ u.length := List.countP_le_length
theorem items_W {ws : List (List Nat)} {i : Int} (h0 : 0 ≤ i) (h : i < ws.length) : ∃ w, ws[i.toNat]? = some w ∧ itemW (.lst (ws.map fun w => .str (S w))) (.int i) = some (.d (.str (S w))) := by
  have hj : i.toNat < ws.length := by omega
  refine ⟨ws[i.toNat], List.getElem?_eq_getElem hj, ?_⟩
  rw [itemW_l, List.length_map, ixOf_lt h0 h]
  show (((ws.map fun w => W.str (S w))[i.toNat]?).map Sl.d) = _
  rw [List.getElem?_map, List.getElem?_eq_getElem hj]
  rfl
theorem spoilt {C : Nat → Orc} (h : H__law_draw C) (hs : H__law_spoilt C) (k : Nat) {l : List Nat} {ds : List W} {j : Nat} (hd : Dr ds) (hj : j < 4) (ht : Tn j l) :
    ∃ (l' : List Nat) (ds' : List W), C (k + 2) "_law_spoilt" [.d (.str (S l)), .o (.lst ds)] = .ret (.d (.str (S l'))) [.d (.str (S l)), .o (.lst ds')] ∧ Dr ds' ∧ Tn (j + 1) l' := by
  obtain ⟨hx, _⟩ := ht.tx
  have hsz := Txl hx
  have hlen : (S l).length = l.length := SX.S_len l
  have hl2 := hx.2
  obtain ⟨v1, d1, e1, g1, l1, u1⟩ := draw h k hd (n := 95) (by decide) (by decide)
  obtain ⟨v2, d2, e2, g2, l2, u2⟩ := draw h k g1 (n := 20) (by decide) (by decide)
  obtain ⟨v3, d3, e3, g3, l3, u3⟩ := draw h k g2 (n := 2) (by decide) (by decide)
  obtain ⟨v4, d4, e4, g4, l4, u4⟩ := draw h k g3 (n := (l.length : Int) + 1) (by omega) (by omega)
  obtain ⟨v5, d5, e5, g5, l5, u5⟩ := draw h k g4 (n := 7) (by decide) (by decide)
  obtain ⟨c1, hc1, i1⟩ := litItem sg_len (by decide) sg_asc l1 (by omega)
  obtain ⟨c2, hc2, i2⟩ := litItem sg2_len (by decide) sg2_asc l2 (by omega)
  obtain ⟨y, hy, ey⟩ := pick (xs := [.str (S [c1]), .str (S [c2])]) (n := 2) (i := v3) rfl (by omega) (by omega)
  obtain ⟨c, hc, rfl⟩ : ∃ c, c < 128 ∧ y = .str (S [c]) := by
    simp only [List.mem_cons, List.not_mem_nil, or_false] at hy
    rcases hy with rfl | rfl
    · exact ⟨c1, hc1, rfl⟩
    · exact ⟨c2, hc2, rfl⟩
  obtain ⟨a, rfl⟩ := nat_of l4
  have ha : a ≤ l.length := by omega
  have sl : sgT.length = 95 := (str_len sgT).trans sg_len
  rw [hs]
  unfold b__law_spoilt
  unfold sgT at sl i1
  unfold sg2 at i2
  generalize hSG : (Str.ofString " !\"#$&'()*+,-./0123456789:;<=>?@ABCDEFGHIJKLMNOPQRSTUVWXYZ[\\]^_`abcdefghijklmnopqrstuvwxyz{|}~\n") = SG at *
  generalize hSG2 : (Str.ofString "0123456789-:;,!(&|) ") = SG2 at *
  by_cases h4 : v5 < 4
  · have s1 := slice_S hsz none (some (a : Int))
    rw [cut_0n] at s1
    have s2 := slice_S hsz (some (a : Int)) (some ((a : Int) + 1))
    rw [cut_n1 l a ha] at s2
    have ht1 : ((l.drop a).take 1).length ≤ 1 := by rw [List.length_take]; omega
    have r2 := rep2 ht1
    have key : ∀ (u : List Nat) (j' : Nat), (j' = a ∨ j' = a + 1) → u.length ≤ 2 → (∀ c ∈ u, c < 128) → ops u ≤ ops ((l.drop a).take (j' - a)) + 1 →
        W.add (.str (S (l.take a))) (.str (S u)) = some (.d (.str (S (l.take a ++ u)))) ∧ W.slice (.str (S l)) (some (j' : Int)) none = some (.d (.str (S (l.drop j')))) ∧ W.add (.str (S (l.take a ++ u))) (.str (S (l.drop j'))) = some (.d (.str (S (l.take a ++ u ++ l.drop j')))) ∧ Tn (j + 1) (l.take a ++ u ++ l.drop j') := fun u j' hj' hu1 hu2 hu3 => by
      have k1 : (l.take a).length ≤ l.length := by rw [List.length_take]; omega
      have k2 : (l.drop j').length ≤ l.length := by rw [List.length_drop]; omega
      refine ⟨add_S (by omega), ?_, add_S (by rw [List.length_append]; omega), ?_⟩
      · rw [slice_S hsz, cut_n]
      · refine ht.step hj (by rw [List.length_append, List.length_append]; omega) fun T m hb => .inl (bd_sign hb hu2 (by omega) hu3)
    have hv : v5 = 0 ∨ v5 = 1 ∨ v5 = 2 ∨ v5 = 3 := by omega
    rcases hv with rfl | rfl | rfl | rfl
    · obtain ⟨k1, k2, k3, k4⟩ := key [c] a (.inl rfl) (by simp) (by simpa using hc) (by have := ops1 [c]; simp at this; omega)
      refine ⟨_, d5, ?_, g5, k4⟩
      generalize l.take a ++ [c] ++ l.drop a = R at *
      generalize l.take a ++ [c] = R1 at *
      simp -implicitDefEqProofs [e1, e2, e3, e4, e5, i1, i2, ey, sl, hlen, hsz, s1, s2, r2, k1, k2, k3, sz, -slice_s, -add_ss, -mul_si]
    · obtain ⟨k1, k2, k3, k4⟩ := key [c] (a + 1) (.inr rfl) (by simp) (by simpa using hc) (by have := ops1 [c]; simp at this; omega)
      refine ⟨_, d5, ?_, g5, k4⟩
      generalize l.take a ++ [c] ++ l.drop (a + 1) = R at *
      generalize l.take a ++ [c] = R1 at *
      have x1 : ixOf 4 1 = some 1 := rfl
      rw [show ((a + 1 : Nat) : Int) = (a : Int) + 1 by omega] at k2
      simp -implicitDefEqProofs [e1, e2, e3, e4, e5, i1, i2, ey, sl, hlen, hsz, s1, s2, r2, k1, k2, k3, x1, sz, -slice_s, -add_ss, -mul_si]
    · obtain ⟨k1, k2, k3, k4⟩ := key [] (a + 1) (.inr rfl) (by simp) (by simp) (by show 0 ≤ _; omega)
      refine ⟨_, d5, ?_, g5, k4⟩
      have e0 : ("" : Str) = S [] := by decide +kernel
      generalize l.take a ++ [] ++ l.drop (a + 1) = R at *
      generalize l.take a ++ [] = R1 at *
      have x1 : ixOf 4 2 = some 2 := rfl
      rw [show ((a + 1 : Nat) : Int) = (a : Int) + 1 by omega] at k2
      rw [← e0] at k1
      simp -implicitDefEqProofs [e1, e2, e3, e4, e5, i1, i2, ey, sl, hlen, hsz, s1, s2, r2, k1, k2, k3, x1, sz, -slice_s, -add_ss, -mul_si]
    · obtain ⟨k1, k2, k3, k4⟩ := key ((l.drop a).take 1 ++ (l.drop a).take 1) (a + 1) (.inr rfl) (by rw [List.length_append]; omega) (fun c hc => by
        rcases List.mem_append.mp hc with hc | hc <;> exact hx.1 c (List.mem_of_mem_drop (List.mem_of_mem_take hc))) (by
        rw [ops_app, show a + 1 - a = 1 by omega]
        have := ops1 ((l.drop a).take 1)
        omega)
      refine ⟨_, d5, ?_, g5, k4⟩
      generalize l.take a ++ ((l.drop a).take 1 ++ (l.drop a).take 1) ++ l.drop (a + 1) = R at *
      generalize l.take a ++ ((l.drop a).take 1 ++ (l.drop a).take 1) = R1 at *
      generalize (l.drop a).take 1 ++ (l.drop a).take 1 = R2 at *
      have x1 : ixOf 4 3 = some 3 := rfl
      rw [show ((a + 1 : Nat) : Int) = (a : Int) + 1 by omega] at k2
      simp -implicitDefEqProofs [e1, e2, e3, e4, e5, i1, i2, ey, sl, hlen, hsz, s1, s2, r2, k1, k2, k3, x1, sz, -slice_s, -add_ss, -mul_si]
  · have ew := split_W hx 32 (by decide) (t := " ") (by decide +kernel)
    have hne : sws l ≠ [] := spl_ne 32 l []
    have hwl : (sws l).length ≤ l.length + 1 := spl_len 32 l []
    have hpos : 0 < (sws l).length := List.length_pos_iff.mpr hne
    have hmem : ∀ p ∈ sws l, (∀ x ∈ p, x ∈ [] ∨ x ∈ l) ∧ p.length ≤ ([] : List Nat).length + l.length := fun p hp => spl_mem 32 l [] p hp
    obtain ⟨v6, d6, e6, g6, l6, u6⟩ := draw h k g5 (n := ((sws l).length : Nat)) (by omega) (by omega)
    obtain ⟨v7, d7, e7, g7, l7, u7⟩ := draw h k g6 (n := ((sws l).length : Nat)) (by omega) (by omega)
    obtain ⟨w, hw, iw⟩ := items_W (ws := sws l) l6 u6
    obtain ⟨w', hw', iw'⟩ := items_W (ws := sws l) l7 u7
    obtain ⟨i, rfl⟩ := nat_of l6
    rw [Int.toNat_natCast] at hw
    have mw : w ∈ sws l := List.mem_of_getElem? hw
    have mw' : w' ∈ sws l := List.mem_of_getElem? hw'
    have lw := (hmem w mw).2
    have lw' := (hmem w' mw').2
    have s1 : W.slice (.lst ((sws l).map fun w => .str (S w))) none (some (i : Int)) = some (.o (.lst (((sws l).take i).map fun w => .str (S w)))) := by rw [slice_l, cut_to (by omega), Int.toNat_natCast, List.map_take]
    have s2 : W.slice (.lst ((sws l).map fun w => .str (S w))) (some ((i : Int) + 1)) none = some (.o (.lst (((sws l).drop (i + 1)).map fun w => .str (S w)))) := by
      rw [show (i : Int) + 1 = ((i + 1 : Nat) : Int) by omega, slice_l, cut_from (by omega), Int.toNat_natCast, List.map_drop]
    have s4 := len_join2 (sws l) hne
    rw [join_sws] at s4
    have rp : W.mul (.lst [.str (S w)]) (.int 2) = some (.o (.lst [.str (S w), .str (S w)])) := by
      rw [mul_li, if_pos ⟨by decide, by decide, (show 1 * 2 ≤ 16777216 by decide)⟩]
      rfl
    have hsw : (sws l).length ≤ 16777216 := by omega
    have key : ∀ us : List (List Nat), (∀ u ∈ us, u ∈ sws l) → us.length ≤ 2 → (us.map fun w => w.length + 1).sum ≤ 2 * l.length + 2 → (∀ T m, Bd l T m → (us.map ops).sum ≤ ops w + m) →
        W.add (.lst (((sws l).take i).map fun w => .str (S w))) (.lst (us.map fun w => .str (S w))) = some (.o (.lst (((sws l).take i ++ us).map fun w => .str (S w)))) ∧
        W.add (.lst (((sws l).take i ++ us).map fun w => .str (S w))) (.lst (((sws l).drop (i + 1)).map fun w => .str (S w))) = some (.o (.lst (((sws l).take i ++ us ++ (sws l).drop (i + 1)).map fun w => .str (S w)))) ∧
        W.meth (.str " ") "join" [.lst (((sws l).take i ++ us ++ (sws l).drop (i + 1)).map fun y => .str (S y))] = some (.d (.str (S (TL.joinL [32] ((sws l).take i ++ us ++ (sws l).drop (i + 1)))))) ∧
        Tn (j + 1) (TL.joinL [32] ((sws l).take i ++ us ++ (sws l).drop (i + 1))) := fun us hu h1 h2 h3 => by
      have t1 : ((sws l).take i).length ≤ (sws l).length := by rw [List.length_take]; omega
      have t2 : ((sws l).drop (i + 1)).length ≤ (sws l).length := by rw [List.length_drop]; omega
      refine ⟨?_, ?_, ?_, ?_⟩
      · rw [Pf.add_ll, if_pos (by rw [List.length_map, List.length_map]; unfold sizeLine; omega), ← List.map_append]
      · rw [Pf.add_ll, if_pos (by rw [List.length_map, List.length_map, List.length_append]; unfold sizeLine; omega), ← List.map_append]
      · refine join_sp _ ?_
        have e : sws l = (sws l).take i ++ w :: (sws l).drop (i + 1) := by
          obtain ⟨hi1, hi2⟩ := List.getElem?_eq_some_iff.mp hw
          rw [← hi2, ← List.drop_eq_getElem_cons hi1, List.take_append_drop]
        have s5 := congrArg (fun z => (z.map fun w => w.length + 1).sum) e
        simp only [List.map_append, List.sum_append, List.map_cons, List.sum_cons] at s5 ⊢
        omega
      · obtain ⟨T0, m0, hb0, _⟩ := id ht
        exact ht.step hj (bd_word hb0 hw hu (h3 T0 m0 hb0) h2).2 fun T m hb => .inr (bd_word hb hw hu (h3 T m hb) h2).1
    generalize hF : (sws l).map (fun w => W.str (S w)) = F at *
    have hFl : F.length = (sws l).length := by rw [← hF, List.length_map]
    have hv : v5 = 4 ∨ v5 = 5 ∨ v5 = 6 := by omega
    have x1 : ixOf 3 1 = some 1 := rfl
    have x2 : ixOf 3 2 = some 2 := rfl
    rcases hv with rfl | rfl | rfl
    · obtain ⟨k1, k2, k3, k4⟩ := key [] (by simp) (by simp) (by simp) (fun T m hb => by simp)
      refine ⟨_, d7, ?_, g7, k4⟩
      simp only [List.map_nil] at k1
      generalize TL.joinL [32] ((sws l).take i ++ [] ++ (sws l).drop (i + 1)) = R at *
      generalize ((sws l).take i ++ [] ++ (sws l).drop (i + 1)).map (fun w => W.str (S w)) = R1 at *
      generalize ((sws l).take i ++ []).map (fun w => W.str (S w)) = R2 at *
      generalize ((sws l).take i).map (fun w => W.str (S w)) = R3 at *
      generalize ((sws l).drop (i + 1)).map (fun w => W.str (S w)) = R4 at *
      simp -implicitDefEqProofs [e1, e2, e3, e4, e5, e6, e7, i1, i2, ey, sl, hlen, hsz, ew, hFl, iw, iw', s1, s2, rp, k1, k2, k3, x1, x2, sz, -slice_s, -slice_l, -add_ss, -Pf.add_ll, -mul_si, -mul_li, -meth_join, -meth_split]
    · obtain ⟨k1, k2, k3, k4⟩ := key [w, w] (by simpa using mw) (by simp) (by simp at lw ⊢; omega) (fun T m hb => by have := hb.word w mw; simp; omega)
      refine ⟨_, d7, ?_, g7, k4⟩
      simp only [List.map_cons, List.map_nil] at k1
      generalize TL.joinL [32] ((sws l).take i ++ [w, w] ++ (sws l).drop (i + 1)) = R at *
      generalize ((sws l).take i ++ [w, w] ++ (sws l).drop (i + 1)).map (fun w => W.str (S w)) = R1 at *
      generalize ((sws l).take i ++ [w, w]).map (fun w => W.str (S w)) = R2 at *
      generalize ((sws l).take i).map (fun w => W.str (S w)) = R3 at *
      generalize ((sws l).drop (i + 1)).map (fun w => W.str (S w)) = R4 at *
      simp -implicitDefEqProofs [e1, e2, e3, e4, e5, e6, e7, i1, i2, ey, sl, hlen, hsz, ew, hFl, iw, iw', s1, s2, rp, k1, k2, k3, x1, x2, sz, -slice_s, -slice_l, -add_ss, -Pf.add_ll, -mul_si, -mul_li, -meth_join, -meth_split]
    · obtain ⟨k1, k2, k3, k4⟩ := key [w'] (by simpa using mw') (by simp) (by simp at lw' ⊢; omega) (fun T m hb => by have := hb.word w' mw'; simp; omega)
      refine ⟨_, d7, ?_, g7, k4⟩
      simp only [List.map_cons, List.map_nil] at k1
      generalize TL.joinL [32] ((sws l).take i ++ [w'] ++ (sws l).drop (i + 1)) = R at *
      generalize ((sws l).take i ++ [w'] ++ (sws l).drop (i + 1)).map (fun w => W.str (S w)) = R1 at *
      generalize ((sws l).take i ++ [w']).map (fun w => W.str (S w)) = R2 at *
      generalize ((sws l).take i).map (fun w => W.str (S w)) = R3 at *
      generalize ((sws l).drop (i + 1)).map (fun w => W.str (S w)) = R4 at *
      simp -implicitDefEqProofs [e1, e2, e3, e4, e5, e6, e7, i1, i2, ey, sl, hlen, hsz, ew, hFl, iw, iw', s1, s2, rp, k1, k2, k3, x1, x2, sz, -slice_s, -slice_l, -add_ss, -Pf.add_ll, -mul_si, -mul_li, -meth_join, -meth_split]
end P

-- LbTx14
/-! k71: the two readers answer. -/
namespace P
open PySem Pf
open SX (S)
abbrev B71 : Nat := 400001
theorem ok_S {l : List Nat} (h : Tx l) {n : Nat} : Ok B71 n (.str (S l)) := by
  rw [ok_str]
  refine ⟨S_ok h, ?_⟩
  have := h.2
  rw [show (S l).length = l.length from SX.S_len l]
  omega
theorem ok_lit {n : Nat} (s : String) (h : s ∈ ["not", "both", "either", "none", "all", "days", "numbers", "buyer", "spent"]) : Ok B71 n (.str (Str.ofString s)) := by
  rw [ok_str]
  revert s
  decide +kernel
theorem ok_oN {n : Nat} (o : Option Nat) : Ok B71 n (oN o) := by cases o <;> simp [oN]
theorem plain_ok {l : List Nat} (h : Tx l) : Ok B71 1 (plainIn l) := by
  have hw := spl_Tx (c := 58) h
  have hl := spl_len 58 l []
  have h2 := h.2
  unfold plainIn words
  generalize TL.spl [58] 0 [] l = ws at hw hl ⊢
  have gen : ∀ (a : List Nat) (r : List (List Nat)), (∀ p ∈ a :: r, Tx p) → (a :: r).length ≤ 400001 → Ok B71 1 (.tup (.str (S a) :: r.map fun x => .str (S x))) := fun a r h1 h2 => by
    refine ok_tup.mpr ⟨by rw [List.length_cons, List.length_map]; exact h2, fun w hw => ?_⟩
    rcases List.mem_cons.mp hw with rfl | hw
    · exact ok_S (h1 a List.mem_cons_self)
    · obtain ⟨x, hx, rfl⟩ := List.mem_map.mp hw
      exact ok_S (h1 x (List.mem_cons_of_mem _ hx))
  match ws, hw, hl with
  | [], _, _ => simp [plainP]
  | [a], hw, hl =>
    show Ok B71 1 (if a = cBuyer ∨ a = cAll then .tup (.str (S a) :: [].map fun x => .str (S x)) else .non)
    split
    · exact gen a [] hw (by omega)
    · simp
  | [a, b], hw, hl =>
    unfold plainP
    dsimp only
    have ta := hw a (by simp)
    have tb := hw b (by simp)
    split
    · split
      · split
        · refine ok_tup.mpr ⟨by simp [B71], fun w m => ?_⟩
          simp only [List.mem_cons, List.not_mem_nil, or_false] at m
          rcases m with rfl | rfl | rfl
          · exact ok_S ta
          · exact ok_oN _
          · simp
        · split
          · refine ok_tup.mpr ⟨by simp [B71], fun w m => ?_⟩
            simp only [List.mem_cons, List.not_mem_nil, or_false] at m
            rcases m with rfl | rfl | rfl
            · exact ok_S ta
            · exact ok_oN _
            · simp
          · simp
      · simp
    · split
      · exact gen a [b] hw (by simp)
      · simp
  | [a, b, c], hw, hl =>
    show Ok B71 1 (if a = cBuyer ∨ a = cAll then .tup (.str (S a) :: [b, c].map fun x => .str (S x)) else .non)
    split
    · exact gen a [b, c] hw (by simp)
    · simp
  | [a, b, c, d], hw, hl =>
    unfold plainP
    dsimp only
    split
    · refine ok_tup.mpr ⟨by simp [B71], fun w m => ?_⟩
      simp only [List.mem_cons, List.not_mem_nil, or_false] at m
      rcases m with rfl | rfl | rfl | rfl
      · exact ok_lit "spent" (by decide)
      · exact ok_S (hw b (by simp))
      · exact ok_oN _
      · exact ok_oN _
    · split
      · exact gen a [b, c, d] hw (by simp)
      · simp
  | a :: b :: c :: d :: e :: r, hw, hl =>
    show Ok B71 1 (if a = cBuyer ∨ a = cAll then .tup (.str (S a) :: (b :: c :: d :: e :: r).map fun x => .str (S x)) else .non)
    split
    · exact gen a _ hw (by simp at hl ⊢; omega)
    · simp
theorem ok_two {b n : Nat} {s : String} {x : W} (hb : 3 ≤ b) (hs : Ok b n (.str (Str.ofString s))) (hx : Ok b n x) : Ok b (n + 1) (.tup [.str (Str.ofString s), x]) :=
  ok_tup.mpr ⟨by simp; omega, fun w m => by
    simp only [List.mem_cons, List.not_mem_nil, or_false] at m
    rcases m with rfl | rfl
    · exact hs
    · exact hx⟩
theorem ok_thr {b n : Nat} {s : Str} {x y : W} (hb : 3 ≤ b) (hs : Ok b n (.str s)) (hx : Ok b n x) (hy : Ok b n y) : Ok b (n + 1) (.tup [.str s, x, y]) :=
  ok_tup.mpr ⟨by simp; omega, fun w m => by
    simp only [List.mem_cons, List.not_mem_nil, or_false] at m
    rcases m with rfl | rfl | rfl
    · exact hs
    · exact hx
    · exact hy⟩
theorem pIn_ok : ∀ (n : Nat) {l : List Nat}, Tx l → Ok B71 n (pIn n l)
  | 0, l, h => by unfold pIn; simp
  | n + 1, l, h => by
    unfold pIn
    split
    · exact ok_two (by decide) (ok_lit "not" (by decide)) (pIn_ok n (Tx_tail h))
    · split
      · split
        · simp
        · split
          · simp
          · refine ok_thr (by decide) ?_ (pIn_ok n (Tx_drop (Tx_take h _) _)) (pIn_ok n (Tx_take (Tx_drop h _) _))
            split
            · exact ok_lit "both" (by decide)
            · exact ok_lit "either" (by decide)
      · exact (plain_ok h).mono (Nat.le_refl _) (by omega)
theorem ok_word {n : Nat} (s : List Nat) : Ok B71 n (.str (wordOf s)) := by
  unfold wordOf
  split
  · exact ok_lit "both" (by decide)
  · split
    · exact ok_lit "either" (by decide)
    · exact ok_lit "none" (by decide)
theorem bIn_Tx (n : Nat) {l : List Nat} (h : Tx l) : Tx (bIn n l).2 := Tx_suf h (bIn_suf n l)
theorem bIn_ok : ∀ (n : Nat) {l : List Nat}, Tx l → Ok B71 n (bIn n l).1
  | 0, l, h => by unfold bIn; simp
  | n + 1, l, h => by
    unfold bIn
    split
    · exact ok_two (by decide) (ok_lit "not" (by decide)) (bIn_ok n (Tx_tail h))
    · split
      · split
        · have h1 := bIn_Tx n (Tx_tail h)
          exact ok_thr (by decide) (ok_word _) (bIn_ok n (Tx_tail h)) (bIn_ok n (Tx_tail h1))
        · simp
      · have hp : Tx (l.takeWhile fun c => !spc c) := h.mono (fun c hc => (List.takeWhile_sublist _).subset hc) (List.takeWhile_sublist _).length_le
        exact (plain_ok hp).mono (Nat.le_refl _) (by omega)
/-! the two readers -/
structure RdH (C : Nat → Orc) : Prop where
  i : IsH C
  l : LIsH C
  pn : H_number_in C
  pp : H_plain_in C
  pt : H_parted C
  pw : H_where_in C
  pr : H_read_where C
  ln : H__law_number_in C
  lb : H__law_begin_in C
  lr : H__law_read_where C
  tl : H__law_told_v6 C
def readR (w : W) : Option Wr → CRes
  | some r => .ret (.d r.w) [.d w]
  | none => .exc "NoText" [.d w]
theorem read_where {C : Nat → Orc} (h : RdH C) (k : Nat) {l : List Nat} {o : Option Wr} (hl : Tx l) (ho : Reads l o) :
    C (k + 13) "read_where" [.d (.str (S l))] = readR (.str (S l)) o := by
  have e1 := where_in h.pn h.pp h.pt h.pw 6 (k + 3) hl
  have e2 := is_where h.i (k + 1) (pIn_ok 6 hl)
  have hr := reads_p ho
  rw [show k + 13 = (k + 12) + 1 from rfl, h.pr]
  unfold b_read_where
  have e1' : C (k + 12) "where_in" [.d (.str (S l)), .d (.int 6)] = .ret (.d (pIn 6 l)) [.d (.str (S l)), .d (.int 6)] := e1
  have e2' : C (k + 12) "is_where" [.d (pIn 6 l)] = .ret (.d (.bl (whereB 6 (pIn 6 l)))) [.d (pIn 6 l)] := e2
  clear e1 e2
  generalize pIn 6 l = p at *
  cases o with
  | some r =>
    obtain ⟨hp, hb⟩ := hr
    rw [hb] at e2'
    show _ = CRes.ret (.d r.w) [.d (.str (S l))]
    rw [← hp]
    simp [e1', e2']
  | none =>
    have hb : whereB 6 p = false := hr
    rw [hb] at e2'
    unfold readR
    simp [e1', e2']
theorem read_not {C : Nat → Orc} (h : RdH C) (k : Nat) {w : W} (hw : ∀ s, w ≠ .str s) (hd : w.dat = true) : C (k + 13) "read_where" [.d w] = .exc "NoText" [.d w] := by
  rw [show k + 13 = (k + 12) + 1 from rfl, h.pr]
  unfold b_read_where
  cases w <;> first | (exact absurd rfl (hw _)) | (simp [W.dat] at hd; done) | simp
theorem law_read {C : Nat → Orc} (h : RdH C) (k : Nat) {l : List Nat} {o : Option Wr} (hl : Tx l) (hop : ops l ≤ 190) (ho : Reads l o) :
    C (k + 212) "_law_read_where" [.d (.str (S l))] = .ret (.d (match (generalizing := false) o with | some r => r.w | none => .non)) [.d (.str (S l))] := by
  have e1 := begin_in h.ln h.lb 200 (k + 10) hl (by omega)
  have e2 := law_where h.l (b := B71) (by decide) 6 (k + 200) 200 (bIn_ok 200 hl)
  have hr := reads_b ho (n := 200) (by decide)
  have ht := bIn_Tx 200 hl
  have e3 := isEq_S ht (m := []) (t := "") (by decide +kernel)
  rw [show k + 212 = (k + 211) + 1 from rfl, h.lr]
  unfold b__law_read_where
  have e1' : C (k + 211) "_law_begin_in" [.d (.str (S l))] = .ret (.d (.tup [(bIn 200 l).1, .str (S (bIn 200 l).2)])) [.d (.str (S l))] := e1
  have e2' : C (k + 211) "_law_is_where" [.d (bIn 200 l).1, .d (.int 6)] = .ret (.d (.bl (whereB 6 (bIn 200 l).1))) [.d (bIn 200 l).1, .d (.int 6)] := e2
  clear e1 e2 ht
  cases o with
  | some r =>
    have hb : bIn 200 l = (r.w, []) := hr
    have hv : whereB 6 r.w = true := by
      cases ho with
      | some q1 q2 q3 => exact w_valid r q1 6 q2
    rw [hb] at e1' e2' e3
    dsimp only at e1' e2' e3
    rw [hv] at e2'
    rw [decide_eq_true rfl] at e3
    dsimp only
    generalize r.w = q at *
    simp [e1', e2', e3]
  | none =>
    have hb : (bIn 200 l).2 = [] → whereB 6 (bIn 200 l).1 = false := hr
    clear hr
    dsimp only
    generalize (bIn 200 l).1 = q at *
    generalize (bIn 200 l).2 = t at *
    by_cases hz : t = []
    · rw [hb hz] at e2'
      rw [decide_eq_true hz] at e3
      simp [e1', e2', e3]
    · rw [decide_eq_false hz] at e3
      simp [e1', e3]
def toldW (o : Option Wr) : W := match o with | some r => .tup [r.w, .str ""] | none => .tup [.non, .str "NoText+"]
theorem told_of {C : Nat → Orc} (h : RdH C) (k : Nat) {w : W} {o : Option Wr} (e : C (k + 13) "read_where" [.d w] = readR w o) :
    C (k + 14) "_law_told" [.d w] = .ret (.d (toldW o)) [.d w] := by
  have hno : (("NoText" : Str) ++ ("+" : Str)) = ("NoText+" : Str) := by decide +kernel
  have hin : ("NoText" : Str) ∈ kcs := by decide +kernel
  rw [show k + 14 = (k + 13) + 1 from rfl, h.tl]
  unfold b__law_told_v6 toldW
  unfold readR at e
  cases o with
  | some r =>
    dsimp only at e ⊢
    generalize r.w = q at *
    simp [e, sizeLine]
  | none =>
    dsimp only at e ⊢
    simp [e, hno, hin, sizeLine]
theorem told {C : Nat → Orc} (h : RdH C) (k : Nat) {l : List Nat} {o : Option Wr} (hl : Tx l) (ho : Reads l o) : C (k + 14) "_law_told" [.d (.str (S l))] = .ret (.d (toldW o)) [.d (.str (S l))] := told_of h k (read_where h k hl ho)
theorem told_not {C : Nat → Orc} (h : RdH C) (k : Nat) {w : W} (hw : ∀ s, w ≠ .str s) (hd : w.dat = true) : C (k + 14) "_law_told" [.d w] = .ret (.d (toldW none)) [.d w] := told_of h k (o := none) (read_not h k hw hd)
end P

-- LbTx15
/-! k71: the law. -/
namespace P
open PySem Pf
open SX (S)
structure K71H (C : Nat → Orc) : Prop where
  r : RdH C
  draw : H__law_draw C
  number : H__law_number C
  span : H__law_span C
  draws : H__law_draws C
  name : H__law_name C
  order : H__law_any_order C
  names : H__law_names C
  far : H__law_far C
  plain : H__law_plain_where C
  wh : H__law_where C
  st : H_span_text C
  wt : H_where_text C
  lst : H__law_span_text C
  lwt : H__law_where_text C
  spoilt : H__law_spoilt C
  law : H_law_k71 C
mutual
theorem eqv_refl : ∀ w : W, w.dat = true → W.eqv w w = true
  | .non, _ => by simp [W.eqv]
  | .bl _, _ => by simp [W.eqv]
  | .int _, _ => by simp [W.eqv]
  | .str _, _ => by simp [W.eqv]
  | .tup ws, h => by
    show W.eqvL ws ws = true
    exact eqvL_refl ws h
  | .lst ws, h => by
    show W.eqvL ws ws = true
    exact eqvL_refl ws h
  | .scr _, h => by cases h
  | .ty _, h => by cases h
  | .dct _ _, h => by cases h
theorem eqvL_refl : ∀ ws : List W, W.datL ws = true → W.eqvL ws ws = true
  | [], _ => rfl
  | w :: ws, h => by
    have h' : (w.dat && W.datL ws) = true := h
    rw [Bool.and_eq_true] at h'
    show (W.eqv w w && W.eqvL ws ws) = true
    rw [eqv_refl w h'.1, eqvL_refl ws h'.2]
    rfl
end
theorem isEq_self {w : W} (h : w.dat = true) (hd : w.depth ≤ 64) : W.isEq w w = some true := by
  rw [isEq_any h h hd, eqv_refl w h]
def dueW (o : Option Wr) : W := match o with | some r => r.w | none => .non
theorem due_ok {l : List Nat} {o : Option Wr} (hl : Tx l) (h : Reads l o) : Ok B71 6 (dueW o) := by
  cases h with
  | some q1 q2 q3 =>
    rename_i r
    have := (reads_p (.some q1 q2 q3)).1
    show Ok B71 6 r.w
    rw [← this]
    exact pIn_ok 6 hl
  | none => simp [dueW]
theorem told_ok {l : List Nat} {o : Option Wr} (hl : Tx l) (h : Reads l o) : W.isEq (toldW o) (toldW o) = some true := by
  have h1 := due_ok hl h
  have h2 : Ok B71 7 (toldW o) := by
    cases o with
    | some r =>
      refine ok_tup.mpr ⟨by simp [B71], fun w m => ?_⟩
      simp only [List.mem_cons, List.not_mem_nil, or_false] at m
      rcases m with rfl | rfl
      · exact h1
      · rw [ok_str]; decide +kernel
    | none =>
      refine ok_tup.mpr ⟨by simp [B71], fun w m => ?_⟩
      simp only [List.mem_cons, List.not_mem_nil, or_false] at m
      rcases m with rfl | rfl
      · simp
      · rw [ok_str]; decide +kernel
  exact isEq_self h2.dat.1 (Nat.le_trans h2.dat.2 (by decide))
theorem w_tup : ∀ r : Wr, ∃ ws, r.w = .tup ws
  | .all => ⟨_, rfl⟩
  | .span _ _ _ => ⟨_, rfl⟩
  | .buyer _ => ⟨_, rfl⟩
  | .spent _ _ _ => ⟨_, rfl⟩
  | .neg _ => ⟨_, rfl⟩
  | .two _ _ _ => ⟨_, rfl⟩
theorem text_self {l : List Nat} (h : Tx l) : W.isEq (.str (S l)) (.str (S l)) = some true := isEq_self (S_ok h) (Nat.zero_le _)
theorem tld {C : Nat → Orc} (h : RdH C) (k : Nat) {l : List Nat} {o : Option Wr} (hl : Tx l) (hr : Reads l o) {t0 t1 t2 t3 t4 t6 t8 t9 : Sl} :
    ifE (tstE (cmpE .NotEq (plE (userE (C (k + 14)) "_law_told" (plS [(plName 5)]))) (plE (tupE (evS [dat (nameE 7), dat (binE itemW (plE (lstE (evS [dat (cst (.str "NoText+")), dat (cst (.str ""))]))) (plE (callE "int" (plS [(plE (cmpE .IsNot (plName 7) (plE (cst .non))))]))))]))))) (blkS [retS (cst (.bl false))]) (blkS []) [t0, t1, t2, t3, t4, .d (.str (S l)), t6, .d (dueW o), t8, t9] = .ok .nx [t0, t1, t2, t3, t4, .d (.str (S l)), t6, .d (dueW o), t8, t9] := by
  have e1 := told h k hl hr
  have e2 := told_ok hl hr
  cases o with
  | some r =>
    obtain ⟨ws, hw⟩ := w_tup r
    have hx : ixOf 2 1 = some 1 := rfl
    simp only [dueW, toldW, hw] at e1 e2 ⊢
    simp -implicitDefEqProofs [e1, e2, sizeLine, hx]
  | none =>
    have hx : ixOf 2 0 = some 0 := rfl
    simp only [dueW, toldW] at e1 e2 ⊢
    simp -implicitDefEqProofs [e1, e2, sizeLine, hx]
end P

-- LbTx16
/-! k71: the loops. -/
namespace P
open PySem Pf
open SX (S)
theorem blk1 {s : M Fl} {ρ ρ' : Pf.Env} (h : s ρ = .ok .nx ρ') : blkS [s] ρ = .ok .nx ρ' := by simp [h]
theorem k71_spoil {C : Nat → Orc} (h : K71H C) (k : Nat) {t0 t1 t3 t4 t6 t7 t8 t9 : Sl} {ds : List W} {l : List Nat} (hd : Dr ds) (ht : Tn 0 l) :
    ∃ ρ', l3_law_k71 (C (k + 212)) [t0, t1, .o (.lst ds), t3, t4, .d (.str (S l)), t6, t7, t8, t9] = .ok .nx ρ' ∧ ∃ t2 t5 t6 t7, ρ' = [t0, t1, t2, t3, t4, t5, t6, t7, t8, t9] := by
  have h4 : inHalf 4 = true := by unfold inHalf; exact decide_eq_true (by omega)
  obtain ⟨ρ', e, q⟩ := forS_all0 (it := itR1 (plS [(plE (cst (.int 4)))])) (ρ := [t0, t1, .o (.lst ds), t3, t4, .d (.str (S l)), t6, t7, t8, t9]) (ρ1 := [t0, t1, .o (.lst ds), t3, t4, .d (.str (S l)), t6, t7, t8, t9]) (xs := rangeL 0 4) (lk := []) (tg := tgName 1 [] 6)
    (body := blkT [actS (setS 1 [] 5 (userE (C (k + 212)) "_law_spoilt" (plS [(plName 5), (plName 2)]))),
    actS (setS 1 [] 7 (userE (C (k + 212)) "_law_read_where" (plS [(plName 5)]))),
    ifE (andT [(tstE (cmpE .IsNot (plName 7) (plE (cst .non)))), (tstE (cmpE .NotEq (plE (userE (C (k + 212)) "_law_where_text" (plS [(plName 7)]))) (plName 5)))]) (blkS [retS (cst (.bl false))]) (blkS [])] (k4_law_k71 (C (k + 212)))) (by simp [h4])
    (fun pre ρ => ∃ ds l t6 t7, Dr ds ∧ Tn pre.length l ∧ ρ = [t0, t1, .o (.lst ds), t3, t4, .d (.str (S l)), t6, t7, t8, t9]) (by
      rintro pre w post ρ e ⟨ds, l, t6, t7, hd, ht, rfl⟩
      have hlen : pre.length < 4 := by
        have := congrArg List.length e
        rw [rangeL_len, List.length_append, List.length_cons] at this
        have : (4 - 0 : Int).toNat = 4 := rfl
        omega
      obtain ⟨l', d1, e1, g1, ht1⟩ := spoilt h.draw h.spoilt (k + 210) hd hlen ht
      obtain ⟨hx, hop⟩ := ht1.tx
      obtain ⟨o, ho⟩ := reads l'
      have e2 := law_read h.r k hx hop ho
      have e4 : k4_law_k71 (C (k + 212)) [t0, t1, .o (.lst d1), t3, t4, .d (.str (S l')), .d w, .d (dueW o), t8, t9] = .ok .nx [t0, t1, .o (.lst d1), t3, t4, .d (.str (S l')), .d w, .d (dueW o), t8, t9] := by
        have := tld h.r (k + 198) hx ho (t0 := t0) (t1 := t1) (t2 := .o (.lst d1)) (t3 := t3) (t4 := t4) (t6 := .d w) (t8 := t8) (t9 := t9)
        exact blk1 this
      have e2' : C (k + 212) "_law_read_where" [.d (.str (S l'))] = .ret (.d (dueW o)) [.d (.str (S l'))] := e2
      clear e2
      refine ⟨_, ?_, d1, l', .d w, .d (dueW o), g1, by rw [List.length_append]; exact ht1, rfl⟩
      cases o with
      | none =>
        simp only [dueW] at e2' e4 ⊢
        simp -implicitDefEqProofs [e1, e2', e4]
      | some r =>
        cases ho with
        | some q1 q2 q3 =>
          have e3 := law_where_text h.lst h.lwt r q1 q2 (k + 210 - r.d)
          rw [show k + 210 - r.d + r.d + 2 = k + 212 by omega, ← q3] at e3
          have e5 := text_self hx
          obtain ⟨ws, hw⟩ := w_tup r
          simp only [dueW, hw] at e2' e3 e4 ⊢
          simp -implicitDefEqProofs [e1, e2', e3, e4, e5]) ⟨ds, l, t6, t7, hd, ht, rfl⟩
  obtain ⟨d2, l2, t6, t7, _, _, rfl⟩ := q
  exact ⟨_, e, _, _, _, _, rfl⟩
end P

-- PfLc
set_option maxHeartbeats 4000000
/-! comprehensions, the environment after them named. -/
namespace P
open PySem Pf
section
variable {A : Type} {ρ ρ1 ρ2 : Pf.Env} {is : List Nat} {it : M (List W × List (Nat × W))} {tg : W → M Unit} {test : M Bool} {elt : M W}
theorem lc_filterE {l : List A} {g f : A → W} {p : A → Bool} (hit : it ρ = .ok (l.map g, []) ρ1) (hn : noOwn ρ1 is = true) (hsz : l.length ≤ sizeLine)
    (hs : ∀ a ∈ l, ∃ ρ2, obind (tg (g a) (clear ρ1 is)) (fun _ => test) = .ok (p a) ρ2 ∧ (p a = true → ∃ ρ3, elt ρ2 = .ok (f a) ρ3 ∧ clear ρ3 is = clear ρ1 is) ∧ (p a = false → clear ρ2 is = clear ρ1 is)) (hr : restore ρ1 (clear ρ1 is) is = ρ2) :
    lcE is it tg test elt ρ = .ok (.o (.lst ((l.filter p).map f))) ρ2 := by
  rw [lc_filter hit hn hsz hs, hr]
theorem lc_pureE {l : List A} {g f : A → W} (hit : it ρ = .ok (l.map g, []) ρ1) (hn : noOwn ρ1 is = true) (hsz : l.length ≤ sizeLine)
    (hs : ∀ a ∈ l, ∃ ρ3, obind (tg (g a) (clear ρ1 is)) (fun _ => elt) = .ok (f a) ρ3 ∧ clear ρ3 is = clear ρ1 is) (hr : restore ρ1 (clear ρ1 is) is = ρ2) :
    lcE is it tg (M.ret true) elt ρ = .ok (.o (.lst (l.map f))) ρ2 := by
  rw [lc_pure hit hn hsz hs, hr]
end
end P

-- LbTx17
set_option maxHeartbeats 8000000
/-! k71: the odd texts, the odd things. -/
namespace P
open PySem Pf
open SX (S)
def oddB (s : Str) : Bool := s.cps.toList.all (fun c => decide (c < 128)) && decide (s.length ≤ 1000) && decide (ops s.cps.toList ≤ 190)
theorem odd_of {s : Str} (h : oddB s = true) : ∃ l, s = S l ∧ Tx l ∧ ops l ≤ 190 := by
  unfold oddB at h
  rw [Bool.and_eq_true, Bool.and_eq_true, decide_eq_true_eq, decide_eq_true_eq, List.all_eq_true] at h
  refine ⟨s.cps.toList, ?_, ⟨fun c hc => of_decide_eq_true (h.1.1 c hc), ?_⟩, h.2⟩
  · cases s; simp [S]
  · have : s.cps.toList.length = s.length := by cases s; simp [Str.length]
    omega
theorem k71_odds {C : Nat → Orc} (h : K71H C) (k : Nat) {t0 t1 t2 t3 t4 t5 t6 t7 t9 : Sl} {od : List W} (hd : ∀ w ∈ od ++ [.str "numbers:03-5", .str "days:0-", .str "numbers:0-4", .str "numbers:5-4", .str "spent:a:1:0"], ∃ s, w = .str s ∧ oddB s = true) (hlen : od.length ≤ 100) :
    ∃ ρ', l5_law_k71 (C (k + 212)) [t0, t1, t2, t3, t4, t5, t6, t7, .o (.lst od), t9] = .ok .nx ρ' ∧ ∃ t5 t7, ρ' = [t0, t1, t2, t3, t4, t5, t6, t7, .o (.lst od), t9] := by
  refine forS_all0 (ρ1 := [t0, t1, t2, t3, t4, t5, t6, t7, .o (.lst od), t9]) (xs := od ++ [.str "numbers:03-5", .str "days:0-", .str "numbers:0-4", .str "numbers:5-4", .str "spent:a:1:0"]) ?_
    (fun pre ρ => ∃ t5 t7, ρ = [t0, t1, t2, t3, t4, t5, t6, t7, .o (.lst od), t9]) ?_ ⟨_, _, rfl⟩
  · have z2 : od.length + 5 ≤ 16777216 := by omega
    simp -implicitDefEqProofs [sz, z2]
  · rintro pre w post ρ e ⟨t5, t7, rfl⟩
    obtain ⟨s, rfl, hs⟩ := hd w (by rw [e]; simp)
    obtain ⟨l, rfl, hx, hop⟩ := odd_of hs
    obtain ⟨o, ho⟩ := reads l
    have e2 : C (k + 212) "_law_read_where" [.d (.str (S l))] = .ret (.d (dueW o)) [.d (.str (S l))] := law_read h.r k hx hop ho
    have e4 := tld h.r (k + 198) hx ho (t0 := t0) (t1 := t1) (t2 := t2) (t3 := t3) (t4 := t4) (t6 := t6) (t8 := .o (.lst od)) (t9 := t9)
    refine ⟨[t0, t1, t2, t3, t4, .d (.str (S l)), t6, .d (dueW o), .o (.lst od), t9], ?_, _, _, rfl⟩
    rw [show k + 198 + 14 = k + 212 from rfl] at e4
    revert e4
    generalize ifE (tstE _) _ _ = I
    intro e4
    simp -implicitDefEqProofs [e2, e4]
theorem k71_things {C : Nat → Orc} (h : K71H C) (k : Nat) {t0 t1 t2 t3 t4 t5 t6 t7 t8 : Sl} :
    l6_law_k71 (C (k + 212)) [t0, t1, t2, t3, t4, t5, t6, t7, t8, .e] = .ok (.o (.lst [])) [t0, t1, t2, t3, t4, t5, t6, t7, t8, .e] := by
  unfold l6_law_k71
  have := lc_filterE (ρ := [t0, t1, t2, t3, t4, t5, t6, t7, t8, .e]) (ρ1 := [t0, t1, t2, t3, t4, t5, t6, t7, t8, .e]) (ρ2 := [t0, t1, t2, t3, t4, t5, t6, t7, t8, .e]) (l := [.non, .int 7, .bl true, .lst [.str "all"], .tup [.str "all"]]) (g := id) (f := id) (p := fun w => false) (is := [9])
    (it := itE (plE (lstE (evS [dat (cst .non), dat (cst (.int 7)), dat (cst (.bl true)), dat (lstE (evS [dat (cst (.str "all"))])), dat (tupE (evS [dat (cst (.str "all"))]))])))) (tg := tgName 1 [] 9)
    (test := tstE (cmpE .NotEq (plE (userE (C (k + 212)) "_law_told" (plS [(plName 9)]))) (plE (tupE (evS [dat (cst .non), dat (cst (.str "NoText+"))]))))) (elt := dat (nameE 9)) (by simp [sizeLine]) rfl (by decide) (fun w hw => by
      have e : C (k + 212) "_law_told" [.d w] = .ret (.d (toldW none)) [.d w] := told_not h.r (k + 198) (by
        revert w; simp) (by revert w; decide +kernel)
      have e2 : W.isEq (toldW none) (toldW none) = some true := by decide +kernel
      clear hw
      simp only [toldW] at e e2
      exact ⟨[t0, t1, t2, t3, t4, t5, t6, t7, t8, .d w], by simp -implicitDefEqProofs [e, e2, clear, sizeLine], fun z => (by cases z), fun _ => by simp [clear]⟩) (by simp [restore, clear])
  rw [show ([W.non, .int 7, .bl true, .lst [.str "all"], .tup [.str "all"]].filter fun _ => false).map id = [] from rfl] at this
  exact this
theorem mul5 : W.mul (.str "!") (.int 5) = some (.d (.str "!!!!!")) := by
  rw [mul_si, if_pos (by decide +kernel)]
  congr 3
theorem mul6 : W.mul (.str "!") (.int 6) = some (.d (.str "!!!!!!")) := by
  rw [mul_si, if_pos (by decide +kernel)]
  congr 3
end P

-- LbTx18
/-! k71: the law. -/
namespace P
open PySem Pf
open SX (S)
theorem k71_one {C : Nat → Orc} (h : K71H C) (k : Nat) {ns : List Int} {i : Int} (i0 : 0 ≤ i) (i1 : i < 16) (hlen : ns.length ≤ 63) {t2 t3 t4 t5 t6 t7 t8 t9 : Sl} :
    ∃ ρ', obind (tgName 1 [] 1 (.int i) [.d (.scr ns), t1, t2, t3, t4, t5, t6, t7, t8, t9]) (fun _ => blkT [actS (setS 1 [] 2 (userE (C (k + 212)) "_law_draws" (plS [(plName 0), (plName 1)]))),
    actS (setS 1 [] 3 (userE (C (k + 212)) "_law_names" (plS [(plName 2), (plE (cst (.int 5)))]))),
    actS (setS 1 [] 4 (userE (C (k + 212)) "_law_where" (plS [(plName 2), (plName 3), (plE (userE (C (k + 212)) "_law_far" (plS [(plName 2)]))), (plE (binE W.add (plE (cst (.int 1))) (plE (userE (C (k + 212)) "_law_draw" (plS [(plName 2), (plE (cst (.int 6)))])))))]))),
    actS (setS 1 [] 5 (userE (C (k + 212)) "where_text" (plS [(plName 4)]))),
    ifE (orT [(notT (truE (plE (callE "isinstance" (plS [(plName 5), (plE (cst (.ty "str")))]))))), (tstE (cmpE .NotEq (plName 5) (plE (userE (C (k + 212)) "_law_where_text" (plS [(plName 4)]))))), (tstE (cmpE .NotEq (plE (userE (C (k + 212)) "_law_told" (plS [(plName 5)]))) (plE (tupE (evS [dat (nameE 4), dat (cst (.str ""))])))))]) (blkS [retS (cst (.bl false))]) (blkS [])] (k2_law_k71 (C (k + 212)))) = .ok .nx ρ' ∧ ∃ t1 t2 t3 t4 t5 t6 t7, ρ' = [.d (.scr ns), t1, t2, t3, t4, t5, t6, t7, t8, t9] := by
  obtain ⟨ds, e1, g1⟩ := draws h.draws (k + 211) (ns := ns) i0 (by omega) hlen
  obtain ⟨nm, d2, e2, g2, hn, hN⟩ := names h.draw h.name h.order h.names (k + 209) g1 (n := 5) (by decide) (by decide)
  obtain ⟨fr, d3, e3, g3, hf⟩ := far h.draw h.far (k + 210) g2
  obtain ⟨v4, d4, e4, g4, l4, u4⟩ := draw h.draw (k + 211) g3 (n := 6) (by decide) (by decide)
  have hf1 : 1 ≤ fr := by omega
  have hf2 : fr ≤ 10 ^ 40 := by rcases hf with rfl | rfl | rfl | rfl <;> decide
  obtain ⟨j, hj⟩ : ∃ j : Nat, 1 + v4 = j := ⟨(1 + v4).toNat, by omega⟩
  obtain ⟨r, d5, e5, g5, p1, p2⟩ := where71 h.draw h.number h.span h.plain h.wh hf1 hf2 (m := 5) (by simpa using hn) (by decide) (by decide) hN j (k + 207 - j) g4
  rw [show k + 207 - j + j + 5 = k + 212 by omega] at e5
  have hd : r.d ≤ 6 := by omega
  have ht := Tn0 p1 hd
  obtain ⟨hx, hop⟩ := ht.tx
  have e6 := where_text h.st h.wt r p1 hd (k + 210 - r.d)
  have e7 := law_where_text h.lst h.lwt r p1 hd (k + 210 - r.d)
  rw [show k + 210 - r.d + r.d + 2 = k + 212 by omega] at e6 e7
  have ho : Reads r.t (some r) := .some p1 hd rfl
  have e8 : C (k + 212) "_law_told" [.d (.str (S r.t))] = .ret (.d (toldW (some r))) [.d (.str (S r.t))] := told h.r (k + 198) hx ho
  have e9 := told_ok hx ho
  have e10 := text_self hx
  obtain ⟨ρ', e11, q2, q5, q6, q7, rfl⟩ := k71_spoil h k (t0 := .d (.scr ns)) (t1 := .d (.int i)) (t3 := .o (.lst nm)) (t4 := .d r.w) (t6 := t6) (t7 := t7) (t8 := t8) (t9 := t9) g5 ht
  have e12 : k2_law_k71 (C (k + 212)) [.d (.scr ns), .d (.int i), .o (.lst d5), .o (.lst nm), .d r.w, .d (.str (S r.t)), t6, t7, t8, t9] = .ok .nx [.d (.scr ns), .d (.int i), q2, .o (.lst nm), .d r.w, q5, q6, q7, t8, t9] := blk1 e11
  refine ⟨[.d (.scr ns), .d (.int i), q2, .o (.lst nm), .d r.w, q5, q6, q7, t8, t9], ?_, _, _, _, _, _, _, _, rfl⟩
  · simp only [toldW] at e8 e9
    clear hx ht hop ho e11
    generalize r.w = w at *
    generalize S r.t = s at *
    simp -implicitDefEqProofs [sz, e1, e2, e3, e4, hj, e5, e6, e7, e8, e9, e10, e12]
theorem k71_law {C : Nat → Orc} (h : K71H C) (k : Nat) (ns : List Int) (hlen : ns.length ≤ 63) : ∃ outs, C (k + 213) "law" [.d (.scr ns)] = .ret (.d (.bl true)) outs := by
  rw [show k + 213 = (k + 212) + 1 from rfl, h.law]
  unfold b_law_k71
  obtain ⟨m, hm, hm16⟩ : ∃ m : Int, m = (if (if (ns.length : Int) < 10 then (ns.length : Int) else 10) > 1 then (if (ns.length : Int) < 10 then (ns.length : Int) else 10) else 1) ∧ m ≤ 16 := ⟨_, rfl, by split <;> split <;> omega⟩
  have hm0 : 0 ≤ m := by rw [hm]; split <;> split <;> omega
  have hh : inHalf m = true := by unfold inHalf; exact decide_eq_true (by omega)
  obtain ⟨ρ', hl, t1, t2, t3, t4, t5, t6, t7, rfl⟩ : ∃ ρ', l1_law_k71 (C (k + 212)) [.d (.scr ns), .e, .e, .e, .e, .e, .e, .e, .e, .e] = .ok .nx ρ' ∧ ∃ t1 t2 t3 t4 t5 t6 t7, ρ' = [.d (.scr ns), t1, t2, t3, t4, t5, t6, t7, .e, .e] := by
    refine forS_all0 (ρ1 := [.d (.scr ns), .e, .e, .e, .e, .e, .e, .e, .e, .e]) (xs := rangeL 0 m) ?_ (fun pre ρ => ∃ t1 t2 t3 t4 t5 t6 t7, ρ = [.d (.scr ns), t1, t2, t3, t4, t5, t6, t7, .e, .e]) ?_ ⟨_, _, _, _, _, _, _, rfl⟩
    · simp [← hm, hh]
    · rintro pre w post ρ e ⟨t1, t2, t3, t4, t5, t6, t7, rfl⟩
      obtain ⟨i, rfl, i0, i1⟩ := rangeL_mem (show w ∈ rangeL 0 m by rw [e]; simp)
      exact k71_one h k i0 (by omega) hlen
  obtain ⟨ρ', h5, t5', t7', rfl⟩ := k71_odds h k (t0 := .d (.scr ns)) (t1 := t1) (t2 := t2) (t3 := t3) (t4 := t4) (t5 := t5) (t6 := t6) (t7 := t7) (t9 := .e) (od := [.str (("!!!!!" : Str) ++ "all"), .str (("!!!!!!" : Str) ++ "all"), .str "", .str "!", .str "()", .str "(all&)", .str "(all&all", .str "all:"]) (by
    intro w hw
    simp only [List.cons_append, List.nil_append, List.mem_cons, List.not_mem_nil, or_false] at hw
    rcases hw with rfl | rfl | rfl | rfl | rfl | rfl | rfl | rfl | rfl | rfl | rfl | rfl | rfl <;> exact ⟨_, rfl, by decide +kernel⟩) (by decide)
  have h6 := k71_things h k (t0 := .d (.scr ns)) (t1 := t1) (t2 := t2) (t3 := t3) (t4 := t4) (t5 := t5') (t6 := t6) (t7 := t7') (t8 := .o (.lst [.str (("!!!!!" : Str) ++ "all"), .str (("!!!!!!" : Str) ++ "all"), .str "", .str "!", .str "()", .str "(all&)", .str "(all&all", .str "all:"]))
  have a5 : W.add (.str "!!!!!") (.str "all") = some (.d (.str (("!!!!!" : Str) ++ "all"))) := by rw [Pf.add_ss, if_pos (by decide +kernel)]
  have a6 : W.add (.str "!!!!!!") (.str "all") = some (.d (.str (("!!!!!!" : Str) ++ "all"))) := by rw [Pf.add_ss, if_pos (by decide +kernel)]
  have z0 : W.isEq (.lst []) (.lst []) = some true := by decide +kernel
  have m5 := mul5
  have m6 := mul6
  generalize (("!!!!!" : Str) ++ "all") = x5 at *
  generalize (("!!!!!!" : Str) ++ "all") = x6 at *
  generalize ("!!!!!" : Str) = y5 at *
  generalize ("!!!!!!" : Str) = y6 at *
  exact ⟨[.d (.scr ns)], by simp -implicitDefEqProofs [-mul_si, -Pf.add_ss, hl, z0, m5, m6, h5, h6, sizeLine, a5, a6]⟩
end P

-- K71End
namespace K71
open P
theorem isH : IsH C := ⟨h_is_whole, h_is_span, h_is_name, h_is_count, h_is_plain, h_is_within, h_is_where⟩
theorem lisH : LIsH C := ⟨h__law_whole, h__law_from, h__law_is_name, h__law_is_tuple, h__law_is_span, h__law_is_where⟩
theorem all : K71H C where
  r := ⟨isH, lisH, h_number_in, h_plain_in, h_parted, h_where_in, h_read_where, h__law_number_in, h__law_begin_in, h__law_read_where, h__law_told⟩
  draw := h__law_draw
  number := h__law_number
  span := h__law_span
  draws := h__law_draws
  name := h__law_name
  order := h__law_any_order
  names := h__law_names
  far := h__law_far
  plain := h__law_plain_where
  wh := h__law_where
  st := h_span_text
  wt := h_where_text
  lst := h__law_span_text
  lwt := h__law_where_text
  spoilt := h__law_spoilt
  law := h_law
end K71
theorem PySem.Challenge.cw_partsfrom_k71_texts_of_wheres_holds : PySem.Challenge.rw_partsfrom_k71_texts_of_wheres.Holds :=
  K71.holds fun ns h _ => P.k71_law K71.all 17 ns h
