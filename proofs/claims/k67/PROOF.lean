import PyProof.Rows.All
import HandS.ForMost
import HandS.Deep
import HandS.TupAny
import HandS.TupMul
import HandS.Codes
import HandS.Conv
import HandS.Exc
import HandS.DictComp
import HandS.Defaults
import HandS.Head0
import HandS.EndBits
import HandS.Head1
import HandS.Head2
import HandS.HeadEnd
import HandS.HeadHook1
import HandS.HeadHook2
import PySem.Challenge.RW_latchfolk_k67_whole_numbers_by_another_s
set_option Elab.async false
set_option linter.all false
set_option maxRecDepth 100000
set_option maxHeartbeats 0
/-! Vm: a small deterministic interpreter (values, cells, expressions, statements, calls by fuel). -/
namespace Vm
open PySem

/-- values: ref = a cell of the virtual heap; lst, tup, dct = data that nobody changes -/
inductive W where
  | non | bl (b : Bool) | int (i : Int) | str (s : Str)
  | tup (xs : List W) | lst (xs : List W)
  | dct (ks : List L2.Key) (vs : List W)
  | ref (n : Nat)
  | glb (x : Str)
  | ty (n : String)
  | exc (c : Str) (fs : List Str) (vs : List W)
  | scr (xs : List W)
  deriving Inhabited

abbrev Key := L2.Key

inductive Cell where
  | lst (xs : List W)
  | dk (kvs : List (Key × W))
  | dt (kvs : List (List Key × W))
  | ins (c : Str) (fs : List (Str × W))
  | lock (c : Cell)
  deriving Inhabited

abbrev VH := List Cell
abbrev VS := List (Option W)

inductive R (α : Type) where
  | ok (a : α) (h : VH)
  | exc (x : W) (h : VH)
  | bad

namespace R
def bind {α β : Type} : R α → (α → VH → R β) → R β
  | .ok a h, f => f a h
  | .exc x h, _ => .exc x h
  | .bad, _ => .bad
@[simp] theorem bind_ok {α β : Type} (a : α) (h : VH) (f : α → VH → R β) : (R.ok a h).bind f = f a h := rfl
@[simp] theorem bind_exc {α β : Type} (x : W) (h : VH) (f : α → VH → R β) : (R.exc x h : R α).bind f = .exc x h := rfl
@[simp] theorem bind_bad {α β : Type} (f : α → VH → R β) : (R.bad : R α).bind f = .bad := rfl
def of {α : Type} (o : Option α) (h : VH) : R α := match o with
  | some a => .ok a h
  | none => .bad
@[simp] theorem of_some {α : Type} (a : α) (h : VH) : R.of (some a) h = .ok a h := rfl
@[simp] theorem of_none {α : Type} (h : VH) : (R.of none h : R α) = .bad := rfl
end R

/-! ### data: a value as the library's PyData -/
mutual
def W.data : W → Option PyData
  | .non => some .none
  | .bl b => some (.bool b)
  | .int i => some (.int i)
  | .str s => some (.str s)
  | .tup xs => (W.datas xs).map .tuple
  | .lst xs => (W.datas xs).map .list
  | _ => none
def W.datas : List W → Option (List PyData)
  | [] => some []
  | x :: xs => match W.data x, W.datas xs with
    | some d, some ds => some (d :: ds)
    | _, _ => none
end
mutual
def W.dataH (h : VH) : W → Option PyData
  | .non => some .none
  | .bl b => some (.bool b)
  | .int i => some (.int i)
  | .str s => some (.str s)
  | .tup xs => (W.datasH h xs).map .tuple
  | .lst xs => (W.datasH h xs).map .list
  | .ref n => match h[n]? with
    | some (.lst xs) => (W.datas xs).map .list
    | _ => none
  | _ => none
def W.datasH (h : VH) : List W → Option (List PyData)
  | [] => some []
  | x :: xs => match W.dataH h x, W.datasH h xs with
    | some d, some ds => some (d :: ds)
    | _, _ => none
end
mutual
def W.ofData : PyData → W
  | .none => .non
  | .bool b => .bl b
  | .int i => .int i
  | .str s => .str s
  | .tuple xs => .tup (W.ofDatas xs)
  | .list xs => .lst (W.ofDatas xs)
  | .dict _ => .non
def W.ofDatas : List PyData → List W
  | [] => []
  | x :: xs => W.ofData x :: W.ofDatas xs
end

/-! ### a decidable equality -/
mutual
def W.beq : W → W → Bool
  | .non, .non => true
  | .bl a, .bl b => a == b
  | .int a, .int b => a == b
  | .str a, .str b => decide (a = b)
  | .tup a, .tup b => W.beqs a b
  | .lst a, .lst b => W.beqs a b
  | .dct k a, .dct l b => decide (k = l) && W.beqs a b
  | .ref a, .ref b => a == b
  | .glb a, .glb b => decide (a = b)
  | .ty a, .ty b => a == b
  | .exc c f a, .exc d g b => decide (c = d) && decide (f = g) && W.beqs a b
  | .scr a, .scr b => W.beqs a b
  | _, _ => false
def W.beqs : List W → List W → Bool
  | [], [] => true
  | a :: x, b :: y => W.beq a b && W.beqs x y
  | _, _ => false
end


/-! ### operations on values -/
def asLst (h : VH) : W → Option (List W)
  | .lst xs => some xs
  | .ref n => match h[n]? with
    | some (.lst xs) => some xs
    | _ => none
  | _ => none
def asTup : W → Option (List W)
  | .tup xs => some xs
  | _ => none
def asSeq (h : VH) (w : W) : Option (List W) := match asTup w with
  | some xs => some xs
  | none => asLst h w
def asInt : W → Option Int
  | .int i => some i
  | _ => none
def asStr : W → Option Str
  | .str s => some s
  | _ => none
def asBl : W → Option Bool
  | .bl b => some b
  | _ => none
def allInt : List W → Option (List Int)
  | [] => some []
  | .int i :: r => (allInt r).map (i :: ·)
  | _ :: _ => none
def allStr : List W → Option (List Str)
  | [] => some []
  | .str i :: r => (allStr r).map (i :: ·)
  | _ :: _ => none
def allBl : List W → Option (List Bool)
  | [] => some []
  | .bl i :: r => (allBl r).map (i :: ·)
  | _ :: _ => none

def rep (k : Nat) (xs : List W) : List W := (List.replicate k xs).flatten

def mulOk (i j : Int) : Bool := (decide (-(2 ^ 64) < i) && decide (i < 2 ^ 64)) || (decide (-(2 ^ 64) < j) && decide (j < 2 ^ 64))
def addW (h : VH) (a b : W) : Option W := match a, b with
  | .int i, .int j => some (.int (i + j))
  | .str x, .str y => if x.length + y.length ≤ sizeLine then some (.str (x ++ y)) else none
  | .tup x, .tup y => if x.length + y.length ≤ sizeLine then some (.tup (x ++ y)) else none
  | a, b => match asLst h a, asLst h b with
    | some x, some y => if x.length + y.length ≤ sizeLine then some (.lst (x ++ y)) else none
    | _, _ => none
def mulW (h : VH) (a b : W) : Option W := match a, b with
  | .int i, .int j => if mulOk i j then some (.int (i * j)) else none
  | .tup x, .int k => if x ≠ [] ∧ 2 ≤ k ∧ k ≤ 1000 ∧ x.length ≤ 1000 then some (.tup (rep k.toNat x)) else none
  | a, .int k => match asLst h a with
    | some x => if -(2 ^ 63) ≤ k ∧ k < 2 ^ 63 ∧ x.length * k.toNat ≤ sizeLine then some (.lst (rep k.toNat x)) else none
    | none => none
  | _, _ => none
def binW (op : Operator) (h : VH) (a b : W) : Option W := match op with
  | .Add => addW h a b
  | .Mult => mulW h a b
  | .Sub => (asInt a).bind fun i => (asInt b).bind fun j => some (.int (i - j))
  | .FloorDiv => (asInt a).bind fun i => (asInt b).bind fun j => if 0 < j ∧ j < 1073741824 then some (.int (i / j)) else none
  | .Mod => (asInt a).bind fun i => (asInt b).bind fun j => if 0 < j then some (.int (i % j)) else none
  | .Pow => (asInt a).bind fun i => (asInt b).bind fun j => if 0 ≤ j ∧ j ≤ 1000000 ∧ i.natAbs < 2 ^ 64 then some (.int (i ^ j.toNat)) else none
  | _ => none

/-- == of two scalars that are told apart as data -/
def scalE : W → W → Option Bool
  | .non, .non => some true
  | .non, .int _ => some false
  | .int _, .non => some false
  | .non, .bl _ => some false
  | .bl _, .non => some false
  | .non, .str _ => some false
  | .str _, .non => some false
  | .int i, .int j => some (decide (i = j))
  | .bl i, .bl j => some (decide (i = j))
  | .str i, .str j => some (decide (i = j))
  | .int _, .str _ => some false
  | .str _, .int _ => some false
  | .bl _, .str _ => some false
  | .str _, .bl _ => some false
  | _, _ => none
def dataE (h : VH) (a b : W) : Option Bool := match W.dataH h a, W.dataH h b with
  | some d, some e => if SeqAt.shaped d && SeqAt.shaped e then some (PyData.eqv d e) else none
  | _, _ => none
def eqW (h : VH) (a b : W) : Option Bool := match scalE a b with
  | some r => some r
  | none => dataE h a b
def flatP : PyData → Bool
  | .none => true
  | .bool _ => true
  | .int _ => true
  | .str _ => true
  | _ => false
def keyOf : W → Option Key
  | .int i => some (.inl i)
  | .str s => some (.inr s)
  | _ => none
def keysOf : List W → Option (List Key)
  | [] => some []
  | x :: r => match keyOf x, keysOf r with
    | some k, some ks => some (k :: ks)
    | _, _ => none
def tkeyOf : W → Option (List Key)
  | .tup xs => keysOf xs
  | _ => none
section
variable {κ α : Type} [DecidableEq κ]
def kget (kvs : List (κ × α)) (k : κ) : Option α := (kvs.find? fun kv => decide (kv.1 = k)).map (·.2)
def kput (kvs : List (κ × α)) (k : κ) (v : α) : List (κ × α) :=
  if (kvs.any fun kv => decide (kv.1 = k)) = true then kvs.map (fun kv => if kv.1 = k then (kv.1, v) else kv) else kvs ++ [(k, v)]
def kdrop (kvs : List (κ × α)) (k : κ) : List (κ × α) := kvs.filter fun kv => decide (kv.1 ≠ k)
end
def unlock : Cell → Cell
  | .lock c => c
  | c => c
/-- a dict's item, if any: none where it is no dict, or the key is none of its kind -/
def dget (h : VH) (o k : W) : Option (Option W) := match o with
  | .ref n => match (h[n]?).map unlock with
    | some (.dk kvs) => (keyOf k).map (kget kvs)
    | some (.dt kvs) => (tkeyOf k).map (kget kvs)
    | _ => none
  | .dct ks vs => (keyOf k).map (kget (ks.zip vs))
  | _ => none
def isDict (h : VH) (o : W) : Bool := match o with
  | .ref n => match (h[n]?).map unlock with
    | some (.dk _) => true
    | some (.dt _) => true
    | _ => false
  | .dct _ _ => true
  | _ => false
/-- x in y -/
def inW (h : VH) (x y : W) : Option Bool := match y with
  | .str z => match x with
    | .str s => match s.cps.toList with
      | [c] => some (decide (c ∈ z.cps.toList))
      | _ => some (!(Builtin.Str.occurrences z s 0 z.length 1).isEmpty)
    | _ => none
  | _ => match isDict h y with
    | true => (dget h y x).map (·.isSome)
    | false => match asSeq h y with
      | some ys => match W.dataH h x, W.datasH h ys with
        | some d, some ds =>
          if flatP d && ds.all flatP then some (ds.any fun z => PyData.eqv z d)
          else if SeqAt.shaped d && SeqAt.shaped (.list ds) then (match asTup y with
            | some _ => none
            | none => some (ds.any fun z => PyData.eqv z d))
          else none
        | _, _ => none
      | none => none
def lexLt : List Int → List Int → Bool := HT.lexLt
def ltW (a b : W) : Option Bool := match a, b with
  | .int i, .int j => some (decide (i < j))
  | .str i, .str j => some (decide (i.cps.toList < j.cps.toList))
  | .tup x, .tup y => match allInt x, allInt y with
    | some ns, some ms => some (HT.lexLt ns ms)
    | _, _ => none
  | _, _ => none
def isNon : W → Option Bool
  | .non => some true
  | .glb _ => none
  | .exc _ _ _ => none
  | _ => some false
def cmpW (op : CmpOp) (h : VH) (a b : W) : Option Bool := match op with
  | .Eq => eqW h a b
  | .NotEq => (eqW h a b).map (!·)
  | .Lt => ltW a b
  | .LtE => (asInt a).bind fun i => (asInt b).bind fun j => some (decide (i ≤ j))
  | .Gt => (asInt a).bind fun i => (asInt b).bind fun j => some (decide (j < i))
  | .GtE => (asInt a).bind fun i => (asInt b).bind fun j => some (decide (j ≤ i))
  | .In => inW h a b
  | .NotIn => (inW h a b).map (!·)
  | .Is => match b with
    | .non => isNon a
    | _ => none
  | .IsNot => match b with
    | .non => (isNon a).map (!·)
    | _ => none
/-- a value's truth -/
def truW (h : VH) : W → Option Bool
  | .non => some false
  | .bl b => some b
  | .int i => some (i != 0)
  | .str s => if s.length ≤ sizeLine then some ((s.length : Int) != 0) else none
  | .tup xs => some (!xs.isEmpty)
  | .lst xs => some (!xs.isEmpty)
  | .ref n => match h[n]? with
    | some (.lst xs) => some (!xs.isEmpty)
    | some (.dk kvs) => some (!kvs.isEmpty)
    | _ => none
  | _ => none
def lenW (h : VH) : W → Option Nat
  | .str s => if s.length ≤ sizeLine then some s.length else none
  | .tup xs => some xs.length
  | .lst xs => some xs.length
  | .ref n => match (h[n]?).map unlock with
    | some (.lst xs) => some xs.length
    | some (.dk kvs) => some kvs.length
    | _ => none
  | _ => none
/-- o[i] -/
def ixW (h : VH) (o i : W) : Option W := match isDict h o with
  | true => (dget h o i).bind id
  | false => match asInt i with
    | some k => match o with
      | .str z => if z.length ≤ sizeLine then (L2.atI z.cps.toList k).map fun c => .str ⟨#[c]⟩ else none
      | _ => (asSeq h o).bind fun xs => L2.atI xs k
    | none => none
def cutL {α : Type} (xs : List α) (lo hi : Option Int) : List α := (xs.drop (HT.sIx xs.length 0 lo)).take (HT.sIx xs.length xs.length hi - HT.sIx xs.length 0 lo)
def slcW (h : VH) (o : W) (l u : Option Int) : Option W := match o with
  | .tup xs => some (.tup (cutL xs l u))
  | .str z => if z.length ≤ sizeLine then some (.str ⟨(cutL z.cps.toList l u).toArray⟩) else none
  | .scr xs => some (.lst (cutL xs l u))
  | o => (asLst h o).map fun xs => .lst (cutL xs l u)

/-- a op= b of ints -/
def augV (op : Operator) (x y : W) : Option W := match x, y with
  | .int a, .int b => (match op with
    | .Add => some (.int (a + b))
    | .Sub => some (.int (a - b))
    | .Mult => if mulOk a b then some (.int (a * b)) else none
    | _ => none)
  | _, _ => none
/-- lists and dicts alone -/
def ixM (h : VH) (o i : W) : Option W := match isDict h o with
  | true => (dget h o i).bind id
  | false => (asInt i).bind fun k => (asLst h o).bind fun xs => L2.atI xs k

/-! ### stores -/
def setC (h : VH) (n : Nat) (c : Cell) : VH := h.set n c
/-- o[i] = v -/
def putW (h : VH) (o i v : W) : Option VH := match o with
  | .ref n => match h[n]? with
    | some (.lst xs) => (asInt i).bind fun k => (L2.ixN xs.length k).map fun j => h.set n (.lst (xs.set j v))
    | some (.dk kvs) => (keyOf i).bind fun k => if kvs.length < sizeLine then some (h.set n (.dk (kput kvs k v))) else none
    | some (.dt kvs) => (tkeyOf i).bind fun k => if kvs.length < sizeLine then some (h.set n (.dt (kput kvs k v))) else none
    | _ => none
  | _ => none
def delW (h : VH) (o i : W) : Option VH := match o with
  | .ref n => match h[n]? with
    | some (.dk kvs) => (keyOf i).bind fun k => if (kget kvs k).isSome then some (h.set n (.dk (kdrop kvs k))) else none
    | _ => none
  | _ => none

/-! ### expressions -/
inductive Tg where
  | v (i : Nat)
  | t (a : List Tg)

inductive Blt where
  | len | abs | int | sum | all | any | tuple | repr
  deriving DecidableEq
inductive Mth where
  | append | pop | get
  deriving DecidableEq
def Blt.name : Blt → Str
  | .len => "len" | .abs => "abs" | .int => "int" | .sum => "sum" | .all => "all" | .any => "any" | .tuple => "tuple" | .repr => "repr"
def Mth.name : Mth → Str
  | .append => "append" | .pop => "pop" | .get => "get"

mutual
inductive E where
  | non | bl (b : Bool) | int (i : Int) | str (s : Str)
  | var (i : Nat)
  | glb (x : Str)
  | bin (op : Operator) (a b : E)
  | neg (a : E)
  | cmp (op : CmpOp) (a b : E)
  | chn (o p : CmpOp) (a b c : E)
  | bop (con : Bool) (es : Es)
  | not (a : E)
  | ite (c a b : E)
  | tup (es : Es)
  | frz (m : Mk)
  | cel (m : Mk)
  | ix (a i : E)
  | slc (a : E) (lo hi : Eo)
  | call (f : Nat) (as : Es)
  | blt (b : Blt) (as : Es)
  | mth (m : Mth) (o : E) (as : Es)
inductive Es where
  | nil
  | cons (e : E) (r : Es)
inductive Eo where
  | none
  | some (e : E)
/-- what makes a new list or dict -/
inductive Mk where
  | lst (es : Es)
  | lc (own : List Nat) (tg : Tg) (it : It) (ifs : Eo) (elt : E)
  | lc2 (own : List Nat) (tg : Tg) (it : It) (tg1 : Tg) (it1 : It) (elt : E)
  | list (e : E)
  | rng (a : E) | rng2 (a b : E)
  | slc (a : E) (lo hi : Eo)
  | cat (a b : E)
  | rep (a b : E)
  | dk (es : Es)
  | dt (es : Es)
inductive It where
  | of (e : E)
  | rng (a : E)
  | rng2 (a b : E)
  | enum (e : E)
end

structure Itv where
  items : List W
  ok : VH → Bool

structure Ctx where
  call : Nat → List W → VH → R W
  gv : Str → Option W
  fuel : Nat

abbrev Dn : Type := (VS → VH → R W) × (VS → VH → R Bool)

mutual
def Tg.set : Tg → W → VS → Option VS
  | .v i, w, s => some (s.set i (some w))
  | .t ts, w, s => match w with
    | .tup ws => Tg.sets ts ws s
    | _ => none
def Tg.sets : List Tg → List W → VS → Option VS
  | [], [], s => some s
  | g :: gs, w :: ws, s => match Tg.set g w s with
    | some s1 => Tg.sets gs ws s1
    | none => none
  | _, _, _ => none
end
mutual
def Tg.slots : Tg → List Nat
  | .v i => [i]
  | .t ts => Tg.slotss ts
def Tg.slotss : List Tg → List Nat
  | [] => []
  | g :: gs => Tg.slots g ++ Tg.slotss gs
end
abbrev tgSet (t : Tg) (w : W) (s : VS) : Option VS := Tg.set t w s

def wipe (s : VS) : List Nat → VS
  | [] => s
  | v :: vs => (wipe s vs).set v none
/-- the loop of a comprehension -/
def lcLoop (ok : VH → Bool) (step : W → VH → R (List W)) : List W → List W → VH → R (List W)
  | [], acc, h => .ok acc h
  | x :: xs, acc, h => (step x h).bind fun ys h1 => if ok h1 && decide (acc.length + ys.length ≤ sizeLine) then lcLoop ok step xs (acc ++ ys) h1 else .bad
/-- no exception leaves a comprehension -/
def noExc {α : Type} : R α → R α
  | .ok a h => .ok a h
  | _ => .bad
def rgL (a b : Int) : List W := (List.range (b - a).toNat).map fun i => W.int (a + (i : Nat))
def rgOk (a b : Int) : Bool := decide (-(2 ^ 62) ≤ a) && decide (a < 2 ^ 62) && decide (-(2 ^ 62) ≤ b) && decide (b < 2 ^ 62)
def okRef (n : Nat) (xs : List W) : VH → Bool := fun h' => match h'[n]? with
  | some (.lst ys) => W.beqs xs ys
  | _ => false
def itOf (h : VH) (w : W) : Option Itv := match w with
  | .tup xs => some ⟨xs, fun _ => true⟩
  | .lst xs => some ⟨xs, fun _ => true⟩
  | .str z => some ⟨z.cps.toList.map fun c => .str ⟨#[c]⟩, fun _ => true⟩
  | .ref n => match h[n]? with
    | some (.lst xs) => some ⟨xs, okRef n xs⟩
    | _ => none
  | _ => none
def enumI (it : Itv) : Itv := ⟨it.items.zipIdx.map fun p => .tup [.int (p.2 : Nat), p.1], it.ok⟩

/-! ### built-in functions by values: a value, the heap as it was -/
def lenF (h : VH) (as : List W) : Option W := match as with | [x] => (lenW h x).map fun (n : Nat) => W.int (n : Int) | _ => none
def absF (_ : VH) (as : List W) : Option W := match as with | [.int i] => some (.int (if i < 0 then -i else i)) | _ => none
def intF (_ : VH) (as : List W) : Option W := match as with | [.int i] => some (.int i) | [.bl k] => some (.int (if k then 1 else 0)) | _ => none
def sumF (h : VH) (as : List W) : Option W := match as with | [x] => ((asLst h x).bind allInt).map fun ns => W.int ns.sum | _ => none
def allF (h : VH) (as : List W) : Option W := match as with | [x] => ((asLst h x).bind allBl).map fun ns => W.bl (ns.all id) | _ => none
def anyF (h : VH) (as : List W) : Option W := match as with | [x] => ((asLst h x).bind allBl).map fun ns => W.bl (ns.any id) | _ => none
def tupF (h : VH) (as : List W) : Option W := match as with | [x] => (asSeq h x).map W.tup | _ => none
def reprF (h : VH) (as : List W) : Option W := match as with
  | [x] => (W.dataH h x).bind fun d => if d.showable && decide (d.depth ≤ 60) && decide (d.shown.length ≤ sizeLine) then some (.str d.shown) else none
  | _ => none
def bltW : Blt → VH → List W → Option W
  | .len => lenF | .abs => absF | .int => intF | .sum => sumF | .all => allF | .any => anyF | .tuple => tupF | .repr => reprF

/-! ### built-in methods: a value and the heap behind it -/
def appF (h : VH) (o : W) (as : List W) : Option (W × VH) := match o, as with
  | .ref n, [x] => match h[n]? with
    | some (.lst xs) => if xs.length < sizeLine then some (.non, h.set n (.lst (xs ++ [x]))) else none
    | _ => none
  | _, _ => none
def popF (h : VH) (o : W) (as : List W) : Option (W × VH) := match o, as with
  | .ref n, [] => match h[n]? with
    | some (.lst xs) => (xs[xs.length - 1]?).map fun y => (y, h.set n (.lst xs.dropLast))
    | _ => none
  | .ref n, [.int i] => match h[n]? with
    | some (.lst xs) => if -(2 ^ 63) ≤ i ∧ i < 2 ^ 63 then (seqIndex? i xs.length).bind fun k => (xs[k]?).map fun y => (y, h.set n (.lst (xs.eraseIdx k))) else none
    | _ => none
  | _, _ => none
def getF (h : VH) (o : W) (as : List W) : Option (W × VH) := match as with
  | [k] => (dget h o k).map fun r => (r.getD .non, h)
  | [k, d] => (dget h o k).map fun r => (r.getD d, h)
  | _ => none
def mthW : Mth → VH → W → List W → Option (W × VH)
  | .append => appF | .pop => popF | .get => getF

/-- the object of a method is of the right kind ahead of the arguments -/
def mthOk : Mth → VH → W → Bool
  | .get, h, o => isDict h o
  | _, h, o => (asLst h o).isSome

def prsOf : List W → Option (List (W × W))
  | [] => some []
  | k :: v :: r => (prsOf r).map ((k, v) :: ·)
  | [_] => none
def kvs1 : List (W × W) → Option (List (Key × W))
  | [] => some []
  | p :: r => match keyOf p.1, kvs1 r with
    | some k, some ks => some ((k, p.2) :: ks)
    | _, _ => none
def tkvs1 : List (W × W) → Option (List (List Key × W))
  | [] => some []
  | p :: r => match tkeyOf p.1, tkvs1 r with
    | some k, some ks => some ((k, p.2) :: ks)
    | _, _ => none
def kvsOf (ws : List W) : Option (List (Key × W)) := (prsOf ws).bind fun ps => (kvs1 ps).bind fun l => if l.length ≤ 15 then some (l.foldl (fun acc p => kput acc p.1 p.2) []) else none
def tkvsOf (ws : List W) : Option (List (List Key × W)) := (prsOf ws).bind fun ps => (tkvs1 ps).bind fun l => if l.length ≤ 15 then some (l.foldl (fun acc p => kput acc p.1 p.2) []) else none

def cellW : Cell → Option W
  | .lst xs => some (.lst xs)
  | .dk kvs => some (.dct (kvs.map (·.1)) (kvs.map (·.2)))
  | _ => none

def mkDn (v : VS → VH → R W) : Dn := (v, fun s h => (v s h).bind fun w h1 => .of (truW h1 w) h1)
def mkBl (t : VS → VH → R Bool) : Dn := (fun s h => (t s h).bind fun b h1 => .ok (.bl b) h1, t)

def lcStep (t : Tg) (own : List Nat) (s : VS) (mt : VS → VH → R Bool) (me : VS → VH → R W) : W → VH → R (List W) := fun x h2 => match tgSet t x (wipe s own) with
  | some s2 => (mt s2 h2).bind fun b h3 => if b then (me s2 h3).bind fun y h4 => .ok [y] h4 else .ok [] h3
  | none => .bad
def lcRun (t : Tg) (own : List Nat) (mi : VS → VH → R Itv) (mt : VS → VH → R Bool) (me : VS → VH → R W) : VS → VH → R Cell := fun s h => (mi s h).bind fun iv h1 =>
  noExc ((lcLoop iv.ok (lcStep t own s mt me) iv.items [] h1).bind fun xs h5 => .ok (.lst xs) h5)
def lcStep1 (t : Tg) (s : VS) (me : VS → VH → R W) : W → VH → R (List W) := fun y h4 => match tgSet t y (wipe s t.slots) with
  | some s3 => (me s3 h4).bind fun z h5 => .ok [z] h5
  | none => .bad
def lcStep2 (t t1 : Tg) (own : List Nat) (s : VS) (mi1 : VS → VH → R Itv) (me : VS → VH → R W) : W → VH → R (List W) := fun x h2 => match tgSet t x (wipe s own) with
  | some s2 => (mi1 s2 h2).bind fun iv1 h3 => lcLoop iv1.ok (lcStep1 t1 s2 me) iv1.items [] h3
  | none => .bad
def lcRun2 (t t1 : Tg) (own : List Nat) (mi mi1 : VS → VH → R Itv) (me : VS → VH → R W) : VS → VH → R Cell := fun s h => (mi s h).bind fun iv h1 =>
  noExc ((lcLoop iv.ok (lcStep2 t t1 own s mi1 me) iv.items [] h1).bind fun xs h5 => .ok (.lst xs) h5)
def mthRun (m : Mth) (mo : VS → VH → R W) (ms : VS → VH → R (List W)) : VS → VH → R W := fun s h => (mo s h).bind fun x h1 => if mthOk m h1 x then (ms s h1).bind fun ws h2 => match mthW m h2 x ws with
    | some (w, h3) => .ok w h3
    | none => .bad else .bad

section
variable (C : Ctx)
mutual
def ev : E → Dn
  | .non => mkDn fun _ h => .ok .non h
  | .bl b => mkDn fun _ h => .ok (.bl b) h
  | .int i => mkDn fun _ h => .ok (.int i) h
  | .str x => mkDn fun _ h => .ok (.str x) h
  | .var i => mkDn fun s h => .of ((s[i]?).bind id) h
  | .glb x => mkDn fun _ h => .of (C.gv x) h
  | .bin op a b => mkDn fun s h => ((ev a).1 s h).bind fun x h1 => ((ev b).1 s h1).bind fun y h2 => .of (binW op h2 x y) h2
  | .neg a => mkDn fun s h => ((ev a).1 s h).bind fun x h1 => .of ((asInt x).map fun i => .int (-i)) h1
  | .cmp op a b => mkBl fun s h => ((ev a).1 s h).bind fun x h1 => ((ev b).1 s h1).bind fun y h2 => .of (cmpW op h2 x y) h2
  | .chn o p a b c => mkBl fun s h => ((ev a).1 s h).bind fun x h1 => ((ev b).1 s h1).bind fun y h2 => (R.of (cmpW o h2 x y) h2).bind fun k h3 =>
      if k then ((ev c).1 s h3).bind fun z h4 => .of (cmpW p h4 y z) h4 else .ok false h3
  | .bop con es => evb con es
  | .not a => ((fun s h => ((ev a).1 s h).bind fun x h1 => .of ((asBl x).map fun b => .bl (!b)) h1), fun s h => ((ev a).2 s h).bind fun b h1 => .ok (!b) h1)
  | .ite c a b => (fun s h => ((ev c).2 s h).bind fun k h1 => if k then (ev a).1 s h1 else (ev b).1 s h1, fun _ _ => .bad)
  | .tup es => mkDn fun s h => (evs es s h).bind fun ws h1 => if ws.length ≤ sizeLine then .ok (.tup ws) h1 else .bad
  | .frz m => mkDn fun s h => (evm m s h).bind fun c h1 => .of (cellW c) h1
  | .cel m => mkDn fun s h => (evm m s h).bind fun c h1 => .ok (.ref h1.length) (h1 ++ [c])
  | .ix a i => mkDn fun s h => ((ev a).1 s h).bind fun x h1 => ((ev i).1 s h1).bind fun y h2 => .of (ixW h2 x y) h2
  | .slc a lo hi => mkDn fun s h => ((ev a).1 s h).bind fun x h1 => (evo lo s h1).bind fun l h2 => (evo hi s h2).bind fun u h3 => .of (slcW h3 x l u) h3
  | .call f es => mkDn fun s h => (evs es s h).bind fun ws h1 => C.call f ws h1
  | .blt b es => mkDn fun s h => (evs es s h).bind fun ws h1 => .of (bltW b h1 ws) h1
  | .mth m o es => mkDn (mthRun m (ev o).1 (evs es))
def evb (con : Bool) : Es → Dn
  | .nil => mkDn fun _ _ => .bad
  | .cons e .nil => ev e
  | .cons e r => (
      (fun s h => ((ev e).1 s h).bind fun x h1 => match asBl x with
        | some b => if b = con then (evb con r).1 s h1 else .ok (.bl b) h1
        | none => .bad),
      fun s h => ((ev e).2 s h).bind fun b h1 => if b = con then (evb con r).2 s h1 else .ok b h1)
def evs : Es → VS → VH → R (List W)
  | .nil, _, h => .ok [] h
  | .cons e r, s, h => ((ev e).1 s h).bind fun x h1 => (evs r s h1).bind fun xs h2 => .ok (x :: xs) h2
def evo : Eo → VS → VH → R (Option Int)
  | .none, _, h => .ok none h
  | .some e, s, h => ((ev e).1 s h).bind fun x h1 => .of ((asInt x).map some) h1
def evm : Mk → VS → VH → R Cell
  | .lst es, s, h => (evs es s h).bind fun ws h1 => if ws.length ≤ sizeLine then .ok (.lst ws) h1 else .bad
  | .lc own tg it ifs elt, s, h => lcRun tg own (evi it) (evc ifs) (ev elt).1 s h
  | .lc2 own tg it tg1 it1 elt, s, h => lcRun2 tg tg1 own (evi it) (evi it1) (ev elt).1 s h
  | .list e, s, h => ((ev e).1 s h).bind fun x h1 => .of ((asSeq h1 x).map .lst) h1
  | .rng a, s, h => ((ev a).1 s h).bind fun x h1 => .of ((asInt x).bind fun n => if rgOk 0 n ∧ n ≤ 2 ^ 24 then some (.lst (rgL 0 n)) else none) h1
  | .rng2 a b, s, h => ((ev a).1 s h).bind fun x h1 => ((ev b).1 s h1).bind fun y h2 => .of ((asInt x).bind fun i => (asInt y).bind fun j => if rgOk i j ∧ j - i ≤ 2 ^ 24 then some (.lst (rgL i j)) else none) h2
  | .slc a lo hi, s, h => ((ev a).1 s h).bind fun x h1 => (evo lo s h1).bind fun l h2 => (evo hi s h2).bind fun u h3 =>
      .of ((asLst h3 x).map fun xs => Cell.lst (cutL xs l u)) h3
  | .cat a b, s, h => ((ev a).1 s h).bind fun x h1 => ((ev b).1 s h1).bind fun y h2 => .of ((asLst h2 x).bind fun xs => (asLst h2 y).bind fun ys => if xs.length + ys.length ≤ sizeLine then some (.lst (xs ++ ys)) else none) h2
  | .rep a b, s, h => ((ev a).1 s h).bind fun x h1 => ((ev b).1 s h1).bind fun y h2 => .of ((asLst h2 x).bind fun xs => (asInt y).bind fun k =>
      if -(2 ^ 63) ≤ k ∧ k < 2 ^ 63 ∧ xs.length * k.toNat ≤ sizeLine then some (.lst (rep k.toNat xs)) else none) h2
  | .dk es, s, h => (evs es s h).bind fun ws h1 => .of ((kvsOf ws).map .dk) h1
  | .dt es, s, h => (evs es s h).bind fun ws h1 => .of ((tkvsOf ws).map .dt) h1
def evi : It → VS → VH → R Itv
  | .of e, s, h => ((ev e).1 s h).bind fun x h1 => .of (itOf h1 x) h1
  | .rng a, s, h => ((ev a).1 s h).bind fun x h1 => .of ((asInt x).bind fun n => if rgOk 0 n then some ⟨rgL 0 n, fun _ => true⟩ else none) h1
  | .rng2 a b, s, h => ((ev a).1 s h).bind fun x h1 => ((ev b).1 s h1).bind fun y h2 => .of ((asInt x).bind fun i => (asInt y).bind fun j => if rgOk i j then some ⟨rgL i j, fun _ => true⟩ else none) h2
  | .enum e, s, h => ((ev e).1 s h).bind fun x h1 => .of ((asLst h1 x).bind fun _ => (itOf h1 x).map enumI) h1
def evc : Eo → VS → VH → R Bool
  | .none, _, h => .ok true h
  | .some e, s, h => (ev e).2 s h
end
end


/-! ### statements -/
mutual
inductive S where
  | ret (e : E)
  | retN
  | expr (e : E)
  | asg (t : Tg) (e : E)
  | put (o i : E) (e : E)
  | par (i j : Nat) (a b : E)
  | augN (i : Nat) (op : Operator) (e : E)
  | augS (o i : E) (op : Operator) (e : E)
  | del (o i : E)
  | iff (c : E) (a b : Ss)
  | fr (tg : Tg) (it : It) (b : Ss)
  | wh (c : E) (b : Ss)
  | pass
inductive Ss where
  | nil
  | cons (s : S) (r : Ss)
end

inductive RS where
  | nx (s : VS) (h : VH)
  | rt (w : W) (h : VH)
  | exc (x : W) (h : VH)
  | bad

def RS.bind : RS → (VS → VH → RS) → RS
  | .nx s h, f => f s h
  | .rt w h, _ => .rt w h
  | .exc x h, _ => .exc x h
  | .bad, _ => .bad
@[simp] theorem RS.bind_nx (s : VS) (h : VH) (f : VS → VH → RS) : (RS.nx s h).bind f = f s h := rfl
@[simp] theorem RS.bind_rt (w : W) (h : VH) (f : VS → VH → RS) : (RS.rt w h).bind f = .rt w h := rfl
@[simp] theorem RS.bind_exc (w : W) (h : VH) (f : VS → VH → RS) : (RS.exc w h).bind f = .exc w h := rfl
@[simp] theorem RS.bind_bad (f : VS → VH → RS) : RS.bad.bind f = .bad := rfl
def R.thn {α : Type} : R α → (α → VH → RS) → RS
  | .ok a h, f => f a h
  | .exc x h, _ => .exc x h
  | .bad, _ => .bad
@[simp] theorem R.thn_ok {α : Type} (a : α) (h : VH) (f : α → VH → RS) : (R.ok a h).thn f = f a h := rfl
@[simp] theorem R.thn_exc {α : Type} (x : W) (h : VH) (f : α → VH → RS) : (R.exc x h : R α).thn f = .exc x h := rfl
@[simp] theorem R.thn_bad {α : Type} (f : α → VH → RS) : (R.bad : R α).thn f = .bad := rfl

def forLoop (ok : VH → Bool) (step : W → VS → VH → RS) : List W → VS → VH → RS
  | [], s, h => .nx s h
  | x :: xs, s, h => (step x s h).bind fun s1 h1 => if ok h1 then forLoop ok step xs s1 h1 else .bad
def whLoop (test : VS → VH → R Bool) (body : VS → VH → RS) : Nat → VS → VH → RS
  | 0, _, _ => .bad
  | n + 1, s, h => (test s h).thn fun b h1 => if b then (body s h1).bind fun s2 h2 => whLoop test body n s2 h2 else .nx s h1

section
variable (C : Ctx)
mutual
def ex : S → VS → VH → RS
  | .ret e, s, h => ((ev C e).1 s h).thn fun w h1 => .rt w h1
  | .retN, _, h => .rt .non h
  | .expr e, s, h => ((ev C e).1 s h).thn fun _ h1 => .nx s h1
  | .asg t e, s, h => ((ev C e).1 s h).thn fun w h1 => match tgSet t w s with
    | some s1 => .nx s1 h1
    | none => .bad
  | .put o i e, s, h => ((ev C e).1 s h).thn fun w h1 => ((ev C o).1 s h1).thn fun x h2 => ((ev C i).1 s h2).thn fun y h3 => match putW h3 x y w with
    | some h4 => .nx s h4
    | none => .bad
  | .par i j a b, s, h => ((ev C a).1 s h).thn fun x h1 => ((ev C b).1 s h1).thn fun y h2 => .nx ((s.set i (some x)).set j (some y)) h2
  | .augN i op e, s, h => match (s[i]?).bind id with
    | some x => ((ev C e).1 s h).thn fun y h1 => match augV op x y with
      | some w => .nx (s.set i (some w)) h1
      | none => .bad
    | none => .bad
  | .augS o i op e, s, h => ((ev C o).1 s h).thn fun x h1 => ((ev C i).1 s h1).thn fun y h2 => match ixM h2 x y with
    | some z => ((ev C e).1 s h2).thn fun w h3 => match (augV op z w).bind fun r => putW h3 x y r with
      | some h4 => .nx s h4
      | none => .bad
    | none => .bad
  | .del o i, s, h => ((ev C o).1 s h).thn fun x h1 => ((ev C i).1 s h1).thn fun y h2 => match delW h2 x y with
    | some h3 => .nx s h3
    | none => .bad
  | .iff c a b, s, h => ((ev C c).2 s h).thn fun k h1 => if k then exs a s h1 else exs b s h1
  | .fr tg it b, s, h => (evi C it s h).thn fun iv h1 => forLoop iv.ok (fun x s1 h2 => match tgSet tg x s1 with
      | some s2 => exs b s2 h2
      | none => .bad) iv.items s h1
  | .wh c b, s, h => whLoop (fun s1 h1 => (ev C c).2 s1 h1) (fun s1 h1 => exs b s1 h1) C.fuel s h
  | .pass, s, h => .nx s h
def exs : Ss → VS → VH → RS
  | .nil, s, h => .nx s h
  | .cons a r, s, h => (ex a s h).bind fun s1 h1 => exs r s1 h1
end
end

/-! ### defs -/
structure Def where
  name : Str
  qual : Str
  par : List Str
  N : List Str
  body : Ss
  pure : Bool
abbrev Prog := List Def
def gvOf (P : Prog) (consts : List (Str × W)) (x : Str) : Option W := consts.lookup x

mutual
def W.noRef : W → Bool
  | .tup xs => W.noRefs xs
  | .lst xs => W.noRefs xs
  | .dct _ vs => W.noRefs vs
  | .exc _ _ vs => W.noRefs vs
  | .ref _ => false
  | .scr _ => false
  | _ => true
def W.noRefs : List W → Bool
  | [] => true
  | x :: xs => W.noRef x && W.noRefs xs
end
/-! a result taken out of its heap: its cells become data -/
mutual
def frz (h : VH) : W → Option W
  | .ref k => match h[k]? with
    | some (.lst xs) => if W.noRefs xs then some (.lst xs) else none
    | some (.dk kvs) => if W.noRefs (kvs.map (·.2)) then some (.dct (kvs.map (·.1)) (kvs.map (·.2))) else none
    | _ => none
  | .scr xs => if W.noRefs xs then some (.scr xs) else none
  | .tup xs => (frzs h xs).map .tup
  | .lst xs => (frzs h xs).map .lst
  | .dct ks vs => (frzs h vs).map (.dct ks)
  | .exc c fs vs => (frzs h vs).map (.exc c fs)
  | w => some w
def frzs (h : VH) : List W → Option (List W)
  | [] => some []
  | x :: xs => match frz h x, frzs h xs with
    | some y, some ys => some (y :: ys)
    | _, _ => none
end
def start (N : List Str) (ws : List W) : VS := ws.map some ++ List.replicate (N.length - ws.length) none
def bodyRun (C : Ctx) (d : Def) (ws : List W) (h : VH) : R W :=
  if ws.length = d.par.length then
    match exs C d.body (start d.N ws) h with
    | .nx _ h1 => .ok .non h1
    | .rt w h1 => .ok w h1
    | .exc x h1 => .exc x h1
    | .bad => .bad
  else .bad
/-- a call that leaves the caller's cells alone: run from no cells -/
def pureRun (C : Ctx) (d : Def) (ws : List W) (h : VH) : R W :=
  if W.noRefs ws then
    match bodyRun C d ws [] with
    | .ok w h1 => .of (frz h1 w) h
    | .exc x h1 => match frz h1 x with
      | some y => .exc y h
      | none => .bad
    | .bad => .bad
  else .bad
def fuelC : Nat := 100000
def callN (P : Prog) (gv : Str → Option W) : Nat → Nat → List W → VH → R W
  | 0, _, _, _ => .bad
  | n + 1, f, ws, h => match P[f]? with
    | some d => if d.pure then pureRun ⟨callN P gv n, gv, fuelC⟩ d ws h else bodyRun ⟨callN P gv n, gv, fuelC⟩ d ws h
    | none => .bad

end Vm

/-! VmRel: what the interpreter's values and cells stand for. -/
namespace Vm
open PySem PySem.Spec PyProof.Rows L2

structure Base where
  P : Program
  w : World
  K : PySem.W.Frag
  mg : Str → Option Value
  base : Heap

/-- a list of the module's own -/
def KLst (K : PySem.W.Frag) (a : Addr) (xs : List V) : Prop :=
  ∃ (o : Obj) (its : Array Value) (n : Nat), K.lookup a = some o ∧ o.cls = .type "list" ∧ o.dict = none ∧ o.data = .seq its n ∧ its.size ≤ sizeLine ∧ Vals xs its.toList
/-- where the script stands -/
def ScrAt (B : Base) (F p : List Addr) (H : Hp) (a : Addr) (vs : List V) : Prop := (a ∉ F ∧ a ∉ p ∧ ∃ o, H a = some (.frz o (.lst vs))) ∨ KLst B.K a vs
theorem ScrAt.imp {B : Base} {F p F' p' : List Addr} {H H' : Hp} {a : Addr} {vs : List V} (s : ScrAt B F p H a vs) (k : ∀ o, a ∉ F → a ∉ p → H a = some (.frz o (.lst vs)) → a ∉ F' ∧ a ∉ p' ∧ H' a = some (.frz o (.lst vs))) : ScrAt B F' p' H' a vs := by
  rcases s with ⟨n1, n2, o, e⟩ | z
  · obtain ⟨q1, q2, q3⟩ := k o n1 n2 e
    exact .inl ⟨q1, q2, o, q3⟩
  · exact .inr z
mutual
/-- F: cells of callers that rest; p: the addresses of the cells -/
def RW (B : Base) (F p : List Addr) (H : Hp) : W → V → Prop
  | .non, v => v = .non
  | .bl b, v => v = .bl b
  | .int i, v => v = .int i
  | .str s, v => v = .str s
  | .tup xs, v => ∃ a vs, v = .ref a ∧ a ∉ F ∧ a ∉ p ∧ H a = some (.tup vs) ∧ RWs B F p H xs vs
  | .lst xs, v => ∃ a vs, v = .ref a ∧ a ∉ F ∧ a ∉ p ∧ H a = some (.lst vs) ∧ RWs B F p H xs vs
  | .dct ks ws, v => ∃ a kvs, v = .ref a ∧ a ∉ F ∧ a ∉ p ∧ H a = some (.dK kvs) ∧ kvs.map (·.1) = ks ∧ RWs B F p H ws (kvs.map (·.2))
  | .ref n, v => ∃ a, v = .ref a ∧ p[n]? = some a
  | .glb x, v => ∃ u, B.mg x = some u ∧ RelV v u
  | .ty n, v => v = .ty n
  | .exc _ _ _, _ => False
  | .scr xs, v => ∃ a vs, v = .ref a ∧ ScrAt B F p H a vs ∧ RWs B F p H xs vs
def RWs (B : Base) (F p : List Addr) (H : Hp) : List W → List V → Prop
  | [], vs => vs = []
  | x :: xs, vs => ∃ v r, vs = v :: r ∧ RW B F p H x v ∧ RWs B F p H xs r
end

section
variable {B : Base} {F p p' : List Addr} {H H' : Hp}

theorem RWs.nil : RWs B F p H [] [] := by simp [RWs]
theorem RWs.cons {x : W} {xs : List W} {v : V} {vs : List V} (h : RW B F p H x v) (t : RWs B F p H xs vs) : RWs B F p H (x :: xs) (v :: vs) := by
  simp only [RWs]
  exact ⟨v, vs, rfl, h, t⟩
theorem RWs.length : ∀ {xs : List W} {vs : List V}, RWs B F p H xs vs → xs.length = vs.length
  | [], vs, h => by simp only [RWs] at h; subst h; rfl
  | x :: xs, vs, h => by
    simp only [RWs] at h
    obtain ⟨v, r, rfl, _, t⟩ := h
    simp [t.length]
theorem RWs.get : ∀ {xs : List W} {vs : List V} {i : Nat} {x : W}, RWs B F p H xs vs → xs[i]? = some x → ∃ v, vs[i]? = some v ∧ RW B F p H x v
  | [], _, _, _, _, e => by simp at e
  | y :: ys, vs, 0, x, h, e => by
    simp only [RWs] at h
    obtain ⟨v, r, rfl, h1, _⟩ := h
    simp at e
    subst e
    exact ⟨v, by simp, h1⟩
  | y :: ys, vs, i + 1, x, h, e => by
    simp only [RWs] at h
    obtain ⟨v, r, rfl, _, t⟩ := h
    obtain ⟨u, e1, e2⟩ := t.get (i := i) (x := x) (by simpa using e)
    exact ⟨u, by simpa using e1, e2⟩
theorem RWs.append : ∀ {xs ys : List W} {vs us : List V}, RWs B F p H xs vs → RWs B F p H ys us → RWs B F p H (xs ++ ys) (vs ++ us)
  | [], _, vs, _, h, t => by simp only [RWs] at h; subst h; simpa using t
  | x :: xs, ys, vs, us, h, t => by
    simp only [RWs] at h
    obtain ⟨v, r, rfl, h1, h2⟩ := h
    exact RWs.cons h1 (h2.append t)
theorem RWs.take : ∀ {xs : List W} {vs : List V} (n : Nat), RWs B F p H xs vs → RWs B F p H (xs.take n) (vs.take n)
  | _, _, 0, _ => by simpa using RWs.nil
  | [], vs, n + 1, h => by simp only [RWs] at h; subst h; simpa using RWs.nil
  | x :: xs, vs, n + 1, h => by
    simp only [RWs] at h
    obtain ⟨v, r, rfl, h1, h2⟩ := h
    exact RWs.cons h1 (h2.take n)
theorem RWs.drop : ∀ {xs : List W} {vs : List V} (n : Nat), RWs B F p H xs vs → RWs B F p H (xs.drop n) (vs.drop n)
  | _, _, 0, h => by simpa using h
  | [], vs, n + 1, h => by simp only [RWs] at h; subst h; simpa using RWs.nil
  | x :: xs, vs, n + 1, h => by
    simp only [RWs] at h
    obtain ⟨v, r, rfl, h1, h2⟩ := h
    simpa using h2.drop n
theorem RWs.set {x : W} {v : V} (hx : RW B F p H x v) : ∀ {xs : List W} {vs : List V} (n : Nat), RWs B F p H xs vs → RWs B F p H (xs.set n x) (vs.set n v)
  | [], vs, n, h => by simp only [RWs] at h; subst h; simpa using RWs.nil
  | y :: xs, vs, 0, h => by
    simp only [RWs] at h
    obtain ⟨u, r, rfl, h1, h2⟩ := h
    exact RWs.cons hx h2
  | y :: xs, vs, n + 1, h => by
    simp only [RWs] at h
    obtain ⟨u, r, rfl, h1, h2⟩ := h
    exact RWs.cons h1 (h2.set hx n)
theorem RWs.erase : ∀ {xs : List W} {vs : List V} (n : Nat), RWs B F p H xs vs → RWs B F p H (xs.eraseIdx n) (vs.eraseIdx n)
  | [], vs, n, h => by simp only [RWs] at h; subst h; simpa using RWs.nil
  | y :: xs, vs, 0, h => by
    simp only [RWs] at h
    obtain ⟨u, r, rfl, h1, h2⟩ := h
    simpa using h2
  | y :: xs, vs, n + 1, h => by
    simp only [RWs] at h
    obtain ⟨u, r, rfl, h1, h2⟩ := h
    exact RWs.cons h1 (h2.erase n)
theorem RWs.dropLast {xs : List W} {vs : List V} (h : RWs B F p H xs vs) : RWs B F p H xs.dropLast vs.dropLast := by
  rw [List.dropLast_eq_take, List.dropLast_eq_take, h.length]
  exact h.take _
theorem RWs.reverse : ∀ {xs : List W} {vs : List V}, RWs B F p H xs vs → RWs B F p H xs.reverse vs.reverse
  | [], vs, h => by simp only [RWs] at h; subst h; simpa using RWs.nil
  | y :: xs, vs, h => by
    simp only [RWs] at h
    obtain ⟨u, r, rfl, h1, h2⟩ := h
    rw [List.reverse_cons, List.reverse_cons]
    exact h2.reverse.append (RWs.cons h1 RWs.nil)
theorem RWs.rep {xs : List W} {vs : List V} (h : RWs B F p H xs vs) : ∀ k : Nat, RWs B F p H (Vm.rep k xs) (List.replicate k vs).flatten
  | 0 => by simpa [Vm.rep] using RWs.nil
  | k + 1 => by
    have ih := h.rep k
    unfold Vm.rep at ih ⊢
    rw [List.replicate_succ, List.replicate_succ, List.flatten_cons, List.flatten_cons]
    exact h.append ih
theorem RWs.ints : ∀ {xs : List W} {vs : List V} {ns : List Int}, RWs B F p H xs vs → allInt xs = some ns → vs = ns.map V.int
  | [], vs, ns, h, e => by
    simp only [RWs] at h
    simp only [allInt, Option.some.injEq] at e
    subst h; subst e; rfl
  | x :: xs, vs, ns, h, e => by
    simp only [RWs] at h
    obtain ⟨v, r, rfl, h1, h2⟩ := h
    cases x with
    | int i =>
      simp only [allInt, Option.map_eq_some_iff] at e
      obtain ⟨ms, e1, e2⟩ := e
      subst e2
      rw [h2.ints e1]
      simp only [RW] at h1
      rw [h1]; rfl
    | _ => simp [allInt] at e
theorem RWs.bls : ∀ {xs : List W} {vs : List V} {ns : List Bool}, RWs B F p H xs vs → allBl xs = some ns → vs = ns.map V.bl
  | [], vs, ns, h, e => by
    simp only [RWs] at h
    simp only [allBl, Option.some.injEq] at e
    subst h; subst e; rfl
  | x :: xs, vs, ns, h, e => by
    simp only [RWs] at h
    obtain ⟨v, r, rfl, h1, h2⟩ := h
    cases x with
    | bl i =>
      simp only [allBl, Option.map_eq_some_iff] at e
      obtain ⟨ms, e1, e2⟩ := e
      subst e2
      rw [h2.bls e1]
      simp only [RW] at h1
      rw [h1]; rfl
    | _ => simp [allBl] at e
theorem RWs.strs : ∀ {xs : List W} {vs : List V} {ns : List Str}, RWs B F p H xs vs → allStr xs = some ns → vs = ns.map V.str
  | [], vs, ns, h, e => by
    simp only [RWs] at h
    simp only [allStr, Option.some.injEq] at e
    subst h; subst e; rfl
  | x :: xs, vs, ns, h, e => by
    simp only [RWs] at h
    obtain ⟨v, r, rfl, h1, h2⟩ := h
    cases x with
    | str i =>
      simp only [allStr, Option.map_eq_some_iff] at e
      obtain ⟨ms, e1, e2⟩ := e
      subst e2
      rw [h2.strs e1]
      simp only [RW] at h1
      rw [h1]; rfl
    | _ => simp [allStr] at e

/-- what may happen to the heap while a piece runs: new cells, the others as they were -/
structure After (p : List Addr) (H : Hp) (p' : List Addr) (H' : Hp) : Prop where
  pre : ∃ q, p' = p ++ q ∧ ∀ a ∈ q, H a = none
  keep : ∀ a o, H a = some o → a ∉ p → H' a = some o
  trk : ∀ a, H' a = none → H a = none
theorem After.refl (p : List Addr) (H : Hp) : After p H p H := ⟨⟨[], by simp, by simp⟩, fun _ _ h _ => h, fun _ h => h⟩
theorem After.trans {p2 : List Addr} {H2 : Hp} (a : After p H p' H') (b : After p' H' p2 H2) : After p H p2 H2 := by
  obtain ⟨⟨q, e, hq⟩, k, t⟩ := a
  obtain ⟨⟨q', e', hq'⟩, k', t'⟩ := b
  subst e e'
  refine ⟨⟨q ++ q', by simp, fun x hx => ?_⟩, fun x o h n => ?_, fun x h => t x (t' x h)⟩
  · rcases List.mem_append.mp hx with h | h
    · exact hq x h
    · exact t x (hq' x h)
  · refine k' x o (k x o h n) fun z => ?_
    rcases List.mem_append.mp z with z | z
    · exact n z
    · rw [hq x z] at h; cases h
/-- a new object that is no cell -/
theorem After.laid {a : Addr} {o : HO} (h : H a = none) : After p H p (upd H a o) :=
  ⟨⟨[], by simp, by simp⟩, fun b u e _ => by rw [upd_ne (ne_of_none e h)]; exact e, fun b e => by
    by_cases q : b = a
    · subst q; exact h
    · rwa [upd_ne q] at e⟩
theorem After.cell {a : Addr} {o : HO} (h : H a = none) : After p H (p ++ [a]) (upd H a o) :=
  ⟨⟨[a], rfl, by simpa using h⟩, fun b u e _ => by rw [upd_ne (ne_of_none e h)]; exact e, fun b e => by
    by_cases q : b = a
    · subst q; exact h
    · rwa [upd_ne q] at e⟩
/-- a cell is written -/
theorem After.write {a : Addr} {o u : HO} (h : H a = some u) (hp : a ∈ p) : After p H p (upd H a o) :=
  ⟨⟨[], by simp, by simp⟩, fun b v e n => by
    have hb : b ≠ a := fun z => n (by rw [z]; exact hp)
    rw [upd_ne hb]; exact e, fun b e => by
    by_cases q : b = a
    · subst q; rw [upd_same] at e; cases e
    · rwa [upd_ne q] at e⟩
theorem After.notin (A : After p H p' H') {a : Addr} {o : HO} (h : H a = some o) (n : a ∉ p) : a ∉ p' := by
  obtain ⟨⟨q, e, hq⟩, _, _⟩ := A
  subst e
  intro z
  rcases List.mem_append.mp z with z | z
  · exact n z
  · rw [hq a z] at h; cases h
theorem After.at_ (A : After p H p' H') {n : Nat} {a : Addr} (h : p[n]? = some a) : p'[n]? = some a := by
  obtain ⟨⟨q, e, _⟩, _, _⟩ := A
  subst e
  rw [List.getElem?_append_left (by
    have := List.getElem?_eq_some_iff.mp h
    exact this.1)]
  exact h

mutual
theorem RW.after (A : After p H p' H') : ∀ {x : W} {v : V}, RW B F p H x v → RW B F p' H' x v
  | .non, v, h => by simp only [RW] at h ⊢; exact h
  | .bl _, v, h => by simp only [RW] at h ⊢; exact h
  | .int _, v, h => by simp only [RW] at h ⊢; exact h
  | .str _, v, h => by simp only [RW] at h ⊢; exact h
  | .tup xs, v, h => by
    simp only [RW] at h ⊢
    obtain ⟨a, vs, e, n1, n2, h1, h2⟩ := h
    exact ⟨a, vs, e, n1, A.notin h1 n2, A.keep a _ h1 n2, RWs.after A h2⟩
  | .lst xs, v, h => by
    simp only [RW] at h ⊢
    obtain ⟨a, vs, e, n1, n2, h1, h2⟩ := h
    exact ⟨a, vs, e, n1, A.notin h1 n2, A.keep a _ h1 n2, RWs.after A h2⟩
  | .dct ks xs, v, h => by
    simp only [RW] at h ⊢
    obtain ⟨a, vs, e, n1, n2, h1, h2, h3⟩ := h
    exact ⟨a, vs, e, n1, A.notin h1 n2, A.keep a _ h1 n2, h2, RWs.after A h3⟩
  | .ref n, v, h => by
    simp only [RW] at h ⊢
    obtain ⟨a, e, h1⟩ := h
    exact ⟨a, e, A.at_ h1⟩
  | .glb _, v, h => by simp only [RW] at h ⊢; exact h
  | .ty _, v, h => by simp only [RW] at h ⊢; exact h
  | .exc _ _ _, v, h => by simp only [RW] at h
  | .scr xs, v, h => by
    simp only [RW] at h ⊢
    obtain ⟨a, vs, e, s, h2⟩ := h
    exact ⟨a, vs, e, s.imp fun o n1 n2 h1 => ⟨n1, A.notin h1 n2, A.keep a _ h1 n2⟩, RWs.after A h2⟩
theorem RWs.after (A : After p H p' H') : ∀ {xs : List W} {vs : List V}, RWs B F p H xs vs → RWs B F p' H' xs vs
  | [], vs, h => by simp only [RWs] at h ⊢; exact h
  | x :: xs, vs, h => by
    simp only [RWs] at h ⊢
    obtain ⟨v, r, e, h1, h2⟩ := h
    exact ⟨v, r, e, RW.after A h1, RWs.after A h2⟩
end

/-- a dict's pairs -/
def RK (B : Base) (F p : List Addr) (H : Hp) {κ : Type} (kvs : List (κ × W)) (ws : List (κ × V)) : Prop :=
  ws.map (·.1) = kvs.map (·.1) ∧ RWs B F p H (kvs.map (·.2)) (ws.map (·.2))
theorem RK.after (A : After p H p' H') {κ : Type} {kvs : List (κ × W)} {ws : List (κ × V)} (h : RK B F p H kvs ws) : RK B F p' H' kvs ws := ⟨h.1, h.2.after A⟩
/-- a cell and the object that it stands for -/
def RC (B : Base) (F p : List Addr) (H : Hp) : Cell → HO → Prop
  | .lst xs, o => ∃ vs, o = .lst vs ∧ RWs B F p H xs vs
  | .dk kvs, o => ∃ ws, o = .dK ws ∧ RK B F p H kvs ws
  | .dt kvs, o => ∃ ws, o = .dT ws ∧ RK B F p H kvs ws
  | .ins _ _, _ => False
  | .lock _, _ => False
theorem RC.after (A : After p H p' H') {c : Cell} {o : HO} (h : RC B F p H c o) : RC B F p' H' c o := by
  cases c with
  | lst xs => obtain ⟨vs, e, r⟩ := h; exact ⟨vs, e, r.after A⟩
  | dk kvs => obtain ⟨vs, e, r⟩ := h; exact ⟨vs, e, r.after A⟩
  | dt kvs => obtain ⟨vs, e, r⟩ := h; exact ⟨vs, e, r.after A⟩
  | ins _ _ => exact h
  | lock _ => exact h
/-- the virtual heap stands for (a part of) the abstract one -/
structure Sim (B : Base) (F p : List Addr) (h : VH) (H : Hp) : Prop where
  len : p.length = h.length
  nd : p.Nodup
  dj : ∀ a ∈ p, a ∉ F
  cel : ∀ (n : Nat) (c : Cell) (a : Addr), h[n]? = some c → p[n]? = some a → ∃ o, H a = some o ∧ RC B F p H c o
  fr : ∀ a ∈ F, ∃ o, H a = some o
variable {h : VH}
theorem Sim.there (S : Sim B F p h H) : ∀ a ∈ p, ∃ o, H a = some o := fun a ha => by
  obtain ⟨n, hn⟩ := List.getElem?_of_mem ha
  have hl : n < h.length := by rw [← S.len]; exact (List.getElem?_eq_some_iff.mp hn).1
  obtain ⟨o, e, _⟩ := S.cel n h[n] a (by simp [hl]) hn
  exact ⟨o, e⟩
theorem Sim.at_ (S : Sim B F p h H) {n : Nat} {c : Cell} (e : h[n]? = some c) : ∃ a o, p[n]? = some a ∧ a ∈ p ∧ H a = some o ∧ RC B F p H c o := by
  have hl : n < p.length := by rw [S.len]; exact (List.getElem?_eq_some_iff.mp e).1
  have hp : p[n]? = some p[n] := by simp [hl]
  obtain ⟨o, e1, r⟩ := S.cel n c p[n] e hp
  exact ⟨p[n], o, hp, List.getElem_mem hl, e1, r⟩
theorem Sim.fresh (S : Sim B F p h H) {a : Addr} (e : H a = none) : a ∉ p ∧ a ∉ F :=
  ⟨fun z => (by obtain ⟨o, q⟩ := S.there a z; rw [e] at q; cases q), fun z => (by obtain ⟨o, q⟩ := S.fr a z; rw [e] at q; cases q)⟩
/-- an object laid beside -/
theorem Sim.laid (S : Sim B F p h H) {a : Addr} {o : HO} (e : H a = none) : Sim B F p h (upd H a o) := by
  refine ⟨S.len, S.nd, S.dj, fun n c b h1 h2 => ?_, fun b hb => ?_⟩
  · obtain ⟨u, e1, r⟩ := S.cel n c b h1 h2
    exact ⟨u, by rw [upd_ne (ne_of_none e1 e)]; exact e1, r.after (After.laid e)⟩
  · obtain ⟨u, e1⟩ := S.fr b hb
    exact ⟨u, by rw [upd_ne (ne_of_none e1 e)]; exact e1⟩
/-- a new cell -/
theorem Sim.cell (S : Sim B F p h H) {a : Addr} {o : HO} {c : Cell} (e : H a = none) (r : RC B F (p ++ [a]) (upd H a o) c o) : Sim B F (p ++ [a]) (h ++ [c]) (upd H a o) := by
  obtain ⟨n1, n2⟩ := S.fresh e
  refine ⟨by simp [S.len], ?_, fun b hb => ?_, fun n d b h1 h2 => ?_, fun b hb => ?_⟩
  · refine List.nodup_append.mpr ⟨S.nd, by simp, fun x hx y hy => ?_⟩
    have : y = a := by simpa using hy
    subst this
    exact fun z => n1 (by rw [← z]; exact hx)
  · rcases List.mem_append.mp hb with z | z
    · exact S.dj b z
    · have : b = a := by simpa using z
      subst this; exact n2
  · by_cases hn : n < h.length
    · rw [List.getElem?_append_left hn] at h1
      rw [List.getElem?_append_left (by rw [S.len]; exact hn)] at h2
      obtain ⟨u, e1, r1⟩ := S.cel n d b h1 h2
      exact ⟨u, by rw [upd_ne (ne_of_none e1 e)]; exact e1, r1.after (After.cell e)⟩
    · have hn2 : n = h.length := by
        have := (List.getElem?_eq_some_iff.mp h1).1
        simp at this; omega
      subst hn2
      rw [List.getElem?_append_right (Nat.le_refl _)] at h1
      rw [← S.len, List.getElem?_append_right (Nat.le_refl _)] at h2
      simp at h1 h2
      subst h1 h2
      exact ⟨o, upd_same, r⟩
  · obtain ⟨u, e1⟩ := S.fr b hb
    exact ⟨u, by rw [upd_ne (ne_of_none e1 e)]; exact e1⟩
theorem Sim.inj (S : Sim B F p h H) {n m : Nat} {a : Addr} (h1 : p[n]? = some a) (h2 : p[m]? = some a) : n = m := by
  obtain ⟨l1, e1⟩ := List.getElem?_eq_some_iff.mp h1
  exact (List.getElem?_inj l1 S.nd).mp (h1.trans h2.symm)
/-- a cell written -/
theorem Sim.write (S : Sim B F p h H) {n : Nat} {a : Addr} {o u : HO} {c : Cell} (e : H a = some u) (hp : p[n]? = some a) (r : RC B F p (upd H a o) c o) : Sim B F p (h.set n c) (upd H a o) := by
  have hm : a ∈ p := List.mem_of_getElem? hp
  refine ⟨by simp [S.len], S.nd, S.dj, fun m d b h1 h2 => ?_, fun b hb => ?_⟩
  · by_cases hn : m = n
    · subst hn
      rw [hp] at h2; cases h2
      have hl : m < h.length := by
        have := (List.getElem?_eq_some_iff.mp h1).1
        simpa using this
      rw [List.getElem?_set_self hl] at h1; cases h1
      exact ⟨o, upd_same, r⟩
    · rw [List.getElem?_set_ne (Ne.symm hn)] at h1
      obtain ⟨u', e1, r1⟩ := S.cel m d b h1 h2
      have hb : b ≠ a := fun z => hn (S.inj (z ▸ h2) hp)
      exact ⟨u', by rw [upd_ne hb]; exact e1, r1.after (After.write e hm)⟩
  · obtain ⟨u', e1⟩ := S.fr b hb
    exact ⟨u', by rw [upd_ne (fun z => S.dj a hm (by rw [← z]; exact hb))]; exact e1⟩

/-- the slots -/
def RL (B : Base) (F p : List Addr) (H : Hp) (s : VS) (σ : L2.St) : Prop := s.length = σ.length ∧ ∀ (i : Nat) (w : W), s[i]? = some (some w) → ∃ v, σ[i]? = some (some v) ∧ RW B F p H w v
theorem RL.after (A : After p H p' H') {s : VS} {σ : L2.St} (h : RL B F p H s σ) : RL B F p' H' s σ := ⟨h.1, fun i w e => by
  obtain ⟨v, e1, r⟩ := h.2 i w e
  exact ⟨v, e1, r.after A⟩⟩
theorem RL.set {s : VS} {σ : L2.St} {i : Nat} {w : W} {v : V} (h : RL B F p H s σ) (r : RW B F p H w v) : RL B F p H (s.set i (some w)) (σ.set i (some v)) := by
  refine ⟨by simp [h.1], fun j x e => ?_⟩
  by_cases hj : j = i
  · subst hj
    have hl : j < s.length := by
      have := (List.getElem?_eq_some_iff.mp e).1
      simpa using this
    rw [List.getElem?_set_self hl] at e; cases e
    exact ⟨v, by rw [List.getElem?_set_self (by rw [← h.1]; exact hl)], r⟩
  · rw [List.getElem?_set_ne (Ne.symm hj)] at e ⊢
    exact h.2 j x e
theorem RL.drop {s : VS} {σ : L2.St} {i : Nat} (h : RL B F p H s σ) : RL B F p H (s.set i none) (σ.set i none) := by
  refine ⟨by simp [h.1], fun j x e => ?_⟩
  by_cases hj : j = i
  · subst hj
    have hl : j < s.length := by
      have := (List.getElem?_eq_some_iff.mp e).1
      simpa using this
    rw [List.getElem?_set_self hl] at e; cases e
  · rw [List.getElem?_set_ne (Ne.symm hj)] at e ⊢
    exact h.2 j x e
theorem RL.wipe {s : VS} {σ : L2.St} (h : RL B F p H s σ) : ∀ l : List Nat, RL B F p H (Vm.wipe s l) (L2.wipe σ l)
  | [] => h
  | v :: vs => (RL.wipe h vs).drop

/-- an exception: its class, its own dict's address -/
def RX (B : Base) (F p : List Addr) (H : Hp) : W → Value → Option Addr → Prop
  | .exc c fs vs, cls, d => ∃ C, B.mg c = some (.ref C) ∧ cls = .ref C ∧ ∃ us, RWs B F p H vs us ∧ fs.length = us.length ∧
      (fs = [] ∨ ∃ dd ws, d = some dd ∧ dd ∉ F ∧ dd ∉ p ∧ H dd = some (.xd ws) ∧ ∀ (i : Nat) f u, fs[i]? = some f → us[i]? = some u → ws.lookup f = some u)
  | _, _, _ => False
theorem RX.after (A : After p H p' H') {x : W} {cls : Value} {d : Option Addr} (h : RX B F p H x cls d) : RX B F p' H' x cls d := by
  cases x with
  | exc c fs vs =>
    obtain ⟨C, h1, h2, us, r, hl, h3⟩ := h
    refine ⟨C, h1, h2, us, r.after A, hl, ?_⟩
    rcases h3 with h3 | ⟨dd, ws, e, n1, n2, e1, e2⟩
    · exact .inl h3
    · exact .inr ⟨dd, ws, e, n1, A.notin e1 n2, A.keep dd _ e1 n2, e2⟩
  | _ => exact (h : False).elim

/-! ### outcomes -/
abbrev Rel (α β : Type) := List Addr → Hp → α → β → Prop
/-- what a run of the interpreter promises of the heap behind it -/
def Outc (B : Base) (F : List Addr) {α β : Type} (rel : Rel α β) (E : XK) (p : List Addr) (H : Hp) (r : R α) (Q : β → Hp → Prop) : Prop := match r with
  | .ok a h' => ∀ p' H' b, After p H p' H' → Sim B F p' h' H' → rel p' H' a b → Q b H'
  | .exc x h' => ∀ p' H' cls d, After p H p' H' → Sim B F p' h' H' → RX B F p' H' x cls d → E cls d H'
  | .bad => False
theorem Outc.after {α β : Type} {rel : Rel α β} {E : XK} {r : R α} {Q : β → Hp → Prop} (o : Outc B F rel E p H r Q) (A : After p H p' H') : Outc B F rel E p' H' r Q := by
  cases r with
  | ok a h' => exact fun p2 H2 b A2 S r => o p2 H2 b (A.trans A2) S r
  | exc x h' => exact fun p2 H2 cls d A2 S r => o p2 H2 cls d (A.trans A2) S r
  | bad => exact o
theorem Outc.bind {α β γ δ : Type} {rel : Rel α β} {rel2 : Rel γ δ} {E : XK} {r : R α} {f : α → VH → R γ} {Q : δ → Hp → Prop} {T : β → Hp → Prop} (o : Outc B F rel2 E p H (r.bind f) Q)
    (k : ∀ a h1 p1 H1 b, After p H p1 H1 → Sim B F p1 h1 H1 → rel p1 H1 a b → Outc B F rel2 E p1 H1 (f a h1) Q → T b H1) : Outc B F rel E p H r T := by
  cases r with
  | ok a h' => exact fun p1 H1 b A S q => k a h' p1 H1 b A S q (Outc.after (r := f a h') o A)
  | exc x h' => exact o
  | bad => exact o
theorem Outc.of_ {α β : Type} {rel : Rel α β} {E : XK} {o : Option α} {h1 : VH} {Q : β → Hp → Prop} (q : Outc B F rel E p H (.of o h1) Q) : ∃ a, o = some a ∧ Outc B F rel E p H (.ok a h1) Q := by
  cases o with
  | none => exact (q : False).elim
  | some a => exact ⟨a, rfl, q⟩
theorem Outc.re {α γ δ ε ζ : Type} {rel2 : Rel γ δ} {rel1 : Rel ε ζ} {E : XK} {r : R α} {f : α → VH → R γ} {g : α → VH → R ε} {Q : δ → Hp → Prop} {T : ζ → Hp → Prop} (o : Outc B F rel2 E p H (r.bind f) Q)
    (k : ∀ a h1, r = .ok a h1 → Outc B F rel2 E p H (f a h1) Q → Outc B F rel1 E p H (g a h1) T) : Outc B F rel1 E p H (r.bind g) T := by
  cases r with
  | ok a h' => exact k a h' rfl o
  | exc x h' => exact o
  | bad => exact o
/-- a value comes, nothing else has changed -/
theorem Outc.done {α β : Type} {rel : Rel α β} {E : XK} {a : α} {b : β} {h1 : VH} {Q : β → Hp → Prop} (q : Outc B F rel E p H (.ok a h1) Q) (S : Sim B F p h1 H) (r : rel p H a b) : Q b H :=
  q p H b (After.refl p H) S r

/-! ### readings -/
/-- what must hold so that the interpreter's run of m tells what comes -/
def tE (B : Base) (F : List Addr) (E : XK) (m : VS → VH → R W) : TE := fun σ H Q => ∃ p s h, Sim B F p h H ∧ RL B F p H s σ ∧ Outc B F (fun p H w v => RW B F p H w v) E p H (m s h) Q
def tT (B : Base) (F : List Addr) (E : XK) (m : VS → VH → R Bool) : TT := fun σ H Q => ∃ p s h, Sim B F p h H ∧ RL B F p H s σ ∧ Outc B F (fun _ _ a b => a = b) E p H (m s h) Q
def tA (B : Base) (F : List Addr) (E : XK) (m : VS → VH → R (List W)) : TA := fun σ H Q => ∃ p s h, Sim B F p h H ∧ RL B F p H s σ ∧ Outc B F (fun p H w v => RWs B F p H w v) E p H (m s h) Q
theorem PE_imp {X : Cx} {e : Expr} {t t' : TE} (h : PE X e t) (i : ∀ σ H Q, t' σ H Q → t σ H Q) : PE X e t' := ⟨fun pins s σ H Q I q => h.run pins s σ H Q I (i σ H Q q)⟩
theorem PT_imp {X : Cx} {e : Expr} {t t' : TT} (h : PT X e t) (i : ∀ σ H Q, t' σ H Q → t σ H Q) : PT X e t' := ⟨fun pins s σ H Q I q => h.run pins s σ H Q I (i σ H Q q)⟩
theorem PW_imp {X : Cx} {e : Expr} {t t' : TT} (h : PW X e t) (i : ∀ σ H Q, t' σ H Q → t σ H Q) : PW X e t' := ⟨fun wh pins s σ H Q I q => h.run wh pins s σ H Q I (i σ H Q q)⟩
theorem PA_imp {X : Cx} {e : List Expr} {t t' : TA} (h : PA X e t) (i : ∀ σ H Q, t' σ H Q → t σ H Q) : PA X e t' := ⟨fun pos pins s σ H Q I q => h.run pos pins s σ H Q I (i σ H Q q)⟩
theorem PS_imp {X : Cx} {e : Stmt} {t t' : TS} (h : PS X e t) (i : ∀ D σ H, t' D σ H → t D σ H) : PS X e t' := ⟨fun pins s σ H D I q => h.run pins s σ H D I (i D σ H q)⟩
theorem PSs_imp {X : Cx} {e : List Stmt} {t t' : TS} (h : PSs X e t) (i : ∀ D σ H, t' D σ H → t D σ H) : PSs X e t' := ⟨fun pins s σ H D I q => h.run pins s σ H D I (i D σ H q)⟩
end
end Vm

/-! VmOps: the operations on values are the model's. -/
namespace Vm
open PySem PySem.Spec PyProof.Rows L2

section
variable {B : Base} {F p : List Addr} {H : Hp} {h : VH}

abbrev rW : Rel W V := fun p H w v => True
/-- the relation of values -/
abbrev RWr (B : Base) (F : List Addr) : Rel W V := fun p H w v => RW B F p H w v
abbrev REq {α : Type} : Rel α α := fun _ _ a b => a = b

/-- an operation on two values, the reading r asked of it -/
def Snd2 (B : Base) (r : R2) (g : VH → W → W → Option W) : Prop :=
  ∀ (F p : List Addr) (h : VH) (H : Hp) (x y w : W) (v u : V) (Q : VK), Sim B F p h H → RW B F p H x v → RW B F p H y u → g h x y = some w →
    (∀ p' H' z, After p H p' H' → Sim B F p' h H' → RW B F p' H' w z → Q z H') → r v u H Q
def SndB (B : Base) (r : R2) (g : VH → W → W → Option Bool) : Prop :=
  ∀ (F p : List Addr) (h : VH) (H : Hp) (x y : W) (b : Bool) (v u : V) (Q : VK), Sim B F p h H → RW B F p H x v → RW B F p H y u → g h x y = some b → Q (.bl b) H → r v u H Q

/-! ### shapes -/
theorem RW.int_ {i : Int} {v : V} (h : RW B F p H (.int i) v) : v = .int i := by simpa only [RW] using h
theorem RW.bl_ {i : Bool} {v : V} (h : RW B F p H (.bl i) v) : v = .bl i := by simpa only [RW] using h
theorem RW.str_ {i : Str} {v : V} (h : RW B F p H (.str i) v) : v = .str i := by simpa only [RW] using h
theorem RW.non_ {v : V} (h : RW B F p H .non v) : v = .non := by simpa only [RW] using h
theorem RW.tup_ {xs : List W} {v : V} (h : RW B F p H (.tup xs) v) : ∃ a vs, v = .ref a ∧ a ∉ F ∧ a ∉ p ∧ H a = some (.tup vs) ∧ RWs B F p H xs vs := by simpa only [RW] using h
theorem asLst_rel (S : Sim B F p h H) {x : W} {xs : List W} {v : V} (r : RW B F p H x v) (e : asLst h x = some xs) : ∃ a vs, v = .ref a ∧ H a = some (.lst vs) ∧ RWs B F p H xs vs := by
  cases x with
  | lst ys =>
    simp only [asLst, Option.some.injEq] at e
    subst e
    simp only [RW] at r
    obtain ⟨a, vs, e, _, _, h1, h2⟩ := r
    exact ⟨a, vs, e, h1, h2⟩
  | ref n =>
    simp only [asLst] at e
    split at e
    · rename_i ys q
      simp only [Option.some.injEq] at e
      subst e
      simp only [RW] at r
      obtain ⟨a, e, e1⟩ := r
      obtain ⟨b, o, h1, _, h3, h4⟩ := S.at_ q
      rw [e1] at h1; cases h1
      obtain ⟨vs, q1, q2⟩ := h4
      subst q1
      exact ⟨a, vs, e, h3, q2⟩
    · cases e
  | _ => simp [asLst] at e
theorem asInt_rel {x : W} {i : Int} {v : V} (r : RW B F p H x v) (e : asInt x = some i) : v = .int i := by
  cases x <;> simp [asInt] at e
  subst e
  exact r.int_
theorem asTup_rel {x : W} {xs : List W} {v : V} (r : RW B F p H x v) (e : asTup x = some xs) : ∃ a vs, v = .ref a ∧ a ∉ F ∧ a ∉ p ∧ H a = some (.tup vs) ∧ RWs B F p H xs vs := by
  cases x <;> simp [asTup] at e
  subst e
  exact r.tup_
/-- a new list, a new tuple -/
theorem new_lst (S : Sim B F p h H) {xs : List W} {vs : List V} (r : RWs B F p H xs vs) {a : Addr} (n : H a = none) : RW B F p (upd H a (.lst vs)) (.lst xs) (.ref a) := by
  obtain ⟨n1, n2⟩ := S.fresh n
  simp only [RW]
  exact ⟨a, vs, rfl, n2, n1, upd_same, r.after (After.laid n)⟩
theorem new_tup (S : Sim B F p h H) {xs : List W} {vs : List V} (r : RWs B F p H xs vs) {a : Addr} (n : H a = none) : RW B F p (upd H a (.tup vs)) (.tup xs) (.ref a) := by
  obtain ⟨n1, n2⟩ := S.fresh n
  simp only [RW]
  exact ⟨a, vs, rfl, n2, n1, upd_same, r.after (After.laid n)⟩
theorem old_tup {xs : List W} {vs : List V} {a : Addr} (n1 : a ∉ F) (n2 : a ∉ p) (e : H a = some (.tup vs)) (r : RWs B F p H xs vs) : RW B F p H (.tup xs) (.ref a) := by
  simp only [RW]
  exact ⟨a, vs, rfl, n1, n2, e, r⟩

/-! ### + -/
def rAddS : R2 := fun x y H Q => ∃ i j, x = .str i ∧ y = .str j ∧ i.length + j.length ≤ sizeLine ∧ Q (.str (i ++ j)) H
def rAddAll (K : PySem.W.Frag) : R2 := fun x y H Q => (((rI0 fun i j => .int (i + j)) x y H Q ∨ rAddS x y H Q) ∨ rCatA K x y H Q) ∨ rCat x y H Q
theorem op_addAll {X : Cx} : OpR X (binaryOp .Add) (rAddAll X.K) := OpR.or (OpR.or (OpR.or op_add op_add_str) op_catA) op_cat
theorem snd_add : Snd2 B (rAddAll B.K) addW := by
  intro F p h H x y w v u Q S rx ry e q
  have cat : ∀ (xs ys : List W), asLst h x = some xs → asLst h y = some ys → xs.length + ys.length ≤ sizeLine → (∀ p' H' z, After p H p' H' → Sim B F p' h H' → RW B F p' H' (.lst (xs ++ ys)) z → Q z H') → rCat v u H Q := by
    intro xs ys e1 e2 hl q
    obtain ⟨a, vs, rfl, ha, r1⟩ := asLst_rel S rx e1
    obtain ⟨b, us, rfl, hb, r2⟩ := asLst_rel S ry e2
    exact ⟨a, b, vs, us, rfl, rfl, ha, hb, by rw [← r1.length, ← r2.length]; exact hl, fun c hc => q p _ _ (After.laid hc) (S.laid hc) (new_lst S (r1.append r2) hc)⟩
  have lists : (match asLst h x, asLst h y with | some x, some y => if x.length + y.length ≤ sizeLine then some (W.lst (x ++ y)) else none | _, _ => none) = some w → rAddAll B.K v u H Q := by
    intro e
    cases e1 : asLst h x with
    | none => simp [e1] at e
    | some xs =>
      cases e2 : asLst h y with
      | none => simp [e1, e2] at e
      | some ys =>
        simp only [e1, e2] at e
        split at e
        · rename_i hl
          cases e
          exact .inr (cat xs ys e1 e2 hl q)
        · cases e
  unfold addW at e
  split at e
  · rename_i i j
    cases e
    refine .inl (.inl (.inl ⟨i, j, rx.int_, ry.int_, q p H _ (After.refl p H) S (by simp [RW])⟩))
  · rename_i i j
    split at e
    · rename_i hl
      cases e
      exact .inl (.inl (.inr ⟨i, j, rx.str_, ry.str_, hl, q p H _ (After.refl p H) S (by simp [RW])⟩))
    · cases e
  · rename_i xs ys
    split at e
    · rename_i hl
      cases e
      obtain ⟨a, vs, rfl, a1, a2, ha, r1⟩ := rx.tup_
      obtain ⟨b, us, rfl, b1, b2, hb, r2⟩ := ry.tup_
      refine .inl (.inr ⟨a, b, vs, us, rfl, rfl, SqT.of ha, SqT.of hb, by rw [← r1.length, ← r2.length]; exact hl, fun z => ?_, fun _ z => ?_, fun _ _ c hc => ?_⟩)
      · subst z
        have e1 : xs = [] := by have := r1.length; simpa using this
        subst e1
        exact q p H _ (After.refl p H) S (old_tup b1 b2 hb (by simpa using r2))
      · subst z
        have e1 : ys = [] := by have := r2.length; simpa using this
        subst e1
        exact q p H _ (After.refl p H) S (old_tup a1 a2 ha (by simpa using r1))
      · exact q p _ _ (After.laid hc) (S.laid hc) (new_tup S (r1.append r2) hc)
    · cases e
  · exact lists e
/-! ### * -/
def rMulAll (K : PySem.W.Frag) : R2 := fun x y H Q => ((rI CMul fun i j => .int (i * j)) x y H Q ∨ rRep x y H Q) ∨ rRepT K x y H Q
theorem op_mulAll {X : Cx} : OpR X (binaryOp .Mult) (rMulAll X.K) := OpR.or (OpR.or op_mul op_rep) op_repT
theorem mulOk_ok {i j : Int} (e : mulOk i j = true) : CMul i j := by
  unfold mulOk at e
  simp only [Bool.or_eq_true, Bool.and_eq_true, decide_eq_true_eq] at e
  exact e
theorem snd_mul : Snd2 B (rMulAll B.K) mulW := by
  intro F p h H x y w v u Q S rx ry e q
  unfold mulW at e
  split at e
  · rename_i i j
    split at e
    · rename_i hm
      cases e
      exact .inl (.inl ⟨i, j, rx.int_, ry.int_, mulOk_ok hm, q p H _ (After.refl p H) S (by simp [RW])⟩)
    · cases e
  · rename_i xs k
    split at e
    · rename_i hc
      obtain ⟨c1, c2, c3, c4⟩ := hc
      cases e
      obtain ⟨a, vs, rfl, a1, a2, ha, r1⟩ := rx.tup_
      refine .inr ⟨a, k, vs, rfl, ry.int_, SqT.of ha, fun z => c1 (by have := r1.length; rw [z] at this; simpa using this), c2, c3, by rw [← r1.length]; exact c4, fun c hc => ?_⟩
      exact q p _ _ (After.laid hc) (S.laid hc) (new_tup S (r1.rep k.toNat) hc)
    · cases e
  · rename_i k _ _
    cases e1 : asLst h x with
    | none => simp [e1] at e
    | some xs =>
      simp only [e1] at e
      split at e
      · rename_i hc
        obtain ⟨c1, c2, c3⟩ := hc
        cases e
        obtain ⟨a, vs, rfl, ha, r1⟩ := asLst_rel S rx e1
        refine .inl (.inr ⟨a, k, vs, rfl, ry.int_, ha, c1, c2, by rw [← r1.length]; exact c3, fun c hc => ?_⟩)
        exact q p _ _ (After.laid hc) (S.laid hc) (new_lst S (r1.rep k.toNat) hc)
      · cases e
  · cases e
/-- ints -/
theorem snd_int {C : Int → Int → Prop} {g : Int → Int → Int} {k : VH → W → W → Option W} (hk : ∀ h x y w, k h x y = some w → ∃ i j, x = .int i ∧ y = .int j ∧ C i j ∧ w = .int (g i j)) : Snd2 B (rI C fun i j => .int (g i j)) k := by
  intro F p h H x y w v u Q S rx ry e q
  obtain ⟨i, j, rfl, rfl, c, rfl⟩ := hk h x y w e
  exact ⟨i, j, rx.int_, ry.int_, c, q p H _ (After.refl p H) S (by simp [RW])⟩
theorem asInt_some {x : W} {i : Int} (e : asInt x = some i) : x = .int i := by
  cases x <;> simp [asInt] at e
  rw [e]
theorem bind_some_ {α β : Type} {o : Option α} {f : α → Option β} {b : β} (e : o.bind f = some b) : ∃ a, o = some a ∧ f a = some b := by
  cases o with
  | none => cases e
  | some a => exact ⟨a, rfl, e⟩
theorem ite_some_ {α : Type} {c : Prop} [Decidable c] {a b : α} (e : (if c then some a else none) = some b) : c ∧ a = b := by
  split at e
  · rename_i hc
    exact ⟨hc, Option.some.inj e⟩
  · cases e
theorem snd_sub : Snd2 B (rI (fun _ _ => True) fun i j => .int (i - j)) (binW .Sub) := snd_int (k := binW .Sub) fun h x y w e => by
  obtain ⟨i, e1, e⟩ := bind_some_ (show (asInt x).bind _ = _ from e)
  obtain ⟨j, e2, e⟩ := bind_some_ e
  cases e
  exact ⟨i, j, asInt_some e1, asInt_some e2, trivial, rfl⟩
theorem snd_fdiv : Snd2 B (rI CDiv fun i j => .int (i / j)) (binW .FloorDiv) := snd_int (k := binW .FloorDiv) fun h x y w e => by
  obtain ⟨i, e1, e⟩ := bind_some_ (show (asInt x).bind _ = _ from e)
  obtain ⟨j, e2, e⟩ := bind_some_ e
  obtain ⟨c, e⟩ := ite_some_ e
  exact ⟨i, j, asInt_some e1, asInt_some e2, c, e.symm⟩
theorem snd_mod : Snd2 B (rI (fun _ j => 0 < j) fun i j => .int (i % j)) (binW .Mod) := snd_int (k := binW .Mod) fun h x y w e => by
  obtain ⟨i, e1, e⟩ := bind_some_ (show (asInt x).bind _ = _ from e)
  obtain ⟨j, e2, e⟩ := bind_some_ e
  obtain ⟨c, e⟩ := ite_some_ e
  exact ⟨i, j, asInt_some e1, asInt_some e2, c, e.symm⟩
theorem snd_pow : Snd2 B (rI CPow fun i j => .int (i ^ j.toNat)) (binW .Pow) := snd_int (k := binW .Pow) fun h x y w e => by
  obtain ⟨i, e1, e⟩ := bind_some_ (show (asInt x).bind _ = _ from e)
  obtain ⟨j, e2, e⟩ := bind_some_ e
  obtain ⟨c, e⟩ := ite_some_ e
  exact ⟨i, j, asInt_some e1, asInt_some e2, c, e.symm⟩
theorem op_subT {X : Cx} : OpR X (binaryOp .Sub) (rI (fun _ _ => True) fun i j => .int (i - j)) := opI fun _ _ _ _ _ _ _ _ q => sub_int q
/-- every binary operation has its rule -/
theorem op_bin {X : Cx} (hK : X.K = B.K) {op : Operator} (hop : ∃ h x y w, binW op h x y = some w) : ∃ r, OpR X (binaryOp op) r ∧ Snd2 B r (binW op) := by
  cases op with
  | Add => exact ⟨_, op_addAll, by rw [hK]; exact snd_add⟩
  | Mult => exact ⟨_, op_mulAll, by rw [hK]; exact snd_mul⟩
  | Sub => exact ⟨_, op_subT, snd_sub⟩
  | FloorDiv => exact ⟨_, op_fdiv, snd_fdiv⟩
  | Mod => exact ⟨_, op_mod, snd_mod⟩
  | Pow => exact ⟨_, op_pow, snd_pow⟩
  | _ => obtain ⟨h, x, y, w, e⟩ := hop; cases e

/-! ### data -/
mutual
theorem data_dp : ∀ {x : W} {v : V} {d : PyData}, RW B F p H x v → W.data x = some d → Dp B.K H v d
  | .non, v, d, r, e => by simp only [W.data, Option.some.injEq] at e; subst e; rw [r.non_]; exact .non
  | .bl b, v, d, r, e => by simp only [W.data, Option.some.injEq] at e; subst e; rw [r.bl_]; exact .bl b
  | .int b, v, d, r, e => by simp only [W.data, Option.some.injEq] at e; subst e; rw [r.int_]; exact .int b
  | .str b, v, d, r, e => by simp only [W.data, Option.some.injEq] at e; subst e; rw [r.str_]; exact .str b
  | .tup xs, v, d, r, e => by
    simp only [W.data, Option.map_eq_some_iff] at e
    obtain ⟨ds, e1, e2⟩ := e
    subst e2
    obtain ⟨a, vs, rfl, _, _, ha, r1⟩ := r.tup_
    exact .tup (SqT.of ha) (datas_dp r1 e1)
  | .lst xs, v, d, r, e => by
    simp only [W.data, Option.map_eq_some_iff] at e
    obtain ⟨ds, e1, e2⟩ := e
    subst e2
    simp only [RW] at r
    obtain ⟨a, vs, rfl, _, _, ha, r1⟩ := r
    exact .lst (SqL.of ha) (datas_dp r1 e1)
  | .dct _ _, v, d, r, e => by simp [W.data] at e
  | .ref _, v, d, r, e => by simp [W.data] at e
  | .glb _, v, d, r, e => by simp [W.data] at e
  | .ty _, v, d, r, e => by simp [W.data] at e
  | .exc _ _ _, v, d, r, e => by simp [W.data] at e
  | .scr _, v, d, r, e => by simp [W.data] at e
theorem datas_dp : ∀ {xs : List W} {vs : List V} {ds : List PyData}, RWs B F p H xs vs → W.datas xs = some ds → DpAll B.K H vs ds
  | [], vs, ds, r, e => by
    simp only [W.datas, Option.some.injEq] at e
    simp only [RWs] at r
    subst e r
    exact .nil
  | x :: xs, vs, ds, r, e => by
    simp only [W.datas] at e
    simp only [RWs] at r
    obtain ⟨v, us, rfl, r1, r2⟩ := r
    split at e
    · rename_i d ds' e1 e2
      cases e
      exact .cons (data_dp r1 e1) (datas_dp r2 e2)
    · cases e
end
mutual
theorem dataH_dp (S : Sim B F p h H) : ∀ {x : W} {v : V} {d : PyData}, RW B F p H x v → W.dataH h x = some d → Dp B.K H v d
  | .non, v, d, r, e => by simp only [W.dataH, Option.some.injEq] at e; subst e; rw [r.non_]; exact .non
  | .bl b, v, d, r, e => by simp only [W.dataH, Option.some.injEq] at e; subst e; rw [r.bl_]; exact .bl b
  | .int b, v, d, r, e => by simp only [W.dataH, Option.some.injEq] at e; subst e; rw [r.int_]; exact .int b
  | .str b, v, d, r, e => by simp only [W.dataH, Option.some.injEq] at e; subst e; rw [r.str_]; exact .str b
  | .tup xs, v, d, r, e => by
    simp only [W.dataH, Option.map_eq_some_iff] at e
    obtain ⟨ds, e1, e2⟩ := e
    subst e2
    obtain ⟨a, vs, rfl, _, _, ha, r1⟩ := r.tup_
    exact .tup (SqT.of ha) (datasH_dp S r1 e1)
  | .lst xs, v, d, r, e => by
    simp only [W.dataH, Option.map_eq_some_iff] at e
    obtain ⟨ds, e1, e2⟩ := e
    subst e2
    simp only [RW] at r
    obtain ⟨a, vs, rfl, _, _, ha, r1⟩ := r
    exact .lst (SqL.of ha) (datasH_dp S r1 e1)
  | .ref n, v, d, r, e => by
    simp only [W.dataH] at e
    split at e
    · rename_i xs q
      simp only [Option.map_eq_some_iff] at e
      obtain ⟨ds, e1, e2⟩ := e
      subst e2
      obtain ⟨a, vs, rfl, ha, r1⟩ := asLst_rel S r (show asLst h (.ref n) = some xs by simp only [asLst, q])
      exact .lst (SqL.of ha) (datas_dp r1 e1)
    · cases e
  | .dct _ _, v, d, r, e => by simp [W.dataH] at e
  | .glb _, v, d, r, e => by simp [W.dataH] at e
  | .ty _, v, d, r, e => by simp [W.dataH] at e
  | .exc _ _ _, v, d, r, e => by simp [W.dataH] at e
  | .scr _, v, d, r, e => by simp [W.dataH] at e
theorem datasH_dp (S : Sim B F p h H) : ∀ {xs : List W} {vs : List V} {ds : List PyData}, RWs B F p H xs vs → W.datasH h xs = some ds → DpAll B.K H vs ds
  | [], vs, ds, r, e => by
    simp only [W.datasH, Option.some.injEq] at e
    simp only [RWs] at r
    subst e r
    exact .nil
  | x :: xs, vs, ds, r, e => by
    simp only [W.datasH] at e
    simp only [RWs] at r
    obtain ⟨v, us, rfl, r1, r2⟩ := r
    split at e
    · rename_i d ds' e1 e2
      cases e
      exact .cons (dataH_dp S r1 e1) (datasH_dp S r2 e2)
    · cases e
end
theorem scal_rel {x y : W} {v u : V} {b : Bool} (rx : RW B F p H x v) (ry : RW B F p H y u) (e : scalE x y = some b) : scal v u = true ∧ decide (v = u) = b := by
  cases x <;> cases y <;> simp only [scalE, Option.some.injEq, reduceCtorEq] at e <;> simp only [RW] at rx ry <;> subst rx ry e <;>
    first
    | exact ⟨rfl, rfl⟩
    | (refine ⟨rfl, ?_⟩; simp)
def rEqAll (K : PySem.W.Frag) : R2 := fun x y H Q => rEq x y H Q ∨ rEqD K x y H Q
def rNeAll (K : PySem.W.Frag) : R2 := fun x y H Q => rNe x y H Q ∨ rNeD K x y H Q
theorem dataE_rel (S : Sim B F p h H) {x y : W} {v u : V} {b : Bool} (rx : RW B F p H x v) (ry : RW B F p H y u) (e : dataE h x y = some b) :
    ∃ d d', Dp B.K H v d ∧ Dp B.K H u d' ∧ SeqAt.shaped d = true ∧ SeqAt.shaped d' = true ∧ PyData.eqv d d' = b := by
  unfold dataE at e
  split at e
  · rename_i d d' e1 e2
    split at e
    · rename_i hs
      rw [Bool.and_eq_true] at hs
      cases e
      exact ⟨d, d', dataH_dp S rx e1, dataH_dp S ry e2, hs.1, hs.2, rfl⟩
    · cases e
  · cases e
theorem snd_eq : SndB B (rEqAll B.K) eqW := by
  intro F p h H x y b v u Q S rx ry e q
  unfold eqW at e
  split at e
  · rename_i r e1
    cases e
    obtain ⟨s1, s2⟩ := scal_rel rx ry e1
    exact .inl ⟨s1, by rw [s2]; exact q⟩
  · obtain ⟨d, d', h1, h2, h3, h4, h5⟩ := dataE_rel S rx ry e
    exact .inr ⟨d, d', h1, h2, h3, h4, by rw [h5]; exact q⟩
theorem snd_ne : SndB B (rNeAll B.K) (fun h x y => (eqW h x y).map (!·)) := by
  intro F p h H x y b v u Q S rx ry e q
  have e' := Option.map_eq_some_iff.mp e
  clear e
  obtain ⟨c, e, rfl⟩ := e'
  unfold eqW at e
  split at e
  · rename_i r e1
    cases e
    obtain ⟨s1, s2⟩ := scal_rel rx ry e1
    exact .inl ⟨s1, by rw [s2]; exact q⟩
  · obtain ⟨d, d', h1, h2, h3, h4, h5⟩ := dataE_rel S rx ry e
    exact .inr ⟨d, d', h1, h2, h3, h4, by rw [h5]; exact q⟩

/-! ### in -/
theorem keyOf_rel {x : W} {k : Key} {v : V} (r : RW B F p H x v) (e : keyOf x = some k) : v = kV k := by
  cases x <;> simp [keyOf] at e
  · subst e; exact r.int_
  · subst e; exact r.str_
theorem keysOf_rel : ∀ {xs : List W} {ks : List Key} {vs : List V}, RWs B F p H xs vs → keysOf xs = some ks → vs = ks.map kV
  | [], ks, vs, r, e => by
    simp only [keysOf, Option.some.injEq] at e
    simp only [RWs] at r
    subst e r; rfl
  | x :: xs, ks, vs, r, e => by
    simp only [keysOf] at e
    simp only [RWs] at r
    obtain ⟨v, us, rfl, r1, r2⟩ := r
    split at e
    · rename_i k ks' e1 e2
      cases e
      rw [keyOf_rel r1 e1, keysOf_rel r2 e2]; rfl
    · cases e
theorem tkeyOf_rel {x : W} {k : List Key} {v : V} (r : RW B F p H x v) (e : tkeyOf x = some k) : ∃ b, v = .ref b ∧ H b = some (.tup (k.map kV)) := by
  cases x <;> simp [tkeyOf] at e
  obtain ⟨a, vs, rfl, _, _, ha, r1⟩ := r.tup_
  exact ⟨a, rfl, by rw [ha, keysOf_rel r1 e]⟩
def RO (B : Base) (F p : List Addr) (H : Hp) : Option W → Option V → Prop
  | some w, some v => RW B F p H w v
  | none, none => True
  | _, _ => False
section
variable {κ : Type} [DecidableEq κ]
theorem kget_rel (k : κ) : ∀ {kvs : List (κ × W)} {ws : List (κ × V)}, RK B F p H kvs ws → RO B F p H (kget kvs k) (valV ws k)
  | [], ws, r => by
    obtain ⟨r1, _⟩ := r
    have : ws = [] := by simpa using r1
    subst this
    simp [kget, valV, RO]
  | (j, w) :: kvs, ws, r => by
    obtain ⟨r1, r2⟩ := r
    cases ws with
    | nil => simp at r1
    | cons q ws =>
      obtain ⟨j', v⟩ := q
      simp only [List.map_cons, List.cons.injEq] at r1
      obtain ⟨rfl, r1⟩ := r1
      simp only [List.map_cons, RWs] at r2
      obtain ⟨v', us, e, r3, r4⟩ := r2
      simp only [List.cons.injEq] at e
      obtain ⟨rfl, rfl⟩ := e
      by_cases hj : j' = k
      · subst hj
        rw [valV_pos rfl]
        simpa [kget, RO] using r3
      · rw [valV_neg hj]
        have ih := kget_rel k (kvs := kvs) (ws := ws) ⟨r1, r4⟩
        simpa [kget, hj] using ih
end
theorem asSeq_rel (S : Sim B F p h H) {x : W} {xs : List W} {v : V} (r : RW B F p H x v) (e : asSeq h x = some xs) : ∃ a vs, v = .ref a ∧ (H a = some (.lst vs) ∨ H a = some (.tup vs)) ∧ RWs B F p H xs vs := by
  unfold asSeq at e
  split at e
  · rename_i ys e1
    cases e
    obtain ⟨a, vs, e, _, _, h1, h2⟩ := asTup_rel r e1
    exact ⟨a, vs, e, .inr h1, h2⟩
  · obtain ⟨a, vs, e, h1, h2⟩ := asLst_rel S r e
    exact ⟨a, vs, e, .inl h1, h2⟩
theorem unlock_map {o : Option Cell} {c : Cell} (e : o.map unlock = some c) : o = some c ∨ ∃ d, o = some (.lock d) ∧ d = c := by
  cases o with
  | none => cases e
  | some a =>
    cases a with
    | lock d => exact .inr ⟨d, rfl, Option.some.inj e⟩
    | _ => exact .inl e
/-- a dict's item -/
theorem dget_rel (S : Sim B F p h H) {o k : W} {r : Option W} {v u : V} (ro : RW B F p H o v) (rk : RW B F p H k u) (e : dget h o k = some r) :
    ∃ a z, v = .ref a ∧ DGet H a u z ∧ RO B F p H r z := by
  cases o with
  | ref n =>
    simp only [RW] at ro
    obtain ⟨a, rfl, ha⟩ := ro
    simp only [dget] at e
    split at e
    · rename_i kvs q
      obtain ⟨j, e1, rfl⟩ := Option.map_eq_some_iff.mp e
      rcases unlock_map q with q | ⟨d, q, rfl⟩
      · obtain ⟨b, c, h1, _, h3, ws, rfl, h5⟩ := S.at_ q
        rw [ha] at h1; cases h1
        exact ⟨_, valV ws j, rfl, .inl ⟨ws, j, .inl h3, keyOf_rel rk e1, rfl⟩, kget_rel j h5⟩
      · obtain ⟨b, c, h1, _, h3, h4⟩ := S.at_ q
        exact h4.elim
    · rename_i kvs q
      obtain ⟨j, e1, rfl⟩ := Option.map_eq_some_iff.mp e
      rcases unlock_map q with q | ⟨d, q, rfl⟩
      · obtain ⟨b, c, h1, _, h3, ws, rfl, h5⟩ := S.at_ q
        rw [ha] at h1; cases h1
        obtain ⟨t, rfl, ht⟩ := tkeyOf_rel rk e1
        exact ⟨_, valV ws j, rfl, .inr ⟨ws, j, t, .inl h3, rfl, ht, rfl⟩, kget_rel j h5⟩
      · obtain ⟨b, c, h1, _, h3, h4⟩ := S.at_ q
        exact h4.elim
    · cases e
  | dct ks vs =>
    simp only [RW] at ro
    obtain ⟨a, kvs, rfl, _, _, ha, hk, hr⟩ := ro
    simp only [dget] at e
    obtain ⟨j, e1, rfl⟩ := Option.map_eq_some_iff.mp e
    subst hk
    refine ⟨a, valV kvs j, rfl, .inl ⟨kvs, j, .inl ha, keyOf_rel rk e1, rfl⟩, kget_rel j (ws := kvs) ⟨?_, ?_⟩⟩
    · rw [List.map_fst_zip]
      rw [hr.length]; simp
    · rw [List.map_snd_zip]
      · exact hr
      · rw [hr.length]; simp
  | _ => simp [dget] at e

/-- dicts: in, not in -/
def rInDct (neg : Bool) : R2 := fun x y H Q => ∃ a o, y = .ref a ∧ DGet H a x o ∧ Q (.bl (if neg then !o.isSome else o.isSome)) H
theorem op_inDct {X : Cx} (hu : X.A.units + 1 < cLine) : OpR X (compareOp .In) (rInDct false) := by
  intro pins s σ H x y v u Q I rx ry hq
  obtain ⟨a, o, rfl, g, q⟩ := hq
  obtain rfl : u = Value.ref a := ry
  exact d_in hu I g rx fun s' I' => ⟨.bl _, H, I', rfl, q⟩
theorem op_notInDct {X : Cx} (hu : X.A.units + 1 < cLine) : OpR X (compareOp .NotIn) (rInDct true) := by
  intro pins s σ H x y v u Q I rx ry hq
  obtain ⟨a, o, rfl, g, q⟩ := hq
  obtain rfl : u = Value.ref a := ry
  exact d_notIn hu I g rx fun s' I' => ⟨.bl _, H, I', rfl, q⟩
def rInSign (neg : Bool) : R2 := fun x y H Q => ∃ (c : Nat) (z : Str), x = .str ⟨#[c]⟩ ∧ y = .str z ∧ Q (.bl (if neg then !decide (c ∈ z.cps.toList) else decide (c ∈ z.cps.toList))) H
def rInStr (neg : Bool) : R2 := fun x y H Q => ∃ i j, x = .str i ∧ y = .str j ∧ Q (.bl (if neg then !(!(Builtin.Str.occurrences j i 0 j.length 1).isEmpty) else !(Builtin.Str.occurrences j i 0 j.length 1).isEmpty)) H
def rInAll (K : PySem.W.Frag) (neg : Bool) : R2 := fun x y H Q => (((rInSign neg x y H Q ∨ rInStr neg x y H Q) ∨ rInDct neg x y H Q) ∨ rIn K neg x y H Q) ∨ (if neg then rNotInD K x y H Q else rInD K x y H Q)
theorem op_inAll {X : Cx} (hu : X.A.units + 65 < cLine) : OpR X (compareOp .In) (rInAll X.K false) :=
  OpR.or (OpR.or (OpR.or (OpR.or op_in_sign op_in_str) (op_inDct (by omega))) op_in_seq) (op_inD hu)
theorem op_notInAll {X : Cx} (hu : X.A.units + 65 < cLine) : OpR X (compareOp .NotIn) (rInAll X.K true) :=
  OpR.or (OpR.or (OpR.or (OpR.or op_notIn_sign op_notin_str) (op_notInDct (by omega))) op_notIn_seq) (op_notInD hu)
theorem flat_rel {x : W} {v : V} {d : PyData} (S : Sim B F p h H) (r : RW B F p H x v) (e : W.dataH h x = some d) (f : flatP d = true) : flatV v = true := by
  cases dataH_dp S r e <;> first | rfl | cases f
theorem eqV_dp {K : PySem.W.Frag} {u v : V} {z d : PyData} (hz : Dp K H u z) (hd : Dp K H v d) (fz : flatP z = true) (fd : flatP d = true) : eqV u v = PyData.eqv z d := by
  cases hz <;> cases hd <;> first | rfl | (simp [eqV, PyData.eqv]; done) | cases fz | cases fd
theorem any_dp {K : PySem.W.Frag} {v : V} {d : PyData} (hd : Dp K H v d) (fd : flatP d = true) : ∀ {vs : List V} {ds : List PyData}, DpAll K H vs ds → ds.all flatP = true → vs.all flatV = true ∧ inV v vs = ds.any fun z => PyData.eqv z d
  | _, _, .nil, _ => ⟨rfl, rfl⟩
  | _, _, .cons h t, f => by
    rw [List.all_cons, Bool.and_eq_true] at f
    obtain ⟨i1, i2⟩ := any_dp hd fd t f.2
    refine ⟨?_, ?_⟩
    · rw [List.all_cons, i1, Bool.and_true]
      cases h <;> first | rfl | cases f.1
    · rw [List.any_cons, ← i2, ← eqV_dp h hd f.1 fd]
      rfl
theorem inW_rel (neg : Bool) {x y : W} {b : Bool} {v u : V} {Q : VK} (S : Sim B F p h H) (rx : RW B F p H x v) (ry : RW B F p H y u) (e : inW h x y = some b) (q : Q (.bl (if neg then !b else b)) H) : rInAll B.K neg v u H Q := by
  unfold inW at e
  split at e
  · rename_i z
    split at e
    · rename_i s
      split at e
      · rename_i c hc
        cases e
        refine .inl (.inl (.inl (.inl ⟨c, z, ?_, ry.str_, q⟩)))
        rw [rx.str_]
        have : s = ⟨#[c]⟩ := by
          obtain ⟨l⟩ := s
          simp only at hc
          rw [← Array.toArray_toList (xs := l), hc]
        rw [this]
      · cases e
        exact .inl (.inl (.inl (.inr ⟨s, z, rx.str_, ry.str_, by cases neg <;> simpa using q⟩)))
    · cases e
  · split at e
    · obtain ⟨r, e1, rfl⟩ := Option.map_eq_some_iff.mp e
      obtain ⟨a, o, rfl, g, ro⟩ := dget_rel S ry rx e1
      have : o.isSome = r.isSome := by cases r <;> cases o <;> first | rfl | exact ro.elim
      exact .inl (.inl (.inr ⟨a, o, rfl, g, by rw [this]; exact q⟩))
    · split at e
      · rename_i ys e1
        obtain ⟨a, vs, rfl, ha, ra⟩ := asSeq_rel S ry e1
        have hS : SqL B.K H a vs ∨ SqT B.K H a vs := ha.elim (fun z => .inl (SqL.of z)) fun z => .inr (SqT.of z)
        split at e
        · rename_i d ds e2 e3
          split at e
          · rename_i hf
            rw [Bool.and_eq_true] at hf
            cases e
            obtain ⟨i1, i2⟩ := any_dp (dataH_dp S rx e2) hf.1 (datasH_dp S ra e3) hf.2
            refine .inl (.inr ⟨a, vs, rfl, hS, flat_rel S rx e2 hf.1, i1, ?_⟩)
            rw [i2]; exact q
          · split at e
            · rename_i hs
              rw [Bool.and_eq_true] at hs
              split at e
              · cases e
              · rename_i e4
                cases e
                have hl : H a = some (.lst vs) := by
                  rcases ha with z | z
                  · exact z
                  · exfalso
                    unfold asSeq at e1
                    rw [e4] at e1
                    obtain ⟨a', vs', e5, h5, _⟩ := asLst_rel S ry e1
                    cases e5
                    rw [h5] at z; cases z
                have D := Dp.lst (K := B.K) (SqL.of hl) (datasH_dp S ra e3)
                cases neg
                · exact .inr ⟨d, ds, dataH_dp S rx e2, D, hs.1, hs.2, q⟩
                · exact .inr ⟨d, ds, dataH_dp S rx e2, D, hs.1, hs.2, q⟩
            · cases e
        · cases e
      · cases e
theorem snd_in : SndB B (rInAll B.K false) inW := fun F p h H x y b v u Q S rx ry e q => inW_rel false S rx ry e (by simpa using q)
theorem snd_notIn : SndB B (rInAll B.K true) (fun h x y => (inW h x y).map (!·)) := fun F p h H x y b v u Q S rx ry e q => by
  have e' := Option.map_eq_some_iff.mp e
  obtain ⟨c, e1, rfl⟩ := e'
  exact inW_rel true S rx ry e1 (by simpa using q)

/-! ### order -/
def rLtAll (K : PySem.W.Frag) : R2 := fun x y H Q => ((rI0 fun i j => .bl (decide (i < j))) x y H Q ∨ (∃ i j, x = .str i ∧ y = .str j ∧ Q (.bl (decide (i.cps.toList < j.cps.toList))) H)) ∨ rLtT K x y H Q
theorem op_ltAll {X : Cx} (hu : X.A.units < cLine) : OpR X (compareOp .Lt) (rLtAll X.K) := OpR.or (OpR.or op_lt op_lt_str) (op_ltT hu)
theorem snd_lt : SndB B (rLtAll B.K) (fun _ x y => ltW x y) := by
  intro F p h H x y b v u Q S rx ry e q
  have e : ltW x y = some b := e
  unfold ltW at e
  split at e
  · cases e; exact .inl (.inl ⟨_, _, rx.int_, ry.int_, q⟩)
  · cases e; exact .inl (.inr ⟨_, _, rx.str_, ry.str_, q⟩)
  · split at e
    · rename_i ns ms e1 e2
      cases e
      obtain ⟨a, vs, rfl, _, _, ha, r1⟩ := rx.tup_
      obtain ⟨c, us, rfl, _, _, hc, r2⟩ := ry.tup_
      exact .inr ⟨a, c, ns, ms, rfl, rfl, by rw [← r1.ints e1]; exact SqT.of ha, by rw [← r2.ints e2]; exact SqT.of hc, q⟩
    · cases e
  · cases e
theorem snd_cmpI {g : Int → Int → Bool} {k : VH → W → W → Option Bool} (hk : ∀ h x y b, k h x y = some b → ∃ i j, x = .int i ∧ y = .int j ∧ b = g i j) : SndB B (rI0 fun i j => .bl (g i j)) k := by
  intro F p h H x y b v u Q S rx ry e q
  obtain ⟨i, j, rfl, rfl, rfl⟩ := hk h x y b e
  exact ⟨i, j, rx.int_, ry.int_, q⟩
theorem cmpI_ {g : Int → Int → Bool} {x y : W} {b : Bool} (e : ((asInt x).bind fun i => (asInt y).bind fun j => some (g i j)) = some b) : ∃ i j, x = .int i ∧ y = .int j ∧ b = g i j := by
  obtain ⟨i, e1, e⟩ := bind_some_ e
  obtain ⟨j, e2, e⟩ := bind_some_ e
  cases e
  exact ⟨i, j, asInt_some e1, asInt_some e2, rfl⟩
/-- is None -/
theorem isN_rel {x : W} {v : V} {b : Bool} (r : RW B F p H x v) (e : isNon x = some b) : decide (v = .non) = b := by
  cases x with
  | non => cases e; have := r.non_; subst this; rfl
  | bl _ => cases e; have := r.bl_; subst this; rfl
  | int _ => cases e; have := r.int_; subst this; rfl
  | str _ => cases e; have := r.str_; subst this; rfl
  | tup xs => cases e; obtain ⟨a, vs, rfl, _⟩ := r.tup_; rfl
  | lst xs => cases e; simp only [RW] at r; obtain ⟨a, vs, rfl, _⟩ := r; rfl
  | dct _ _ => cases e; simp only [RW] at r; obtain ⟨a, vs, rfl, _⟩ := r; rfl
  | ref _ => cases e; simp only [RW] at r; obtain ⟨a, rfl, _⟩ := r; rfl
  | ty _ => cases e; simp only [RW] at r; subst r; rfl
  | scr _ => cases e; simp only [RW] at r; obtain ⟨a, vs, rfl, _⟩ := r; rfl
  | exc _ _ _ => cases e
  | glb y => cases e
theorem snd_is : SndB B (fun x y H Q => y = .non ∧ Q (.bl (decide (x = .non))) H) (cmpW .Is) := by
  intro F p h H x y b v u Q S rx ry e q
  simp only [cmpW] at e
  split at e
  · exact ⟨ry.non_, by rw [isN_rel rx e]; exact q⟩
  · cases e
theorem snd_isNot : SndB B (fun x y H Q => y = .non ∧ Q (.bl (!decide (x = .non))) H) (cmpW .IsNot) := by
  intro F p h H x y b v u Q S rx ry e q
  simp only [cmpW] at e
  split at e
  · obtain ⟨c, e1, rfl⟩ := Option.map_eq_some_iff.mp e
    exact ⟨ry.non_, by rw [isN_rel rx e1]; exact q⟩
  · cases e
/-- every comparison has its rule -/
theorem op_cmp {X : Cx} (hK : X.K = B.K) (hu : X.A.units + 65 < cLine) (op : CmpOp) : ∃ r, OpR X (compareOp op) r ∧ SndB B r (cmpW op) := by
  cases op with
  | Eq => exact ⟨rEqAll B.K, by rw [← hK]; exact OpR.or op_eq (op_eqD (by omega)), snd_eq⟩
  | NotEq => exact ⟨rNeAll B.K, by rw [← hK]; exact OpR.or op_ne (op_neD (by omega)), snd_ne⟩
  | Lt => exact ⟨rLtAll B.K, by rw [← hK]; exact op_ltAll (by omega), snd_lt⟩
  | LtE => exact ⟨_, op_le, snd_cmpI (k := cmpW .LtE) fun h x y b e => cmpI_ (g := fun i j => decide (i ≤ j)) e⟩
  | Gt => exact ⟨_, op_gt, snd_cmpI (k := cmpW .Gt) fun h x y b e => cmpI_ (g := fun i j => decide (j < i)) e⟩
  | GtE => exact ⟨_, op_ge, snd_cmpI (k := cmpW .GtE) fun h x y b e => cmpI_ (g := fun i j => decide (j ≤ i)) e⟩
  | Is => exact ⟨_, op_isN, snd_is⟩
  | IsNot => exact ⟨_, op_notN, snd_isNot⟩
  | In => exact ⟨rInAll B.K false, by rw [← hK]; exact op_inAll hu, snd_in⟩
  | NotIn => exact ⟨rInAll B.K true, by rw [← hK]; exact op_notInAll hu, snd_notIn⟩

/-! ### truth, length -/
theorem truW_rel (S : Sim B F p h H) {x : W} {b : Bool} {v : V} (r : RW B F p H x v) (e : truW h x = some b) : TruV B.K v H b := by
  cases x with
  | non => cases e; rw [r.non_]; rfl
  | bl _ => cases e; rw [r.bl_]; rfl
  | int _ => cases e; rw [r.int_]; rfl
  | str s =>
    simp only [truW] at e
    obtain ⟨c, e⟩ := ite_some_ e
    subst e
    rw [r.str_]
    exact ⟨c, rfl⟩
  | tup xs =>
    cases e
    obtain ⟨a, vs, rfl, _, _, ha, r1⟩ := r.tup_
    refine .inr (.inl ⟨vs, SqT.of ha, ?_⟩)
    have := r1.length
    cases xs <;> cases vs <;> first | rfl | simp at this
  | lst xs =>
    cases e
    obtain ⟨a, vs, rfl, ha, r1⟩ := asLst_rel S r rfl
    refine .inl ⟨vs, SqL.of ha, ?_⟩
    have := r1.length
    cases xs <;> cases vs <;> first | rfl | simp at this
  | ref n =>
    simp only [truW] at e
    split at e
    · rename_i xs q
      cases e
      obtain ⟨a, vs, rfl, ha, r1⟩ := asLst_rel S r (show asLst h (.ref n) = some xs by simp only [asLst, q])
      refine .inl ⟨vs, SqL.of ha, ?_⟩
      have := r1.length
      cases xs <;> cases vs <;> first | rfl | simp at this
    · rename_i kvs q
      cases e
      simp only [RW] at r
      obtain ⟨a, rfl, ha⟩ := r
      obtain ⟨b, c, h1, _, h3, ws, rfl, h5⟩ := S.at_ q
      rw [ha] at h1; cases h1
      refine .inr (.inr ⟨ws, h3, ?_⟩)
      have := congrArg List.length h5.1
      cases kvs <;> cases ws <;> first | rfl | simp at this
    · cases e
  | _ => cases e
/-- len: of lists, tuples, texts, dicts -/
def rLenAll (K : PySem.W.Frag) : List V → Hp → VK → Prop := fun xs H Q => (∃ x n, xs = [x] ∧ LenV K x H n ∧ Q (.int n) H) ∨ ∃ a kvs, xs = [.ref a] ∧ H a = some (.dK kvs) ∧ Q (.int kvs.length) H
theorem call_lenAll {X : Cx} : CallR X (.builtin "len") (rLenAll X.K) := CallR.or call_len (by
  intro pins s σ H xs us Q I r hq
  obtain ⟨a, kvs, rfl, ha, q⟩ := hq
  obtain ⟨u, rfl, ru⟩ := vals1 r
  obtain rfl : u = Value.ref a := ru
  exact d_len I (.inl ha) fun t s' I' => ⟨.int _, H, I', ⟨_, rfl⟩, q⟩)
theorem lenW_rel (S : Sim B F p h H) {x : W} {n : Nat} {v : V} {Q : VK} (r : RW B F p H x v) (e : lenW h x = some n) (q : Q (.int n) H) : rLenAll B.K [v] H Q := by
  cases x with
  | str s =>
    simp only [lenW] at e
    obtain ⟨c, e⟩ := ite_some_ e
    subst e
    rw [r.str_]
    exact .inl ⟨_, _, rfl, ⟨c, rfl⟩, q⟩
  | tup xs =>
    cases e
    obtain ⟨a, vs, rfl, _, _, ha, r1⟩ := r.tup_
    exact .inl ⟨_, _, rfl, .inr ⟨vs, SqT.of ha, r1.length⟩, q⟩
  | lst xs =>
    cases e
    obtain ⟨a, vs, rfl, ha, r1⟩ := asLst_rel S r rfl
    exact .inl ⟨_, _, rfl, .inl ⟨vs, SqL.of ha, r1.length⟩, q⟩
  | ref m =>
    simp only [lenW] at e
    split at e
    · rename_i xs q1
      cases e
      rcases unlock_map q1 with q1 | ⟨d, q1, rfl⟩
      · obtain ⟨a, vs, rfl, ha, r1⟩ := asLst_rel S r (show asLst h (.ref m) = some xs by simp only [asLst, q1])
        exact .inl ⟨_, _, rfl, .inl ⟨vs, SqL.of ha, r1.length⟩, q⟩
      · obtain ⟨b, c, h1, _, h3, h4⟩ := S.at_ q1
        exact h4.elim
    · rename_i kvs q1
      cases e
      rcases unlock_map q1 with q1 | ⟨d, q1, rfl⟩
      · simp only [RW] at r
        obtain ⟨a, rfl, ha⟩ := r
        obtain ⟨b, c, h1, _, h3, ws, rfl, h5⟩ := S.at_ q1
        rw [ha] at h1; cases h1
        refine .inr ⟨_, ws, rfl, h3, ?_⟩
        have := congrArg List.length h5.1
        simp at this
        rw [this]; exact q
      · obtain ⟨b, c, h1, _, h3, h4⟩ := S.at_ q1
        exact h4.elim
    · cases e
  | _ => cases e

/-! ### o[i] -/
def rIxD : R2 := fun x y H Q => ∃ a v, x = .ref a ∧ DGet H a y (some v) ∧ Q v H
theorem ix_dct {X : Cx} (hu : X.A.units + 1 < cLine) : IxR X rIxD := by
  intro value slice pins s σ H x y v u Q I rx ry hq hs
  obtain ⟨a, z, rfl, g, q⟩ := hq
  obtain rfl : v = Value.ref a := rx
  exact tail_any (dict_typeIs I g) PySem.F.slot_dict_getitem.lookup (d_getItem hu I g ry fun w' s' I' r => ⟨z, H, I', r, q⟩) hs
def rIxAll (K : PySem.W.Frag) : R2 := fun x y H Q => rIx K x y H Q ∨ rIxD x y H Q
theorem ix_all {X : Cx} (hu : X.A.units + 1 < cLine) : IxR X (rIxAll X.K) := IxR.or ix_seq (ix_dct hu)
theorem atI_rel {xs : List W} {vs : List V} {k : Int} {w : W} (r : RWs B F p H xs vs) (e : atI xs k = some w) : ∃ z, atI vs k = some z ∧ RW B F p H w z := by
  unfold atI at e ⊢
  obtain ⟨j, e1, e2⟩ := bind_some_ e
  obtain ⟨z, e3, r3⟩ := r.get e2
  exact ⟨z, by rw [← r.length, e1]; exact e3, r3⟩
theorem snd_ix : Snd2 B (rIxAll B.K) ixW := by
  intro F p h H x y w v u Q S rx ry e q
  unfold ixW at e
  split at e
  · obtain ⟨o, e1, e2⟩ := bind_some_ e
    obtain ⟨a, z, rfl, g, ro⟩ := dget_rel S rx ry e1
    have e2 : o = some w := e2
    subst e2
    cases z with
    | none => exact ro.elim
    | some z => exact .inr ⟨a, z, rfl, g, q p H _ (After.refl p H) S ro⟩
  · split at e
    · rename_i k e1
      have ek := asInt_some e1
      subst ek
      have hk := ry.int_
      subst hk
      split at e
      · rename_i z _
        obtain ⟨c, e⟩ : z.length ≤ sizeLine ∧ (atI z.cps.toList k).map (fun c => W.str ⟨#[c]⟩) = some w := by
          split at e
          · rename_i hc; exact ⟨hc, e⟩
          · cases e
        obtain ⟨d, e2, rfl⟩ := Option.map_eq_some_iff.mp e
        exact .inl (.inr (.inr ⟨z, k, d, rx.str_, rfl, c, e2, q p H _ (After.refl p H) S (by simp [RW])⟩))
      · obtain ⟨xs, e2, e3⟩ := bind_some_ e
        obtain ⟨a, vs, rfl, ha, ra⟩ := asSeq_rel S rx e2
        obtain ⟨z, e4, r4⟩ := atI_rel ra e3
        have fin := q p H z (After.refl p H) S r4
        rcases ha with ha | ha
        · exact .inl (.inl ⟨a, vs, k, z, rfl, rfl, SqL.of ha, e4, fin⟩)
        · exact .inl (.inr (.inl ⟨a, vs, k, z, rfl, rfl, SqT.of ha, e4, fin⟩))
    · cases e

/-! ### slices -/
theorem cutV_eq (vs : List V) (lo hi : Option Int) : cutV vs lo hi = cutL vs lo hi := rfl
theorem RWs.cut {xs : List W} {vs : List V} (r : RWs B F p H xs vs) (lo hi : Option Int) : RWs B F p H (cutL xs lo hi) (cutV vs lo hi) := by
  unfold cutL cutV
  rw [r.length]
  exact (r.drop _).take _
theorem cut_whole {α : Type} {xs : List α} {lo hi : Option Int} (h : HT.sIx xs.length 0 lo = 0 ∧ HT.sIx xs.length xs.length hi = xs.length) : cutL xs lo hi = xs := by
  unfold cutL
  rw [h.1, h.2]
  simp
def rSlAll (K : PySem.W.Frag) : V → Option Int → Option Int → Hp → VK → Prop := fun x lo hi H Q => (rSlL K x lo hi H Q ∨ rSlA K x lo hi H Q) ∨ rSlS x lo hi H Q
theorem sl_all {X : Cx} : SlR X (rSlAll X.K) := SlR.or (SlR.or sl_list sl_tupA) sl_str
theorem slc_rel (S : Sim B F p h H) {x w : W} {lo hi : Option Int} {v : V} {Q : VK} (rx : RW B F p H x v) (e : slcW h x lo hi = some w)
    (q : ∀ p' H' z, After p H p' H' → Sim B F p' h H' → RW B F p' H' w z → Q z H') : rSlAll B.K v lo hi H Q := by
  unfold slcW at e
  split at e
  · rename_i xs
    cases e
    obtain ⟨a, vs, rfl, a1, a2, ha, r1⟩ := rx.tup_
    refine .inl (.inr ⟨a, vs, rfl, SqT.of ha, fun z => ?_, fun _ c hc => ?_⟩)
    · refine q p H _ (After.refl p H) S (old_tup a1 a2 ha ?_)
      rw [cut_whole (by rw [r1.length]; exact z)]
      exact r1
    · exact q p _ _ (After.laid hc) (S.laid hc) (new_tup S (r1.cut lo hi) hc)
  · rename_i z
    obtain ⟨c, e⟩ := ite_some_ e
    subst e
    refine .inr ⟨z, rx.str_, c, q p H _ (After.refl p H) S ?_⟩
    simp only [RW]
    have hl : z.cps.toList.length = z.length := by simp [Str.length]
    unfold cutS cutL
    rw [hl]
  · rename_i xs
    cases e
    simp only [RW] at rx
    obtain ⟨a, vs, rfl, sa, r1⟩ := rx
    refine .inl (.inl ⟨a, vs, rfl, sa.elim (fun ⟨_, _, o, ha⟩ => .inl (.inr ⟨o, ha⟩)) (fun z => .inr z), fun c hc => ?_⟩)
    exact q p _ _ (After.laid hc) (S.laid hc) (new_lst S (r1.cut lo hi) hc)
  · obtain ⟨xs, e1, rfl⟩ := Option.map_eq_some_iff.mp e
    obtain ⟨a, vs, rfl, ha, r1⟩ := asLst_rel S rx e1
    refine .inl (.inl ⟨a, vs, rfl, SqL.of ha, fun c hc => ?_⟩)
    exact q p _ _ (After.laid hc) (S.laid hc) (new_lst S (r1.cut lo hi) hc)

/-! ### stores -/
def rPutAll : V → V → V → Hp → (Hp → Prop) → Prop := fun o i v H Q => rSetL o i v H Q ∨ ∃ a H', o = .ref a ∧ DPut H a i v H' ∧ Q H'
theorem set_all {X : Cx} (hu : X.A.units + 1 < cLine) : PSet X rPutAll := by
  intro pins s σ H o i v ov iv u Q I ro ri rv hq
  rcases hq with hq | ⟨a, H', rfl, g, q⟩
  · exact set_list pins s σ H o i v ov iv u Q I ro ri rv hq
  · obtain rfl : ov = Value.ref a := ro
    exact d_setItem hu I g ri rv fun s' I' => ⟨H', I', q⟩
section
variable {κ : Type} [DecidableEq κ]
theorem any_keys {α β : Type} (k : κ) : ∀ {kvs : List (κ × α)} {ws : List (κ × β)}, ws.map (·.1) = kvs.map (·.1) → (ws.any fun kv => decide (kv.1 = k)) = kvs.any fun kv => decide (kv.1 = k)
  | [], ws, e => by
    have : ws = [] := by simpa using e
    subst this; rfl
  | x :: xs, [], e => by simp at e
  | x :: xs, y :: ys, e => by
    simp only [List.map_cons, List.cons.injEq] at e
    rw [List.any_cons, List.any_cons, e.1, any_keys k e.2]
theorem repl_rel (k : κ) {w : W} {v : V} (r : RW B F p H w v) : ∀ {kvs : List (κ × W)} {ws : List (κ × V)}, RK B F p H kvs ws →
    RK B F p H (kvs.map fun kv => if kv.1 = k then (kv.1, w) else kv) (ws.map fun kv => if kv.1 = k then (kv.1, v) else kv)
  | [], ws, h => by
    have : ws = [] := by simpa using h.1
    subst this
    exact ⟨rfl, RWs.nil⟩
  | (j, x) :: xs, ws, h => by
    obtain ⟨h1, h2⟩ := h
    cases ws with
    | nil => simp at h1
    | cons q ws =>
      obtain ⟨j', y⟩ := q
      simp only [List.map_cons, List.cons.injEq] at h1
      obtain ⟨rfl, h1⟩ := h1
      simp only [List.map_cons, RWs] at h2
      obtain ⟨v', us, e, r3, r4⟩ := h2
      simp only [List.cons.injEq] at e
      obtain ⟨rfl, rfl⟩ := e
      obtain ⟨i1, i2⟩ := repl_rel k r (kvs := xs) (ws := ws) ⟨h1, r4⟩
      by_cases hj : j' = k
      · simp only [List.map_cons, hj, if_true]
        exact ⟨by rw [List.map_cons, List.map_cons, i1], by rw [List.map_cons, List.map_cons]; exact RWs.cons r i2⟩
      · simp only [List.map_cons, hj, if_false]
        exact ⟨by rw [List.map_cons, List.map_cons, i1], by rw [List.map_cons, List.map_cons]; exact RWs.cons r3 i2⟩
theorem kput_rel (k : κ) {w : W} {v : V} (r : RW B F p H w v) {kvs : List (κ × W)} {ws : List (κ × V)} (h : RK B F p H kvs ws) : RK B F p H (kput kvs k w) (putK ws k v) := by
  unfold kput putK
  rw [any_keys k h.1]
  split
  · exact repl_rel k r h
  · exact ⟨by simp [h.1], by simpa using h.2.append (RWs.cons r RWs.nil)⟩
theorem kdrop_rel (k : κ) : ∀ {kvs : List (κ × W)} {ws : List (κ × V)}, RK B F p H kvs ws → RK B F p H (kdrop kvs k) (dropK ws k)
  | [], ws, h => by
    have : ws = [] := by simpa using h.1
    subst this
    exact ⟨rfl, RWs.nil⟩
  | (j, x) :: xs, ws, h => by
    obtain ⟨h1, h2⟩ := h
    cases ws with
    | nil => simp at h1
    | cons q ws =>
      obtain ⟨j', y⟩ := q
      simp only [List.map_cons, List.cons.injEq] at h1
      obtain ⟨rfl, h1⟩ := h1
      simp only [List.map_cons, RWs] at h2
      obtain ⟨v', us, e, r3, r4⟩ := h2
      simp only [List.cons.injEq] at e
      obtain ⟨rfl, rfl⟩ := e
      obtain ⟨i1, i2⟩ := kdrop_rel k (kvs := xs) (ws := ws) ⟨h1, r4⟩
      unfold kdrop dropK at i1 i2 ⊢
      by_cases hj : j' = k
      · exact ⟨by simpa [hj] using i1, by simpa [hj] using i2⟩
      · refine ⟨by simpa [hj] using i1, ?_⟩
        simp only [List.filter_cons, hj, ne_eq, not_false_eq_true, decide_true, if_true, List.map_cons]
        exact RWs.cons r3 i2
theorem RK.length {kvs : List (κ × W)} {ws : List (κ × V)} (h : RK B F p H kvs ws) : kvs.length = ws.length := by
  have := congrArg List.length h.1
  simpa using this.symm
end
theorem putW_rel (S : Sim B F p h H) {o i x : W} {h1 : VH} {vo vi vx : V} {Q : Hp → Prop} (ro : RW B F p H o vo) (ri : RW B F p H i vi) (rx : RW B F p H x vx) (e : putW h o i x = some h1)
    (q : ∀ p' H', After p H p' H' → Sim B F p' h1 H' → Q H') : rPutAll vo vi vx H Q := by
  cases o with
  | ref n =>
    simp only [RW] at ro
    obtain ⟨a, rfl, ha⟩ := ro
    simp only [putW] at e
    split at e
    · rename_i xs q1
      obtain ⟨k, e1, e2⟩ := bind_some_ e
      obtain ⟨j, e3, rfl⟩ := Option.map_eq_some_iff.mp e2
      have ek := asInt_some e1
      subst ek
      have hk := ri.int_
      subst hk
      obtain ⟨b, c, h1, h2, h3, vs, rfl, h5⟩ := S.at_ q1
      rw [ha] at h1; cases h1
      exact .inl ⟨_, vs, k, j, rfl, rfl, h3, by rw [← h5.length]; exact e3, q p _ (After.write h3 h2) (S.write h3 ha ⟨_, rfl, (h5.set rx j).after (After.write h3 h2)⟩)⟩
    · rename_i kvs q1
      obtain ⟨k, e1, e2⟩ := bind_some_ e
      obtain ⟨hl, rfl⟩ := ite_some_ e2
      obtain ⟨b, c, h1, h2, h3, ws, rfl, h5⟩ := S.at_ q1
      rw [ha] at h1; cases h1
      refine .inr ⟨_, _, rfl, .inl ⟨ws, k, h3, keyOf_rel ri e1, by rw [← h5.length]; exact hl, rfl⟩, q p _ (After.write h3 h2) (S.write h3 ha ⟨_, rfl, (kput_rel k rx h5).after (After.write h3 h2)⟩)⟩
    · rename_i kvs q1
      obtain ⟨k, e1, e2⟩ := bind_some_ e
      obtain ⟨hl, rfl⟩ := ite_some_ e2
      obtain ⟨b, c, h1, h2, h3, ws, rfl, h5⟩ := S.at_ q1
      rw [ha] at h1; cases h1
      obtain ⟨t, rfl, ht⟩ := tkeyOf_rel ri e1
      refine .inr ⟨_, _, rfl, .inr ⟨ws, k, t, h3, rfl, ht, by rw [← h5.length]; exact hl, rfl⟩, q p _ (After.write h3 h2) (S.write h3 ha ⟨_, rfl, (kput_rel k rx h5).after (After.write h3 h2)⟩)⟩
    · cases e
  | _ => cases e
theorem delW_rel (S : Sim B F p h H) {o i : W} {h1 : VH} {vo vi : V} (ro : RW B F p H o vo) (ri : RW B F p H i vi) (e : delW h o i = some h1) :
    ∃ a kvs k, vo = .ref a ∧ H a = some (.dK kvs) ∧ vi = kV k ∧ (valV kvs k).isSome = true ∧ After p H p (upd H a (.dK (dropK kvs k))) ∧ Sim B F p h1 (upd H a (.dK (dropK kvs k))) := by
  cases o with
  | ref n =>
    simp only [RW] at ro
    obtain ⟨a, rfl, ha⟩ := ro
    simp only [delW] at e
    split at e
    · rename_i kvs q1
      obtain ⟨k, e1, e2⟩ := bind_some_ e
      obtain ⟨hs, rfl⟩ := ite_some_ e2
      obtain ⟨b, c, h1, h2, h3, ws, rfl, h5⟩ := S.at_ q1
      rw [ha] at h1; cases h1
      have := kget_rel k h5
      refine ⟨_, ws, k, rfl, h3, keyOf_rel ri e1, ?_, After.write h3 h2, S.write h3 ha ⟨_, rfl, (kdrop_rel k h5).after (After.write h3 h2)⟩⟩
      cases q2 : kget kvs k with
      | none => rw [q2] at hs; cases hs
      | some w =>
        cases q3 : valV ws k with
        | none => rw [q2, q3] at this; exact this.elim
        | some z => rfl
    · cases e
  | _ => cases e
end
end Vm

/-! VmBlt: the built-in functions and methods. -/
namespace Vm
open PySem PySem.Spec PyProof.Rows L2

section
variable {B : Base} {F p : List Addr} {H : Hp} {h : VH}

/-- a built-in function on values, the reading r asked of it -/
def SndC (B : Base) (r : List V → Hp → VK → Prop) (g : VH → List W → Option W) : Prop :=
  ∀ (F p : List Addr) (h : VH) (H : Hp) (xs : List W) (w : W) (vs : List V) (Q : VK), Sim B F p h H → RWs B F p H xs vs → g h xs = some w →
    (∀ p' H' z, After p H p' H' → Sim B F p' h H' → RW B F p' H' w z → Q z H') → r vs H Q
theorem RWs.one {x : W} {vs : List V} (r : RWs B F p H [x] vs) : ∃ v, vs = [v] ∧ RW B F p H x v := by
  simp only [RWs] at r
  obtain ⟨v, us, rfl, r1, rfl⟩ := r
  exact ⟨v, rfl, r1⟩
theorem RWs.two {x y : W} {vs : List V} (r : RWs B F p H [x, y] vs) : ∃ v u, vs = [v, u] ∧ RW B F p H x v ∧ RW B F p H y u := by
  simp only [RWs] at r
  obtain ⟨v, us, rfl, r1, u, us', rfl, r2, rfl⟩ := r
  exact ⟨v, u, rfl, r1, r2⟩
theorem RWs.nil_ {vs : List V} (r : RWs B F p H [] vs) : vs = [] := by simpa only [RWs] using r

theorem snd_len : SndC B (rLenAll B.K) lenF := by
  intro F p h H xs w vs Q S r e q
  unfold lenF at e
  split at e
  · rename_i x
    obtain ⟨n, e1, rfl⟩ := Option.map_eq_some_iff.mp e
    obtain ⟨v, rfl, r1⟩ := r.one
    exact lenW_rel S r1 e1 (q p H _ (After.refl p H) S (by simp [RW]))
  · cases e
def rAbs : List V → Hp → VK → Prop := fun xs H Q => ∃ i, xs = [.int i] ∧ Q (.int (if i < 0 then -i else i)) H
theorem snd_abs : SndC B rAbs absF := by
  intro F p h H xs w vs Q S r e q
  unfold absF at e
  split at e
  · cases e
    obtain ⟨v, rfl, r1⟩ := r.one
    rw [r1.int_]
    exact ⟨_, rfl, q p H _ (After.refl p H) S (by simp [RW])⟩
  · cases e
def rInt1 : List V → Hp → VK → Prop := fun xs H Q => (∃ i, xs = [.int i] ∧ Q (.int i) H) ∨ ∃ k, xs = [.bl k] ∧ Q (.int (if k then 1 else 0)) H
theorem snd_int1 : SndC B rInt1 intF := by
  intro F p h H xs w vs Q S r e q
  unfold intF at e
  split at e
  · cases e
    obtain ⟨v, rfl, r1⟩ := r.one
    rw [r1.int_]
    exact .inl ⟨_, rfl, q p H _ (After.refl p H) S (by simp [RW])⟩
  · cases e
    obtain ⟨v, rfl, r1⟩ := r.one
    rw [r1.bl_]
    exact .inr ⟨_, rfl, q p H _ (After.refl p H) S (by simp [RW])⟩
  · cases e
theorem snd_sum : SndC B (rSum B.K) sumF := by
  intro F p h H xs w vs Q S r e q
  unfold sumF at e
  split at e
  · rename_i x
    obtain ⟨ns, e1, rfl⟩ := Option.map_eq_some_iff.mp e
    obtain ⟨ys, e2, e3⟩ := bind_some_ e1
    obtain ⟨v, rfl, r1⟩ := r.one
    obtain ⟨a, us, rfl, ha, ra⟩ := asLst_rel S r1 e2
    exact ⟨a, ns, rfl, by rw [← ra.ints e3]; exact SqL.of ha, q p H _ (After.refl p H) S (by simp [RW])⟩
  · cases e
theorem snd_all : SndC B (rAll B.K) allF := by
  intro F p h H xs w vs Q S r e q
  unfold allF at e
  split at e
  · rename_i x
    obtain ⟨ns, e1, rfl⟩ := Option.map_eq_some_iff.mp e
    obtain ⟨ys, e2, e3⟩ := bind_some_ e1
    obtain ⟨v, rfl, r1⟩ := r.one
    obtain ⟨a, us, rfl, ha, ra⟩ := asLst_rel S r1 e2
    exact ⟨a, ns, rfl, by rw [← ra.bls e3]; exact SqL.of ha, q p H _ (After.refl p H) S (by simp [RW])⟩
  · cases e
theorem snd_any : SndC B (rAny B.K) anyF := by
  intro F p h H xs w vs Q S r e q
  unfold anyF at e
  split at e
  · rename_i x
    obtain ⟨ns, e1, rfl⟩ := Option.map_eq_some_iff.mp e
    obtain ⟨ys, e2, e3⟩ := bind_some_ e1
    obtain ⟨v, rfl, r1⟩ := r.one
    obtain ⟨a, us, rfl, ha, ra⟩ := asLst_rel S r1 e2
    exact ⟨a, ns, rfl, by rw [← ra.bls e3]; exact SqL.of ha, q p H _ (After.refl p H) S (by simp [RW])⟩
  · cases e
def rTupOf (K : PySem.W.Frag) : List V → Hp → VK → Prop := fun xs H Q => ∃ p ys, xs = [.ref p] ∧ ((SqL K H p ys ∧ ∀ l, H l = none → Q (.ref l) (upd H l (.tup ys))) ∨ (SqT K H p ys ∧ Q (.ref p) H))
theorem snd_tup : SndC B (rTupOf B.K) tupF := by
  intro F p h H xs w vs Q S r e q
  unfold tupF at e
  split at e
  · rename_i x
    obtain ⟨ys, e1, rfl⟩ := Option.map_eq_some_iff.mp e
    obtain ⟨v, rfl, r1⟩ := r.one
    unfold asSeq at e1
    split at e1
    · rename_i zs e2
      cases e1
      obtain ⟨a, us, rfl, a1, a2, ha, ra⟩ := asTup_rel r1 e2
      exact ⟨a, us, rfl, .inr ⟨SqT.of ha, q p H _ (After.refl p H) S (old_tup a1 a2 ha ra)⟩⟩
    · obtain ⟨a, us, rfl, ha, ra⟩ := asLst_rel S r1 e1
      exact ⟨a, us, rfl, .inl ⟨SqL.of ha, fun c hc => q p _ _ (After.laid hc) (S.laid hc) (new_tup S ra hc)⟩⟩
  · cases e
/-! ### repr -/
mutual
theorem noDict_data : ∀ {x : W} {d : PyData}, W.data x = some d → d.hasDict = false
  | .non, d, e => by simp only [W.data, Option.some.injEq] at e; subst e; rfl
  | .bl _, d, e => by simp only [W.data, Option.some.injEq] at e; subst e; rfl
  | .int _, d, e => by simp only [W.data, Option.some.injEq] at e; subst e; rfl
  | .str _, d, e => by simp only [W.data, Option.some.injEq] at e; subst e; rfl
  | .tup xs, d, e => by
    simp only [W.data, Option.map_eq_some_iff] at e
    obtain ⟨ds, e1, rfl⟩ := e
    simpa only [PyData.hasDict] using noDict_datas e1
  | .lst xs, d, e => by
    simp only [W.data, Option.map_eq_some_iff] at e
    obtain ⟨ds, e1, rfl⟩ := e
    simpa only [PyData.hasDict] using noDict_datas e1
  | .dct _ _, d, e => by simp [W.data] at e
  | .ref _, d, e => by simp [W.data] at e
  | .glb _, d, e => by simp [W.data] at e
  | .ty _, d, e => by simp [W.data] at e
  | .exc _ _ _, d, e => by simp [W.data] at e
  | .scr _, d, e => by simp [W.data] at e
theorem noDict_datas : ∀ {xs : List W} {ds : List PyData}, W.datas xs = some ds → PyData.hasDictAll ds = false
  | [], ds, e => by simp only [W.datas, Option.some.injEq] at e; subst e; rfl
  | x :: xs, ds, e => by
    simp only [W.datas] at e
    split at e
    · rename_i d ds' e1 e2
      cases e
      simp only [PyData.hasDictAll, noDict_data e1, noDict_datas e2, Bool.or_false]
    · cases e
end
mutual
theorem noDict_dataH : ∀ {x : W} {d : PyData}, W.dataH h x = some d → d.hasDict = false
  | .non, d, e => by simp only [W.dataH, Option.some.injEq] at e; subst e; rfl
  | .bl _, d, e => by simp only [W.dataH, Option.some.injEq] at e; subst e; rfl
  | .int _, d, e => by simp only [W.dataH, Option.some.injEq] at e; subst e; rfl
  | .str _, d, e => by simp only [W.dataH, Option.some.injEq] at e; subst e; rfl
  | .tup xs, d, e => by
    simp only [W.dataH, Option.map_eq_some_iff] at e
    obtain ⟨ds, e1, rfl⟩ := e
    simpa only [PyData.hasDict] using noDict_datasH e1
  | .lst xs, d, e => by
    simp only [W.dataH, Option.map_eq_some_iff] at e
    obtain ⟨ds, e1, rfl⟩ := e
    simpa only [PyData.hasDict] using noDict_datasH e1
  | .ref n, d, e => by
    simp only [W.dataH] at e
    split at e
    · obtain ⟨ds, e1, rfl⟩ := Option.map_eq_some_iff.mp e
      simpa only [PyData.hasDict] using noDict_datas e1
    · cases e
  | .dct _ _, d, e => by simp [W.dataH] at e
  | .glb _, d, e => by simp [W.dataH] at e
  | .ty _, d, e => by simp [W.dataH] at e
  | .exc _ _ _, d, e => by simp [W.dataH] at e
  | .scr _, d, e => by simp [W.dataH] at e
theorem noDict_datasH : ∀ {xs : List W} {ds : List PyData}, W.datasH h xs = some ds → PyData.hasDictAll ds = false
  | [], ds, e => by simp only [W.datasH, Option.some.injEq] at e; subst e; rfl
  | x :: xs, ds, e => by
    simp only [W.datasH] at e
    split at e
    · rename_i d ds' e1 e2
      cases e
      simp only [PyData.hasDictAll, noDict_dataH e1, noDict_datasH e2, Bool.or_false]
    · cases e
end
def rReprD (K : PySem.W.Frag) : List V → Hp → VK → Prop := fun xs H Q => ∃ x d, xs = [x] ∧ Dp K H x d ∧ d.showable = true ∧ d.hasDict = false ∧ d.depth ≤ 60 ∧ d.shown.length ≤ sizeLine ∧ Q (.str d.shown) H
theorem call_reprD {X : Cx} (hg : X.A.guards = some []) (hu : X.A.units + 64 < cLine) : CallR X (.builtin "repr") (rReprD X.K) := by
  intro pins s σ H xs us Q I r hq
  obtain ⟨x, d, rfl, dp, hs, hn, hd, hz, q⟩ := hq
  obtain ⟨u, rfl, ru⟩ := vals1 r
  have ref : ∀ a, u = Value.ref a → (∃ as, Reads s.heap u d as) → wpAny (model X.prog X.w) X.A (call (.builtin "repr") [u]) (EP X pins σ Q) X.xe s := by
    rintro a rfl ⟨as, hr⟩
    exact repr_of_reads' hr hs (fun z => by rw [hn] at z; cases z) hg (by omega) (fun b o z => z) (fun h' u tk k => ⟨.str d.shown, H, I.kept (h' := h') (t' := tk) k, ⟨u, rfl⟩, q⟩) hz
  cases dp with
  | non => cases ru; exact P.repr_of_none ⟨.str _, H, I.tok _, ⟨_, rfl⟩, q⟩
  | bl b => cases ru; exact P.repr_of_bool ⟨.str _, H, I.tok _, ⟨_, rfl⟩, q⟩
  | int i =>
    obtain ⟨t, rfl⟩ := ru
    exact P.repr_of_int (by simpa [PyData.showable] using hs) ⟨.str _, H, I.tok _, ⟨_, rfl⟩, q⟩
  | str z =>
    obtain ⟨t, rfl⟩ := ru
    exact P.repr_of_str ⟨.str _, H, I.tok _, ⟨_, rfl⟩, q⟩ hz
  | lst a b =>
    obtain rfl := (show u = Value.ref _ from ru)
    exact ref _ rfl (Dp.reads I _ _ _ (.lst a b) rfl)
  | tup a b =>
    obtain rfl := (show u = Value.ref _ from ru)
    exact ref _ rfl (Dp.reads I _ _ _ (.tup a b) rfl)
theorem snd_repr : SndC B (rReprD B.K) reprF := by
  intro F p h H xs w vs Q S r e q
  unfold reprF at e
  split at e
  · rename_i x
    obtain ⟨d, e1, e2⟩ := bind_some_ e
    obtain ⟨c, rfl⟩ := ite_some_ e2
    simp only [Bool.and_eq_true, decide_eq_true_eq] at c
    obtain ⟨v, rfl, r1⟩ := r.one
    exact ⟨v, d, rfl, dataH_dp S r1 e1, c.1.1, noDict_dataH e1, c.1.2, c.2, q p H _ (After.refl p H) S (by simp [RW])⟩
  · cases e
end
end Vm

/-! VmExp: the expressions, one lemma a construct. -/
namespace Vm
open PySem PySem.Spec PyProof.Rows L2

/-- where a piece of a def stands: its names, scope, what is wished of exceptions, the room for calls -/
structure Good (B : Base) (sc : Scope) (N st : List Str) (E : XK) (k : Nat) (X : Cx) : Prop where
  hP : X.prog = B.P
  hw : X.w = B.w
  hK : X.K = B.K
  hm : X.mg = B.mg
  hb : X.base = B.base
  hN : X.N = N
  nd : N.Nodup
  hs : X.env.scope = sc
  calm : X.calm = true
  room : Room k X.A
  gd : X.A.guards = some []
  po : PassesOwn (model X.prog X.w) X.A X.env X.xe
  ps : Passes (CX B.P B.w) X E
  fn : ∀ x ∈ st, X.fn x = true ∨ sc.names.lookup x = some .local

def isVis (sc : Scope) (x : Str) : Bool := match sc.names.lookup x with
  | some .local => true
  | some .cell => true
  | some .free => true
  | _ => false
def isLoc (sc : Scope) (x : Str) : Bool := match sc.names.lookup x with
  | some .local => true
  | some .cell => true
  | _ => false
def isGlo (sc : Scope) (x : Str) : Bool := match sc.names.lookup x with
  | some .globalImplicit => true
  | _ => false
theorem isVis_ok {sc : Scope} {x : Str} (h : isVis sc x = true) : Vis sc x := by
  unfold isVis at h
  split at h <;> first | exact .inl (by assumption) | exact .inr (.inl (by assumption)) | exact .inr (.inr (by assumption)) | cases h
theorem isLoc_ok {sc : Scope} {x : Str} (h : isLoc sc x = true) : Loc sc x := by
  unfold isLoc at h
  split at h <;> first | exact .inl (by assumption) | exact .inr (by assumption) | cases h
theorem isGlo_ok {sc : Scope} {x : Str} (h : isGlo sc x = true) : sc.names.lookup x = some .globalImplicit := by
  unfold isGlo at h
  split at h <;> first | assumption | cases h
/-- the names with a meaning of their own -/
def oddName (x : Str) : Bool := x == "__debug__" || x == "__classdict__" || x == "__name__"

section
variable {B : Base} {F : List Addr} {E : XK} {k : Nat} {X : Cx} {sc : Scope} {N st : List Str}

theorem Good.units (G : Good B sc N st E k X) : X.A.units + 65 < cLine := by have := G.room.un; omega
theorem Good.glob (G : Good B sc N st E k X) {x : Str} (h : isGlo sc x = true) : Gl X x := by
  show X.env.scope.names.lookup x = _
  rw [G.hs]; exact isGlo_ok h
theorem Good.vis (G : Good B sc N st E k X) {x : Str} (h : isVis sc x = true) : Vis X.env.scope x := by rw [G.hs]; exact isVis_ok h
theorem Good.loc (G : Good B sc N st E k X) {x : Str} (h : isLoc sc x = true) : Loc X.env.scope x := by rw [G.hs]; exact isLoc_ok h
theorem Good.fnl (G : Good B sc N st E k X) {x : Str} (h : x ∈ st) : X.fn x = true ∨ X.env.scope.names.lookup x = some .local := by
  rw [G.hs]; exact G.fn x h

/-- weakenings -/
abbrev VE (B : Base) (F : List Addr) (E : XK) (m : VS → VH → R W) : TE := tE B F E m

/-! ### constants, names -/
theorem e_const {e : Expr} {v : V} {w : W} (h : PE X e (tC v)) (r : ∀ p H, RW B F p H w v) : PE X e (tE B F E fun _ h => .ok w h) :=
  PE_imp h fun σ H Q ⟨p, s, h1, S, rs, o⟩ => Outc.done o S (r p H)
theorem e_non {j pos} : PE X (.Constant .none j pos) (tE B F E fun _ h => .ok .non h) := e_const pe_non fun _ _ => by simp [RW]
theorem e_bl {b j pos} : PE X (.Constant (.bool b) j pos) (tE B F E fun _ h => .ok (.bl b) h) := e_const pe_bl fun _ _ => by simp [RW]
theorem e_int {i j pos} : PE X (.Constant (.int i) j pos) (tE B F E fun _ h => .ok (.int i) h) := e_const pe_int fun _ _ => by simp [RW]
theorem e_str {i j pos} : PE X (.Constant (.str i) j pos) (tE B F E fun _ h => .ok (.str i) h) := e_const pe_str fun _ _ => by simp [RW]
theorem e_var (G : Good B sc N st E k X) {i : Nat} {x : Str} {pos : Pos} (hi : N[i]? = some x) (hv : isVis sc x = true) (ho : oddName x = false) : PE X (.Name x pos) (tE B F E fun s h => .of ((s[i]?).bind id) h) := by
  unfold oddName at ho
  simp only [Bool.or_eq_false_iff] at ho
  refine PE_imp (pe_var (i := i) (by rw [G.hN]; exact hi) (G.vis hv) ho.1.1 ho.1.2) fun σ H Q ⟨p, s, h1, S, rs, o⟩ => ?_
  obtain ⟨w, e, o⟩ := Outc.of_ o
  obtain ⟨ow, e1, e2⟩ := bind_some_ e
  have e2 : ow = some w := e2
  subst e2
  obtain ⟨v, e3, r⟩ := rs.2 i w e1
  exact ⟨v, e3, Outc.done o S r⟩
/-- a module's name as a value -/
def GvOk (B : Base) (gv : Str → Option W) : Prop := ∀ x w, gv x = some w → ∃ u v, B.mg x = some u ∧ RelV v u ∧ ∀ F p H, RW B F p H w v
theorem e_glb (G : Good B sc N st E k X) {gv : Str → Option W} (hg : GvOk B gv) {x : Str} {pos : Pos} (hx : isGlo sc x = true) (ho : oddName x = false) : PE X (.Name x pos) (tE B F E fun _ h => .of (gv x) h) := by
  unfold oddName at ho
  simp only [Bool.or_eq_false_iff] at ho
  cases e : gv x with
  | none => exact ⟨fun pins s σ H Q I ⟨p, s1, h1, S, rs, o⟩ => by
      have o : False := o
      exact o.elim⟩
  | some w =>
    obtain ⟨u, v, e1, r1, r2⟩ := hg x w e
    refine PE_imp (pe_glob (G.glob hx) (by rw [G.hm]; exact e1) r1 ho.1.1) fun σ H Q ⟨p, s, h1, S, rs, o⟩ => ?_
    exact Outc.done o S (r2 F p H)

/-! ### two values -/
theorem two {a b : Expr} {ma mb : VS → VH → R W} {f : W → W → VH → R W} {σ : L2.St} {H : Hp} {Q : VK} {T : V → V → Hp → Prop}
    (h : tE B F E (fun s h => (ma s h).bind fun x h1 => (mb s h1).bind fun y h2 => f x y h2) σ H Q)
    (k : ∀ p h H x y v u, Sim B F p h H → RW B F p H x v → RW B F p H y u → Outc B F (RWr B F) E p H (f x y h) Q → T v u H) :
    tE B F E ma σ H fun v H1 => tE B F E mb σ H1 fun u H2 => T v u H2 := by
  obtain ⟨p, s, h1, S, rs, o⟩ := h
  refine ⟨p, s, h1, S, rs, Outc.bind o fun x h2 p2 H2 v A2 S2 r2 o2 => ?_⟩
  refine ⟨p2, s, h2, S2, rs.after A2, Outc.bind o2 fun y h3 p3 H3 u A3 S3 r3 o3 => ?_⟩
  exact k p3 h3 H3 x y v u S3 (r2.after A3) r3 o3
theorem e_bin (G : Good B sc N st E k X) {op : Operator} {a b : Expr} {pos : Pos} {ma mb : VS → VH → R W} (ha : PE X a (tE B F E ma)) (hb : PE X b (tE B F E mb)) :
    PE X (.BinOp a op b pos) (tE B F E fun s h => (ma s h).bind fun x h1 => (mb s h1).bind fun y h2 => .of (binW op h2 x y) h2) := by
  by_cases hop : ∃ h x y w, binW op h x y = some w
  · obtain ⟨r, h1, h2⟩ := op_bin (B := B) G.hK hop
    refine PE_imp (pe_op h1 ha hb) fun σ H Q q => two (a := a) (b := b) q fun p h H x y v u S rx ry o => ?_
    obtain ⟨w, e, o⟩ := Outc.of_ o
    exact h2 F p h H x y w v u Q S rx ry e fun p' H' z A S' r => o p' H' z A S' r
  · have dead : ∀ σ H Q, tE B F E (fun s h => (ma s h).bind fun x h1 => (mb s h1).bind fun y h2 => .of (binW op h2 x y) h2) σ H Q → tE B F E ma σ H fun v H1 => tE B F E mb σ H1 fun u H2 => False := fun σ H Q q =>
      two (a := a) (b := b) q fun p h H x y v u S rx ry o => by
        obtain ⟨w, e, o⟩ := Outc.of_ o
        exact hop ⟨h, x, y, w, e⟩
    refine ⟨fun pins s σ H Q I q => ?_⟩
    refine wpAny_BinOp ?_
    exact bin ha hb I (dead σ H Q q) fun v u s2 x y H2 I2 rx ry z => z.elim
theorem e_neg {a : Expr} {pos : Pos} {ma : VS → VH → R W} (ha : PE X a (tE B F E ma)) : PE X (.UnaryOp .USub a pos) (tE B F E fun s h => (ma s h).bind fun x h1 => .of ((asInt x).map fun i => W.int (-i)) h1) := by
  refine PE_imp (pe_un un_neg ha) fun σ H Q ⟨p, s, h1, S, rs, o⟩ => ⟨p, s, h1, S, rs, Outc.bind o fun x h2 p2 H2 v A2 S2 r2 o2 => ?_⟩
  obtain ⟨w, e, o2⟩ := Outc.of_ o2
  obtain ⟨i, e1, rfl⟩ := Option.map_eq_some_iff.mp e
  exact ⟨i, asInt_rel r2 e1, Outc.done o2 S2 (by simp [RW])⟩

/-! ### comparisons -/
theorem twoB {a b : Expr} {ma mb : VS → VH → R W} {f : W → W → VH → R Bool} {σ : L2.St} {H : Hp} {Q : Bool → Hp → Prop} {T : V → V → Hp → Prop}
    (h : tT B F E (fun s h => (ma s h).bind fun x h1 => (mb s h1).bind fun y h2 => f x y h2) σ H Q)
    (k : ∀ p h H x y v u, Sim B F p h H → RW B F p H x v → RW B F p H y u → Outc B F REq E p H (f x y h) Q → T v u H) :
    tE B F E ma σ H fun v H1 => tE B F E mb σ H1 fun u H2 => T v u H2 := by
  obtain ⟨p, s, h1, S, rs, o⟩ := h
  refine ⟨p, s, h1, S, rs, Outc.bind o fun x h2 p2 H2 v A2 S2 r2 o2 => ?_⟩
  refine ⟨p2, s, h2, S2, rs.after A2, Outc.bind o2 fun y h3 p3 H3 u A3 S3 r3 o3 => ?_⟩
  exact k p3 h3 H3 x y v u S3 (r2.after A3) r3 o3
/-- a test as a value -/
theorem tE_bl {m : VS → VH → R Bool} {σ : L2.St} {H : Hp} {Q : VK} (q : tE B F E (fun s h => (m s h).bind fun b h1 => .ok (.bl b) h1) σ H Q) : tT B F E m σ H fun b H1 => Q (.bl b) H1 := by
  obtain ⟨p, s, h1, S, rs, o⟩ := q
  refine ⟨p, s, h1, S, rs, Outc.bind o fun b h2 p2 H2 v A2 S2 r2 o2 => ?_⟩
  have r2 : b = v := r2
  subst r2
  exact Outc.done (a := W.bl b) (b := V.bl b) o2 S2 (by simp [RW])
theorem nomark_of {op : CmpOp} {b : Expr} (h : ∀ l k p, b ≠ .Set l k p) : behindInMarks op b = false := by
  cases b <;> first | rfl | exact absurd rfl (h _ _ _)
theorem c_cmp (G : Good B sc N st E k X) {op : CmpOp} {a b : Expr} {pos : Pos} {ma mb : VS → VH → R W} (ha : PE X a (tE B F E ma)) (hb : PE X b (tE B F E mb)) (hn : ∀ l k p, b ≠ .Set l k p) :
    PE X (.Compare a [op] [b] pos) (tE B F E fun s h => ((ma s h).bind fun x h1 => (mb s h1).bind fun y h2 => .of (cmpW op h2 x y) h2).bind fun b h1 => .ok (.bl b) h1) ∧
    PT X (.Compare a [op] [b] pos) (tT B F E fun s h => (ma s h).bind fun x h1 => (mb s h1).bind fun y h2 => .of (cmpW op h2 x y) h2) := by
  obtain ⟨r, h1, h2⟩ := op_cmp (B := B) G.hK G.units op
  refine ⟨PE_imp (pe_cmpR h1 ha hb (nomark_of hn)) fun σ H Q q => twoB (a := a) (b := b) (tE_bl q) fun p h H x y v u S rx ry o => ?_,
    PT_imp (pt_cmpR h1 ha hb (nomark_of hn)) fun σ H Q q => twoB (a := a) (b := b) q fun p h H x y v u S rx ry o => ?_⟩
  · obtain ⟨w, e, o⟩ := Outc.of_ o
    exact h2 F p h H x y w v u _ S rx ry e (Outc.done (a := w) (b := w) o S rfl)
  · obtain ⟨w, e, o⟩ := Outc.of_ o
    exact h2 F p h H x y w v u _ S rx ry e ⟨w, rfl, Outc.done o S rfl⟩
theorem c_chn (G : Good B sc N st E k X) {o1 o2 : CmpOp} {a b c : Expr} {pos : Pos} {ma mb mc : VS → VH → R W} (ha : PE X a (tE B F E ma)) (hb : PE X b (tE B F E mb)) (hc : PE X c (tE B F E mc)) (hn : ∀ l k p, c ≠ .Set l k p) :
    PE X (.Compare a [o1, o2] [b, c] pos) (tE B F E fun s h => ((ma s h).bind fun x h1 => (mb s h1).bind fun y h2 => (R.of (cmpW o1 h2 x y) h2).bind fun k h3 =>
      if k then (mc s h3).bind fun z h4 => .of (cmpW o2 h4 y z) h4 else .ok false h3).bind fun b h1 => .ok (.bl b) h1) ∧
    PT X (.Compare a [o1, o2] [b, c] pos) (tT B F E fun s h => (ma s h).bind fun x h1 => (mb s h1).bind fun y h2 => (R.of (cmpW o1 h2 x y) h2).bind fun k h3 =>
      if k then (mc s h3).bind fun z h4 => .of (cmpW o2 h4 y z) h4 else .ok false h3) := by
  obtain ⟨r, g1, g2⟩ := op_cmp (B := B) G.hK G.units o1
  obtain ⟨r', g1', g2'⟩ := op_cmp (B := B) G.hK G.units o2
  have hm : lastMarks [o1, o2] [b, c] = false := nomark_of hn
  have core : ∀ (σ : L2.St) (H : Hp) (Q : Bool → Hp → Prop), tT B F E (fun s h => (ma s h).bind fun x h1 => (mb s h1).bind fun y h2 => (R.of (cmpW o1 h2 x y) h2).bind fun k h3 =>
      if k then (mc s h3).bind fun z h4 => .of (cmpW o2 h4 y z) h4 else .ok false h3) σ H Q → ∀ Q' : VK, (∀ b H, Q b H → Q' (.bl b) H) → tChain r r' (tE B F E ma) (tE B F E mb) (tE B F E mc) σ H Q' := by
    intro σ H Q q Q' hQ
    obtain ⟨p, s, h1, S, rs, o⟩ := q
    refine ⟨p, s, h1, S, rs, Outc.bind o fun x h2 p2 H2 v A2 S2 r2 o2 => ?_⟩
    refine ⟨p2, s, h2, S2, rs.after A2, Outc.bind o2 fun y h3 p3 H3 u A3 S3 r3 o3 => ?_⟩
    have rs3 := (rs.after A2).after A3
    cases e : cmpW o1 h3 x y with
    | none => rw [e] at o3; exact (o3 : False).elim
    | some kk =>
      rw [e] at o3
      refine g2 F p3 h3 H3 x y kk v u _ S3 (r2.after A3) r3 e ⟨kk, rfl, ?_⟩
      cases kk with
      | false =>
        rw [if_neg Bool.false_ne_true]
        exact hQ _ _ (Outc.done (a := false) (b := false) o3 S3 rfl)
      | true =>
        rw [if_pos rfl]
        refine ⟨p3, s, h3, S3, rs3, Outc.bind (r := mc s h3) o3 fun z h4 p4 H4 w A4 S4 r4 o4 => ?_⟩
        obtain ⟨b', e4, o4⟩ := Outc.of_ o4
        exact g2' F p4 h4 H4 y z b' u w _ S4 (r3.after A4) r4 e4 (hQ _ _ (Outc.done o4 S4 rfl))
  refine ⟨PE_imp (pe_chain g1 g1' ha hb hc hm) fun σ H Q q => core σ H _ (tE_bl q) Q fun b H h => h, PT_imp (pt_chain g1 g1' ha hb hc hm) fun σ H Q q => core σ H Q q _ fun b H h => ⟨b, rfl, h⟩⟩

/-! ### tests -/
def Plain (e : Expr) : Prop := ∀ (env : Env) (whole : Sem Value), isTrue e env whole = (do let v ← whole; standAt e.pos; holding [v] (truthy v))
/-- a value and its test -/
def SD (B : Base) (F : List Addr) (E : XK) (X : Cx) (e : Expr) (d : Dn) : Prop := PE X e (tE B F E d.1) ∧ PT X e (tT B F E d.2)
theorem t_truth (G : Good B sc N st E k X) {e : Expr} {m : VS → VH → R W} (he : PE X e (tE B F E m)) (hp : Plain e) : SD B F E X e (mkDn m) := by
  refine ⟨he, PT_imp (pt_truth he (hp X.env)) fun σ H Q ⟨p, s, h1, S, rs, o⟩ => ⟨p, s, h1, S, rs, Outc.bind o fun x h2 p2 H2 v A2 S2 r2 o2 => ?_⟩⟩
  obtain ⟨b, e, o2⟩ := Outc.of_ o2
  exact ⟨b, by rw [G.hK]; exact truW_rel S2 r2 e, Outc.done o2 S2 rfl⟩
theorem SD.of_bl {e : Expr} {t : VS → VH → R Bool} (h : PE X e (tE B F E fun s h => (t s h).bind fun b h1 => .ok (.bl b) h1) ∧ PT X e (tT B F E t)) : SD B F E X e (mkBl t) := h

/-- a chain of and, of or -/
def SB (B : Base) (F : List Addr) (E : XK) (X : Cx) (op : BoolOp) (pos : Pos) (es : List Expr) (d : Dn) : Prop := PE X (.BoolOp op es pos) (tE B F E d.1) ∧ PW X (.BoolOp op es pos) (tT B F E d.2)
theorem b_one {op : BoolOp} {pos : Pos} {e : Expr} {d : Dn} (h : SD B F E X e d) : SB B F E X op pos [e] d := ⟨pe_one h.1, by
  cases op
  · exact pw_and1 h.2
  · exact pw_or1 h.2⟩
theorem asBl_some {x : W} {b : Bool} (e : asBl x = some b) : x = .bl b := by
  cases x <;> simp [asBl] at e
  rw [e]
theorem b_cons {con : Bool} {pos : Pos} {e e2 : Expr} {r : List Expr} {d d2 : Dn} (h : SD B F E X e d) (hr : SB B F E X (if con then .And else .Or) pos (e2 :: r) d2) :
    SB B F E X (if con then .And else .Or) pos (e :: e2 :: r) (
      (fun s h => (d.1 s h).bind fun x h1 => match asBl x with
        | some b => if b = con then d2.1 s h1 else .ok (.bl b) h1
        | none => .bad),
      fun s h => (d.2 s h).bind fun b h1 => if b = con then d2.2 s h1 else .ok b h1) := by
  have val : ∀ (σ : L2.St) (H : Hp) (Q : VK), tE B F E (fun s h => (d.1 s h).bind fun x h1 => match asBl x with
        | some b => if b = con then d2.1 s h1 else .ok (.bl b) h1
        | none => .bad) σ H Q → tE B F E d.1 σ H fun x H1 => ∃ c, x = .bl c ∧ if c = con then tE B F E d2.1 σ H1 Q else Q (.bl c) H1 := by
    intro σ H Q ⟨p, s, h1, S, rs, o⟩
    refine ⟨p, s, h1, S, rs, Outc.bind o fun x h2 p2 H2 v A2 S2 r2 o2 => ?_⟩
    cases eb : asBl x with
    | none => rw [eb] at o2; exact (o2 : False).elim
    | some b =>
      rw [eb] at o2
      have ex := asBl_some eb
      subst ex
      refine ⟨b, r2.bl_, ?_⟩
      by_cases hb : b = con
      · rw [if_pos hb]
        simp only [if_pos hb] at o2
        exact ⟨p2, s, h2, S2, rs.after A2, o2⟩
      · rw [if_neg hb]
        simp only [if_neg hb] at o2
        exact Outc.done (a := W.bl b) (b := V.bl b) o2 S2 (by simp [RW])
  have tst : ∀ (σ : L2.St) (H : Hp) (Q : Bool → Hp → Prop), tT B F E (fun s h => (d.2 s h).bind fun b h1 => if b = con then d2.2 s h1 else .ok b h1) σ H Q →
      tT B F E d.2 σ H fun c H1 => if c = con then tT B F E d2.2 σ H1 Q else Q c H1 := by
    intro σ H Q ⟨p, s, h1, S, rs, o⟩
    refine ⟨p, s, h1, S, rs, Outc.bind o fun b h2 p2 H2 v A2 S2 r2 o2 => ?_⟩
    have r2 : b = v := r2
    subst r2
    by_cases hb : b = con
    · rw [if_pos hb]
      simp only [if_pos hb] at o2
      exact ⟨p2, s, h2, S2, rs.after A2, o2⟩
    · rw [if_neg hb]
      simp only [if_neg hb] at o2
      exact Outc.done (a := b) (b := b) o2 S2 rfl
  cases con with
  | true =>
    refine ⟨PE_imp (pe_and h.1 hr.1) fun σ H Q q => ?_, PW_imp (pw_and h.2 hr.2) fun σ H Q q => ?_⟩
    · obtain ⟨p, s, h1, S, rs, o⟩ := val σ H Q q
      refine ⟨p, s, h1, S, rs, ?_⟩
      refine Outc.bind (f := fun a h => R.ok a h) (by cases e : d.1 s h1 <;> (rw [e] at o; exact o)) fun x h2 p2 H2 v A2 S2 r2 o2 => ?_
      obtain ⟨c, e, z⟩ := Outc.done o2 S2 r2
      cases c with
      | true => exact ⟨true, e, z⟩
      | false => exact ⟨false, e, z⟩
    · obtain ⟨p, s, h1, S, rs, o⟩ := tst σ H Q q
      refine ⟨p, s, h1, S, rs, ?_⟩
      refine Outc.bind (f := fun a h => R.ok a h) (by cases e : d.2 s h1 <;> (rw [e] at o; exact o)) fun x h2 p2 H2 v A2 S2 r2 o2 => ?_
      have z := Outc.done o2 S2 r2
      cases v with
      | true => exact z
      | false => exact z
  | false =>
    refine ⟨PE_imp (pe_or h.1 hr.1) fun σ H Q q => ?_, PW_imp (pw_or h.2 hr.2) fun σ H Q q => ?_⟩
    · obtain ⟨p, s, h1, S, rs, o⟩ := val σ H Q q
      refine ⟨p, s, h1, S, rs, ?_⟩
      refine Outc.bind (f := fun a h => R.ok a h) (by cases e : d.1 s h1 <;> (rw [e] at o; exact o)) fun x h2 p2 H2 v A2 S2 r2 o2 => ?_
      obtain ⟨c, e, z⟩ := Outc.done o2 S2 r2
      cases c with
      | true => exact ⟨true, e, z⟩
      | false => exact ⟨false, e, z⟩
    · obtain ⟨p, s, h1, S, rs, o⟩ := tst σ H Q q
      refine ⟨p, s, h1, S, rs, ?_⟩
      refine Outc.bind (f := fun a h => R.ok a h) (by cases e : d.2 s h1 <;> (rw [e] at o; exact o)) fun x h2 p2 H2 v A2 S2 r2 o2 => ?_
      have z := Outc.done o2 S2 r2
      cases v with
      | true => exact z
      | false => exact z
theorem d_not {pos : Pos} {e : Expr} {d : Dn} (h : SD B F E X e d) : SD B F E X (.UnaryOp .Not e pos)
    ((fun s h => (d.1 s h).bind fun x h1 => .of ((asBl x).map fun b => W.bl (!b)) h1), fun s h => (d.2 s h).bind fun b h1 => .ok (!b) h1) := by
  refine ⟨PE_imp (pe_not h.1) fun σ H Q ⟨p, s, h1, S, rs, o⟩ => ⟨p, s, h1, S, rs, Outc.bind o fun x h2 p2 H2 v A2 S2 r2 o2 => ?_⟩,
    PT_imp (pt_not h.2) fun σ H Q ⟨p, s, h1, S, rs, o⟩ => ⟨p, s, h1, S, rs, Outc.bind o fun x h2 p2 H2 v A2 S2 r2 o2 => ?_⟩⟩
  · obtain ⟨w, e, o2⟩ := Outc.of_ o2
    obtain ⟨b, e1, rfl⟩ := Option.map_eq_some_iff.mp e
    have ex := asBl_some e1
    subst ex
    exact ⟨b, r2.bl_, Outc.done o2 S2 (by simp [RW])⟩
  · have r2 : x = v := r2
    subst r2
    exact Outc.done (a := !x) (b := !x) o2 S2 rfl
theorem d_ite {pos : Pos} {c a b : Expr} {dc : Dn} {ma mb : VS → VH → R W} (hc : SD B F E X c dc) (ha : PE X a (tE B F E ma)) (hb : PE X b (tE B F E mb)) :
    PE X (.IfExp c a b pos) (tE B F E fun s h => (dc.2 s h).bind fun k h1 => if k then ma s h1 else mb s h1) := by
  refine PE_imp (pe_ifExp hc.2 ha hb) fun σ H Q ⟨p, s, h1, S, rs, o⟩ => ⟨p, s, h1, S, rs, Outc.bind o fun x h2 p2 H2 v A2 S2 r2 o2 => ?_⟩
  have r2 : x = v := r2
  subst r2
  cases x with
  | true => exact ⟨p2, s, h2, S2, rs.after A2, o2⟩
  | false => exact ⟨p2, s, h2, S2, rs.after A2, o2⟩

/-! ### lists of expressions -/
def notStar (e : Expr) : Bool := match e with
  | .Starred _ _ => false
  | _ => true
theorem star_cons {e : Expr} {es : List Expr} {env : Env} (h : notStar e = true) : starEach (e :: es) env = (false, eval e env) :: starEach es env := by
  cases e <;> first | rfl | cases h
theorem a_nil : PA X [] (tA B F E fun _ h => .ok [] h) := PA_imp pa_nil fun σ H Q ⟨p, s, h1, S, rs, o⟩ => Outc.done o S RWs.nil
theorem a_cons {e : Expr} {es : List Expr} {m : VS → VH → R W} {ms : VS → VH → R (List W)} (hn : notStar e = true) (h : PE X e (tE B F E m)) (hs : PA X es (tA B F E ms)) :
    PA X (e :: es) (tA B F E fun s h => (m s h).bind fun x h1 => (ms s h1).bind fun xs h2 => .ok (x :: xs) h2) := by
  refine PA_imp (pa_cons h hs (star_cons hn)) fun σ H Q ⟨p, s, h1, S, rs, o⟩ => ⟨p, s, h1, S, rs, Outc.bind o fun x h2 p2 H2 v A2 S2 r2 o2 => ?_⟩
  refine ⟨p2, s, h2, S2, rs.after A2, Outc.bind o2 fun xs h3 p3 H3 vs A3 S3 r3 o3 => ?_⟩
  exact Outc.done o3 S3 (RWs.cons (r2.after A3) r3)
theorem a_one {e : Expr} {m : VS → VH → R W} (hn : notStar e = true) (h : PE X e (tE B F E m)) : PA X [e] (tA B F E fun s h => (m s h).bind fun x h1 => .ok [x] h1) := a_cons hn h a_nil
theorem e_tup {es : List Expr} {x1 : Nat} {pos : Pos} {ms : VS → VH → R (List W)} (h : PA X es (tA B F E ms)) :
    PE X (.Tuple es x1 pos) (tE B F E fun s h => (ms s h).bind fun ws h1 => if ws.length ≤ sizeLine then .ok (.tup ws) h1 else .bad) := by
  refine PE_imp (pe_tup h) fun σ H Q ⟨p, s, h1, S, rs, o⟩ => ⟨p, s, h1, S, rs, Outc.bind o fun xs h2 p2 H2 vs A2 S2 r2 o2 => ?_⟩
  by_cases hl : xs.length ≤ sizeLine
  · simp only [if_pos hl] at o2
    exact ⟨by rw [← r2.length]; exact hl, fun c hc => o2 p2 _ _ (After.laid hc) (S2.laid hc) (new_tup S2 r2 hc)⟩
  · simp only [if_neg hl] at o2
    exact (o2 : False).elim

/-! ### o[i], slices -/
def notSlice (e : Expr) : Bool := match e with
  | .Slice _ _ _ _ => false
  | _ => true
theorem plainIx_of {b : Expr} (h : notSlice b = true) : PlainIx b := fun o i => by
  cases b <;> first | rfl | cases h
theorem e_ix (G : Good B sc N st E k X) {a b : Expr} {pos : Pos} {ma mb : VS → VH → R W} (ha : PE X a (tE B F E ma)) (hb : PE X b (tE B F E mb)) (hn : notSlice b = true) :
    PE X (.Subscript a b pos) (tE B F E fun s h => (ma s h).bind fun x h1 => (mb s h1).bind fun y h2 => .of (ixW h2 x y) h2) := by
  have hu := G.units
  refine PE_imp (pe_ix (ix_all (X := X) (by omega)) ha hb (plainIx_of hn)) fun σ H Q q => two (a := a) (b := b) q fun p h H x y v u S rx ry o => ?_
  obtain ⟨w, e, o⟩ := Outc.of_ o
  rw [G.hK]
  exact snd_ix F p h H x y w v u Q S rx ry e fun p' H' z A S' r => o p' H' z A S' r
/-- an optional part -/
def tP (B : Base) (F : List Addr) (E : XK) (m : VS → VH → R (Option Int)) : TO := fun σ H Q => ∃ p s h, Sim B F p h H ∧ RL B F p H s σ ∧ Outc B F REq E p H (m s h) Q
theorem o_none : PO X none (tP B F E fun _ h => .ok none h) := by
  refine ⟨fun pins s σ H Q I ⟨p, s1, h1, S, rs, o⟩ => po_none.run pins s σ H Q I ?_⟩
  exact Outc.done (b := (none : Option Int)) o S rfl
theorem o_some {e : Expr} {m : VS → VH → R W} (h : PE X e (tE B F E m)) : PO X (some e) (tP B F E fun s h => (m s h).bind fun x h1 => .of ((asInt x).map some) h1) := by
  refine ⟨fun pins s σ H Q I ⟨p, s1, h1, S, rs, o⟩ => (po_some h).run pins s σ H Q I ?_⟩
  refine ⟨p, s1, h1, S, rs, Outc.bind o fun x h2 p2 H2 v A2 S2 r2 o2 => ?_⟩
  obtain ⟨w, e, o2⟩ := Outc.of_ o2
  obtain ⟨i, e1, rfl⟩ := Option.map_eq_some_iff.mp e
  exact ⟨i, asInt_rel r2 e1, Outc.done (b := some i) o2 S2 rfl⟩
theorem e_slc (G : Good B sc N st E k X) {a : Expr} {lo hi : Option Expr} {p2 pos : Pos} {ma : VS → VH → R W} {ml mu : VS → VH → R (Option Int)} (ha : PE X a (tE B F E ma)) (hl : PO X lo (tP B F E ml)) (hu : PO X hi (tP B F E mu)) :
    PE X (.Subscript a (.Slice lo hi none p2) pos) (tE B F E fun s h => (ma s h).bind fun x h1 => (ml s h1).bind fun l h2 => (mu s h2).bind fun u h3 => .of (slcW h3 x l u) h3) := by
  refine PE_imp (pe_slice (sl_all (X := X)) ha hl hu) fun σ H Q ⟨p, s, h1, S, rs, o⟩ => ⟨p, s, h1, S, rs, Outc.bind o fun x h2 p2 H2 v A2 S2 r2 o2 => ?_⟩
  have rs2 := rs.after A2
  refine ⟨p2, s, h2, S2, rs2, Outc.bind o2 fun l h3 p3 H3 l' A3 S3 r3 o3 => ?_⟩
  have r3 : l = l' := r3
  subst r3
  refine ⟨p3, s, h3, S3, rs2.after A3, Outc.bind o3 fun u h4 p4 H4 u' A4 S4 r4 o4 => ?_⟩
  have r4 : u = u' := r4
  subst r4
  obtain ⟨w, e, o4⟩ := Outc.of_ o4
  rw [G.hK]
  exact slc_rel S4 ((r2.after A3).after A4) e fun p' H' z A S' r => o4 p' H' z A S' r
end
end Vm

/-! VmMk: what makes a new list or dict; loops of comprehensions. -/
namespace Vm
open PySem PySem.Spec PyProof.Rows L2

theorem nmc {a b : Addr} {l : List Addr} (h : a ≠ b ∧ a ∉ l) : a ∉ b :: l := fun z => by
  rcases List.mem_cons.mp z with z | z
  · exact h.1 z
  · exact h.2 z
theorem nmd {a b : Addr} {l : List Addr} (h : a ∉ b :: l) : a ≠ b ∧ a ∉ l := ⟨fun z => h (by rw [z]; exact List.mem_cons_self), fun z => h (List.mem_cons_of_mem _ z)⟩
/-- the heap without what stands at a -/
def hole (H : Hp) (a : Addr) : Hp := fun b => if b = a then none else H b
theorem hole_at (H : Hp) (a : Addr) : hole H a a = none := if_pos rfl
theorem hole_ne {H : Hp} {a b : Addr} (h : b ≠ a) : hole H a b = H b := if_neg h
theorem upd_hole {H : Hp} {a : Addr} {o : HO} (h : H a = some o) : upd (hole H a) a o = H := by
  funext b
  by_cases e : b = a
  · subst e; rw [upd_same, h]
  · rw [upd_ne e, hole_ne e]

section
variable {B : Base} {F p p' : List Addr} {H H' : Hp} {h : VH} {D : Addr}

mutual
/-- an address that holds nothing is none of a value's -/
theorem RW.forb (n : H D = none) : ∀ {x : W} {v : V}, RW B F p H x v → RW B (D :: F) p H x v
  | .non, v, r => by simp only [RW] at r ⊢; exact r
  | .bl _, v, r => by simp only [RW] at r ⊢; exact r
  | .int _, v, r => by simp only [RW] at r ⊢; exact r
  | .str _, v, r => by simp only [RW] at r ⊢; exact r
  | .tup xs, v, r => by
    simp only [RW] at r ⊢
    obtain ⟨a, vs, e, n1, n2, h1, h2⟩ := r
    exact ⟨a, vs, e, nmc ⟨ne_of_none h1 n, n1⟩, n2, h1, RWs.forb n h2⟩
  | .lst xs, v, r => by
    simp only [RW] at r ⊢
    obtain ⟨a, vs, e, n1, n2, h1, h2⟩ := r
    exact ⟨a, vs, e, nmc ⟨ne_of_none h1 n, n1⟩, n2, h1, RWs.forb n h2⟩
  | .dct ks xs, v, r => by
    simp only [RW] at r ⊢
    obtain ⟨a, vs, e, n1, n2, h1, h2, h3⟩ := r
    exact ⟨a, vs, e, nmc ⟨ne_of_none h1 n, n1⟩, n2, h1, h2, RWs.forb n h3⟩
  | .ref m, v, r => by simp only [RW] at r ⊢; exact r
  | .glb _, v, r => by simp only [RW] at r ⊢; exact r
  | .ty _, v, r => by simp only [RW] at r ⊢; exact r
  | .exc _ _ _, v, r => by simp only [RW] at r
  | .scr xs, v, r => by
    simp only [RW] at r ⊢
    obtain ⟨a, vs, e, s, h2⟩ := r
    exact ⟨a, vs, e, s.imp fun o n1 n2 h1 => ⟨nmc ⟨ne_of_none h1 n, n1⟩, n2, h1⟩, RWs.forb n h2⟩
theorem RWs.forb (n : H D = none) : ∀ {xs : List W} {vs : List V}, RWs B F p H xs vs → RWs B (D :: F) p H xs vs
  | [], vs, r => by simp only [RWs] at r ⊢; exact r
  | x :: xs, vs, r => by
    simp only [RWs] at r ⊢
    obtain ⟨v, us, e, h1, h2⟩ := r
    exact ⟨v, us, e, RW.forb n h1, RWs.forb n h2⟩
end
mutual
/-- what stands at a forbidden address does not matter -/
theorem RW.off (k : ∀ b o, b ≠ D → H b = some o → H' b = some o) : ∀ {x : W} {v : V}, RW B (D :: F) p H x v → RW B F p H' x v
  | .non, v, r => by simp only [RW] at r ⊢; exact r
  | .bl _, v, r => by simp only [RW] at r ⊢; exact r
  | .int _, v, r => by simp only [RW] at r ⊢; exact r
  | .str _, v, r => by simp only [RW] at r ⊢; exact r
  | .tup xs, v, r => by
    simp only [RW] at r ⊢
    obtain ⟨a, vs, e, n1, n2, h1, h2⟩ := r
    obtain ⟨n0, n1⟩ := nmd n1
    exact ⟨a, vs, e, n1, n2, k a _ n0 h1, RWs.off k h2⟩
  | .lst xs, v, r => by
    simp only [RW] at r ⊢
    obtain ⟨a, vs, e, n1, n2, h1, h2⟩ := r
    obtain ⟨n0, n1⟩ := nmd n1
    exact ⟨a, vs, e, n1, n2, k a _ n0 h1, RWs.off k h2⟩
  | .dct ks xs, v, r => by
    simp only [RW] at r ⊢
    obtain ⟨a, vs, e, n1, n2, h1, h2, h3⟩ := r
    obtain ⟨n0, n1⟩ := nmd n1
    exact ⟨a, vs, e, n1, n2, k a _ n0 h1, h2, RWs.off k h3⟩
  | .ref m, v, r => by simp only [RW] at r ⊢; exact r
  | .glb _, v, r => by simp only [RW] at r ⊢; exact r
  | .ty _, v, r => by simp only [RW] at r ⊢; exact r
  | .exc _ _ _, v, r => by simp only [RW] at r
  | .scr xs, v, r => by
    simp only [RW] at r ⊢
    obtain ⟨a, vs, e, s, h2⟩ := r
    exact ⟨a, vs, e, s.imp fun o n1 n2 h1 => ⟨(nmd n1).2, n2, k a _ (nmd n1).1 h1⟩, RWs.off k h2⟩
theorem RWs.off (k : ∀ b o, b ≠ D → H b = some o → H' b = some o) : ∀ {xs : List W} {vs : List V}, RWs B (D :: F) p H xs vs → RWs B F p H' xs vs
  | [], vs, r => by simp only [RWs] at r ⊢; exact r
  | x :: xs, vs, r => by
    simp only [RWs] at r ⊢
    obtain ⟨v, us, e, h1, h2⟩ := r
    exact ⟨v, us, e, RW.off k h1, RWs.off k h2⟩
end
theorem RC.forb (n : H D = none) {c : Cell} {o : HO} (r : RC B F p H c o) : RC B (D :: F) p H c o := by
  cases c with
  | lst xs => obtain ⟨vs, e, r⟩ := r; exact ⟨vs, e, r.forb n⟩
  | dk kvs => obtain ⟨vs, e, r⟩ := r; exact ⟨vs, e, r.1, r.2.forb n⟩
  | dt kvs => obtain ⟨vs, e, r⟩ := r; exact ⟨vs, e, r.1, r.2.forb n⟩
  | ins _ _ => exact r
  | lock _ => exact r
theorem RC.off (k : ∀ b o, b ≠ D → H b = some o → H' b = some o) {c : Cell} {o : HO} (r : RC B (D :: F) p H c o) : RC B F p H' c o := by
  cases c with
  | lst xs => obtain ⟨vs, e, r⟩ := r; exact ⟨vs, e, r.off k⟩
  | dk kvs => obtain ⟨vs, e, r⟩ := r; exact ⟨vs, e, r.1, r.2.off k⟩
  | dt kvs => obtain ⟨vs, e, r⟩ := r; exact ⟨vs, e, r.1, r.2.off k⟩
  | ins _ _ => exact r
  | lock _ => exact r
theorem RX.off (k : ∀ b o, b ≠ D → H b = some o → H' b = some o) {x : W} {cls : Value} {d : Option Addr} (r : RX B (D :: F) p H x cls d) : RX B F p H' x cls d := by
  cases x with
  | exc c fs vs =>
    obtain ⟨C, h1, h2, us, r, hl, h3⟩ := r
    refine ⟨C, h1, h2, us, r.off k, hl, ?_⟩
    rcases h3 with h3 | ⟨dd, ws, e, n1, n2, e1, e2⟩
    · exact .inl h3
    · obtain ⟨n0, n1⟩ := nmd n1
      exact .inr ⟨dd, ws, e, n1, n2, k dd _ n0 e1, e2⟩
  | _ => exact (r : False).elim
/-- a fresh address is made a forbidden one, and filled -/
theorem Sim.forb (S : Sim B F p h H) (n : H D = none) {o : HO} : Sim B (D :: F) p h (upd H D o) := by
  obtain ⟨n1, n2⟩ := S.fresh n
  refine ⟨S.len, S.nd, fun a ha => nmc ⟨fun z => n1 (by rw [← z]; exact ha), S.dj a ha⟩, fun m c a h1 h2 => ?_, fun a ha => ?_⟩
  · obtain ⟨u, e, r⟩ := S.cel m c a h1 h2
    exact ⟨u, by rw [upd_ne (ne_of_none e n)]; exact e, (r.forb n).after (After.laid n)⟩
  · rcases List.mem_cons.mp ha with z | z
    · subst z; exact ⟨o, upd_same⟩
    · obtain ⟨u, e⟩ := S.fr a z
      exact ⟨u, by rw [upd_ne (ne_of_none e n)]; exact e⟩
/-- a forbidden address is forgotten -/
theorem Sim.off (S : Sim B (D :: F) p h H) (hD : D ∉ F) (k : ∀ b o, b ≠ D → H b = some o → H' b = some o) : Sim B F p h H' := by
  refine ⟨S.len, S.nd, fun a ha z => S.dj a ha (List.mem_cons_of_mem _ z), fun m c a h1 h2 => ?_, fun a ha => ?_⟩
  · obtain ⟨u, e, r⟩ := S.cel m c a h1 h2
    have na : a ≠ D := fun z => S.dj a (List.mem_of_getElem? h2) (by rw [z]; exact List.mem_cons_self)
    exact ⟨u, k a u na e, r.off k⟩
  · obtain ⟨u, e⟩ := S.fr a (List.mem_cons_of_mem _ ha)
    exact ⟨u, k a u (fun z => hD (by rw [← z]; exact ha)) e⟩
theorem hole_k : ∀ b o, b ≠ D → H b = some o → hole H D b = some o := fun b o n e => by rw [hole_ne n]; exact e
theorem After.hole (A : After p H p' H') (n : H D = none) : After p H p' (Vm.hole H' D) := by
  obtain ⟨a1, a2, a3⟩ := A
  refine ⟨a1, fun b o e hb => ?_, fun b e => ?_⟩
  · rw [hole_ne (ne_of_none e n)]; exact a2 b o e hb
  · by_cases q : b = D
    · subst q; exact n
    · rw [hole_ne q] at e; exact a3 b e
theorem RL.forb (n : H D = none) {s : VS} {σ : L2.St} (r : RL B F p H s σ) : RL B (D :: F) p H s σ := ⟨r.1, fun i w e => by
  obtain ⟨v, e1, r1⟩ := r.2 i w e
  exact ⟨v, e1, r1.forb n⟩⟩
/-- a reading over one more forbidden address -/
theorem Outc.forb {α β : Type} {rel rel' : Rel α β} {E : XK} {r : R α} {Q : β → Hp → Prop} (o : Outc B F rel E p H r Q) (hD : D ∉ F) (hr : ∀ p' H' a b, rel' p' H' a b → rel p' H' a b) : Outc B (D :: F) rel' E p H r Q := by
  cases r with
  | ok a h' => exact fun p' H' b A S q => o p' H' b A (S.off hD fun b o _ e => e) (hr _ _ _ _ q)
  | exc x h' => exact fun p' H' cls d A S q => o p' H' cls d A (S.off hD fun b o _ e => e) (q.off fun b o _ e => e)
  | bad => exact o

/-! ### makers -/
/-- what must hold so that the run of a maker tells what comes: a new object -/
def tM (B : Base) (F : List Addr) (E : XK) (m : VS → VH → R Cell) : TE := fun σ H Q => ∃ p s h, Sim B F p h H ∧ RL B F p H s σ ∧
  Outc B F (fun p H c o => RC B F p H c o) E p H (m s h) (fun o H' => ∀ a, H' a = none → Q (.ref a) (upd H' a o))
theorem new_dct (S : Sim B F p h H) {kvs : List (Key × W)} {ws : List (Key × V)} (r : RK B F p H kvs ws) {a : Addr} (n : H a = none) : RW B F p (upd H a (.dK ws)) (.dct (kvs.map (·.1)) (kvs.map (·.2))) (.ref a) := by
  obtain ⟨n1, n2⟩ := S.fresh n
  simp only [RW]
  exact ⟨a, ws, rfl, n2, n1, upd_same, r.1, r.2.after (After.laid n)⟩
theorem m_frz {E : XK} {X : Cx} {e : Expr} {m : VS → VH → R Cell} (he : PE X e (tM B F E m)) : PE X e (tE B F E fun s h => (m s h).bind fun c h1 => .of (cellW c) h1) := by
  refine PE_imp he fun σ H Q ⟨p, s, h1, S, rs, o⟩ => ⟨p, s, h1, S, rs, Outc.bind o fun c h2 p2 H2 ob A2 S2 r2 o2 => fun a ha => ?_⟩
  obtain ⟨w, e, o2⟩ := Outc.of_ o2
  refine o2 p2 _ _ (After.laid ha) (S2.laid ha) ?_
  cases c with
  | lst xs =>
    cases e
    obtain ⟨vs, rfl, r⟩ := r2
    exact new_lst S2 r ha
  | dk kvs =>
    cases e
    obtain ⟨ws, rfl, r⟩ := r2
    exact new_dct S2 r ha
  | _ => cases e
theorem m_cel {E : XK} {X : Cx} {e : Expr} {m : VS → VH → R Cell} (he : PE X e (tM B F E m)) : PE X e (tE B F E fun s h => (m s h).bind fun c h1 => .ok (.ref h1.length) (h1 ++ [c])) := by
  refine PE_imp he fun σ H Q ⟨p, s, h1, S, rs, o⟩ => ⟨p, s, h1, S, rs, Outc.bind o fun c h2 p2 H2 ob A2 S2 r2 o2 => fun a ha => ?_⟩
  refine o2 (p2 ++ [a]) _ _ (After.cell ha) (S2.cell ha (r2.after (After.cell ha))) ?_
  simp only [RW]
  exact ⟨a, rfl, by rw [← S2.len]; simp⟩
variable {E : XK} {X : Cx} {k : Nat} {sc : Scope} {N st : List Str}
theorem k_lst {es : List Expr} {pos : Pos} {ms : VS → VH → R (List W)} (hs : PA X es (tA B F E ms)) :
    PE X (.List es pos) (tM B F E fun s h => (ms s h).bind fun ws h1 => if ws.length ≤ sizeLine then .ok (.lst ws) h1 else .bad) := by
  refine PE_imp (pe_lst hs) fun σ H Q ⟨p, s, h1, S, rs, o⟩ => ⟨p, s, h1, S, rs, Outc.bind o fun ws h2 p2 H2 vs A2 S2 r2 o2 => ?_⟩
  by_cases hl : ws.length ≤ sizeLine
  · simp only [if_pos hl] at o2
    exact ⟨by rw [← r2.length]; exact hl, Outc.done (b := HO.lst vs) o2 S2 ⟨vs, rfl, r2⟩⟩
  · simp only [if_neg hl] at o2
    exact (o2 : False).elim
/-- names of built-ins that a text may use: no module's name hides them -/
structure Free (B : Base) : Prop where
  list : B.mg "list" = none
  range : B.mg "range" = none
  enumerate : B.mg "enumerate" = none
  zip : B.mg "zip" = none
  blt : ∀ b : Blt, B.mg b.name = none
theorem k_list (G : Good B sc N st E k X) (Fr : Free B) {e : Expr} {p1 pos : Pos} {m : VS → VH → R W} (hn : notStar e = true) (hg : isGlo sc "list" = true) (he : PE X e (tE B F E m)) :
    PE X (.Call (.Name "list" p1) [e] [] pos) (tM B F E fun s h => (m s h).bind fun x h1 => .of ((asSeq h1 x).map .lst) h1) := by
  refine PE_imp (pe_callTy call_list_of (G.glob hg) (by rw [G.hm]; exact Fr.list) (by decide +kernel) (a_one hn he) (he := star_cons hn)) fun σ H Q ⟨p, s, h1, S, rs, o⟩ => ⟨p, s, h1, S, rs, Outc.re o fun x h2 _ o2 => ?_⟩
  intro p2 H2 vs A2 S2 r2
  obtain ⟨v, rfl, r3⟩ := RWs.one r2
  obtain ⟨c, e, o2⟩ := Outc.of_ (Outc.after o2 A2)
  obtain ⟨xs, e1, rfl⟩ := Option.map_eq_some_iff.mp e
  obtain ⟨a, us, rfl, ha2, ra⟩ := asSeq_rel S2 r3 e1
  exact ⟨a, us, rfl, by rw [G.hK]; exact ha2.elim (fun z => .inl (SqL.of z)) fun z => .inr (SqT.of z), Outc.done (b := HO.lst us) o2 S2 ⟨us, rfl, ra⟩⟩
end
end Vm

/-! VmLc: the other makers, iterators, targets, list comprehensions. -/
namespace Vm
open PySem PySem.Spec PyProof.Rows L2

mutual
theorem W.beq_eq : ∀ {a b : W}, W.beq a b = true → a = b
  | .non, b, h => by cases b <;> simp_all [W.beq]
  | .bl _, b, h => by cases b <;> simp_all [W.beq]
  | .int _, b, h => by cases b <;> simp_all [W.beq]
  | .str _, b, h => by cases b <;> simp_all [W.beq]
  | .tup x, b, h => by
    cases b <;> simp only [W.beq, Bool.false_eq_true] at h
    rw [W.beqs_eq h]
  | .lst x, b, h => by
    cases b <;> simp only [W.beq, Bool.false_eq_true] at h
    rw [W.beqs_eq h]
  | .dct k x, b, h => by
    cases b <;> simp only [W.beq, Bool.false_eq_true, Bool.and_eq_true, decide_eq_true_eq] at h
    rw [W.beqs_eq h.2, h.1]
  | .ref _, b, h => by cases b <;> simp_all [W.beq]
  | .glb _, b, h => by cases b <;> simp_all [W.beq]
  | .ty _, b, h => by cases b <;> simp_all [W.beq]
  | .exc c f x, b, h => by
    cases b <;> simp only [W.beq, Bool.false_eq_true, Bool.and_eq_true, decide_eq_true_eq] at h
    rw [W.beqs_eq h.2, h.1.1, h.1.2]
  | .scr x, b, h => by
    cases b <;> simp only [W.beq, Bool.false_eq_true] at h
    rw [W.beqs_eq h]
theorem W.beqs_eq : ∀ {a b : List W}, W.beqs a b = true → a = b
  | [], b, h => by cases b <;> simp_all [W.beqs]
  | x :: a, b, h => by
    cases b <;> simp only [W.beqs, Bool.false_eq_true, Bool.and_eq_true] at h
    rw [W.beq_eq h.1, W.beqs_eq h.2]
end
mutual
theorem W.beq_rfl : ∀ (a : W), W.beq a a = true
  | .non => rfl
  | .bl _ => by simp [W.beq]
  | .int _ => by simp [W.beq]
  | .str _ => by simp [W.beq]
  | .tup x => by rw [W.beq]; exact W.beqs_rfl x
  | .lst x => by rw [W.beq]; exact W.beqs_rfl x
  | .dct k x => by simp [W.beq, W.beqs_rfl x]
  | .ref _ => by simp [W.beq]
  | .glb _ => by simp [W.beq]
  | .ty _ => by simp [W.beq]
  | .exc c f x => by simp [W.beq, W.beqs_rfl x]
  | .scr x => by rw [W.beq]; exact W.beqs_rfl x
theorem W.beqs_rfl : ∀ (a : List W), W.beqs a a = true
  | [] => rfl
  | x :: a => by rw [W.beqs, W.beq_rfl x, W.beqs_rfl a]; rfl
end

section
variable {B : Base} {F F' p p' : List Addr} {H H' : Hp} {h : VH} {D : Addr}
mutual
/-- other forbidden addresses -/
theorem RW.sub (k : ∀ a o, H a = some o → a ∉ F → a ∉ F') : ∀ {x : W} {v : V}, RW B F p H x v → RW B F' p H x v
  | .non, v, r => by simp only [RW] at r ⊢; exact r
  | .bl _, v, r => by simp only [RW] at r ⊢; exact r
  | .int _, v, r => by simp only [RW] at r ⊢; exact r
  | .str _, v, r => by simp only [RW] at r ⊢; exact r
  | .tup xs, v, r => by
    simp only [RW] at r ⊢
    obtain ⟨a, vs, e, n1, n2, h1, h2⟩ := r
    exact ⟨a, vs, e, k a _ h1 n1, n2, h1, RWs.sub k h2⟩
  | .lst xs, v, r => by
    simp only [RW] at r ⊢
    obtain ⟨a, vs, e, n1, n2, h1, h2⟩ := r
    exact ⟨a, vs, e, k a _ h1 n1, n2, h1, RWs.sub k h2⟩
  | .dct ks xs, v, r => by
    simp only [RW] at r ⊢
    obtain ⟨a, vs, e, n1, n2, h1, h2, h3⟩ := r
    exact ⟨a, vs, e, k a _ h1 n1, n2, h1, h2, RWs.sub k h3⟩
  | .ref m, v, r => by simp only [RW] at r ⊢; exact r
  | .glb _, v, r => by simp only [RW] at r ⊢; exact r
  | .ty _, v, r => by simp only [RW] at r ⊢; exact r
  | .exc _ _ _, v, r => by simp only [RW] at r
  | .scr xs, v, r => by
    simp only [RW] at r ⊢
    obtain ⟨a, vs, e, s, h2⟩ := r
    exact ⟨a, vs, e, s.imp fun o n1 n2 h1 => ⟨k a _ h1 n1, n2, h1⟩, RWs.sub k h2⟩
theorem RWs.sub (k : ∀ a o, H a = some o → a ∉ F → a ∉ F') : ∀ {xs : List W} {vs : List V}, RWs B F p H xs vs → RWs B F' p H xs vs
  | [], vs, r => by simp only [RWs] at r ⊢; exact r
  | x :: xs, vs, r => by
    simp only [RWs] at r ⊢
    obtain ⟨v, us, e, h1, h2⟩ := r
    exact ⟨v, us, e, RW.sub k h1, RWs.sub k h2⟩
end
mutual
/-- what stands at forbidden addresses does not matter -/
theorem RW.over (k : ∀ b o, b ∉ F → H b = some o → H' b = some o) : ∀ {x : W} {v : V}, RW B F p H x v → RW B F p H' x v
  | .non, v, r => by simp only [RW] at r ⊢; exact r
  | .bl _, v, r => by simp only [RW] at r ⊢; exact r
  | .int _, v, r => by simp only [RW] at r ⊢; exact r
  | .str _, v, r => by simp only [RW] at r ⊢; exact r
  | .tup xs, v, r => by
    simp only [RW] at r ⊢
    obtain ⟨a, vs, e, n1, n2, h1, h2⟩ := r
    exact ⟨a, vs, e, n1, n2, k a _ n1 h1, RWs.over k h2⟩
  | .lst xs, v, r => by
    simp only [RW] at r ⊢
    obtain ⟨a, vs, e, n1, n2, h1, h2⟩ := r
    exact ⟨a, vs, e, n1, n2, k a _ n1 h1, RWs.over k h2⟩
  | .dct ks xs, v, r => by
    simp only [RW] at r ⊢
    obtain ⟨a, vs, e, n1, n2, h1, h2, h3⟩ := r
    exact ⟨a, vs, e, n1, n2, k a _ n1 h1, h2, RWs.over k h3⟩
  | .ref m, v, r => by simp only [RW] at r ⊢; exact r
  | .glb _, v, r => by simp only [RW] at r ⊢; exact r
  | .ty _, v, r => by simp only [RW] at r ⊢; exact r
  | .exc _ _ _, v, r => by simp only [RW] at r
  | .scr xs, v, r => by
    simp only [RW] at r ⊢
    obtain ⟨a, vs, e, s, h2⟩ := r
    exact ⟨a, vs, e, s.imp fun o n1 n2 h1 => ⟨n1, n2, k a _ n1 h1⟩, RWs.over k h2⟩
theorem RWs.over (k : ∀ b o, b ∉ F → H b = some o → H' b = some o) : ∀ {xs : List W} {vs : List V}, RWs B F p H xs vs → RWs B F p H' xs vs
  | [], vs, r => by simp only [RWs] at r ⊢; exact r
  | x :: xs, vs, r => by
    simp only [RWs] at r ⊢
    obtain ⟨v, us, e, h1, h2⟩ := r
    exact ⟨v, us, e, RW.over k h1, RWs.over k h2⟩
end
theorem sub_cons (n : H D = none) : ∀ a o, H a = some o → a ∉ F → a ∉ D :: F := fun a o e z => nmc ⟨ne_of_none e n, z⟩

/-! ### iterators -/
/-- an iterator of the model and the items that the interpreter goes through -/
structure JOk (B : Base) (F : List Addr) (iv : Itv) (J : L2.It) (p0 : List Addr) (H0 : Hp) : Prop where
  turn : ∀ (F' : List Addr) (i : Nat) (p : List Addr) (h : VH) (H H2 : Hp), (∀ a o, H0 a = some o → a ∉ F → a ∉ F') → (∀ a, a ∈ F → a ∈ F') → After p0 H0 p H2 → (∀ b o, b ∉ F → H2 b = some o → H b = some o) → Sim B F' p h H → iv.ok h = true →
    (iv.items[i]? = none → J.stop i H) ∧ ∀ x, iv.items[i]? = some x → J.go i H ∧ ∀ v H', J.yld i H v H' → After p H p H' ∧ Sim B F' p h H' ∧ RW B F' p H' x v
abbrev RJ (B : Base) (F : List Addr) : Rel Itv L2.It := fun p H iv J => JOk B F iv J p H
def tI (B : Base) (F : List Addr) (E : XK) (m : VS → VH → R Itv) : TI := fun σ H R => ∃ p s h, Sim B F p h H ∧ RL B F p H s σ ∧ Outc B F (RJ B F) E p H (m s h) R

theorem jok_tup {xs : List W} {vs : List V} {a : Addr} (n1 : a ∉ F) (n2 : a ∉ p) (e : H a = some (.tup vs)) (r : RWs B F p H xs vs) : JOk B F ⟨xs, fun _ => true⟩ (Itt B.K a) p H := by
  refine ⟨fun F' i p1 h1 H1 H2 k k2 A hk S _ => ?_⟩
  have e1 := hk a _ n1 (A.keep a _ e n2)
  refine ⟨fun hn => ⟨vs, SqT.of e1, ?_⟩, fun x hx => ?_⟩
  · rw [← r.length]
    exact List.getElem?_eq_none_iff.mp hn
  · obtain ⟨v, hv, rv⟩ := (r.sub k).get hx
    refine ⟨⟨vs, v, SqT.of e1, hv⟩, fun u H' ⟨z, y⟩ => ?_⟩
    subst z
    have q := y vs (SqT.of e1)
    rw [hv] at q
    cases q
    exact ⟨After.refl _ _, S, (rv.after A).over fun b o n => hk b o fun z => n (k2 b z)⟩
theorem jok_lst {xs : List W} {vs : List V} {a : Addr} (n1 : a ∉ F) (n2 : a ∉ p) (e : H a = some (.lst vs)) (r : RWs B F p H xs vs) : JOk B F ⟨xs, fun _ => true⟩ (Itl B.K a) p H := by
  refine ⟨fun F' i p1 h1 H1 H2 k k2 A hk S _ => ?_⟩
  have e1 := hk a _ n1 (A.keep a _ e n2)
  refine ⟨fun hn => ⟨vs, SqL.of e1, ?_⟩, fun x hx => ?_⟩
  · rw [← r.length]
    exact List.getElem?_eq_none_iff.mp hn
  · obtain ⟨v, hv, rv⟩ := (r.sub k).get hx
    refine ⟨⟨vs, v, SqL.of e1, hv⟩, fun u H' ⟨z, y⟩ => ?_⟩
    subst z
    have q := y vs (SqL.of e1)
    rw [hv] at q
    cases q
    exact ⟨After.refl _ _, S, (rv.after A).over fun b o n => hk b o fun z => n (k2 b z)⟩
theorem jok_ref {xs : List W} {n : Nat} {a : Addr} (e : p[n]? = some a) : JOk B F ⟨xs, okRef n xs⟩ (Itl B.K a) p H := by
  refine ⟨fun F' i p1 h1 H1 H2 k k2 A hk S ok => ?_⟩
  have e1 := A.at_ e
  have ok : okRef n xs h1 = true := ok
  unfold okRef at ok
  split at ok
  · rename_i ys hc
    have hy := W.beqs_eq ok
    subst hy
    obtain ⟨o, ho, vs, rfl, r⟩ := S.cel n _ a hc e1
    refine ⟨fun hn => ⟨vs, SqL.of ho, ?_⟩, fun x hx => ?_⟩
    · rw [← r.length]
      exact List.getElem?_eq_none_iff.mp hn
    · obtain ⟨v, hv, rv⟩ := r.get hx
      refine ⟨⟨vs, v, SqL.of ho, hv⟩, fun u H' ⟨z, y⟩ => ?_⟩
      subst z
      have q := y vs (SqL.of ho)
      rw [hv] at q
      cases q
      exact ⟨After.refl _ _, S, rv⟩
  · cases ok
theorem jok_str {z : Str} : JOk B F ⟨z.cps.toList.map fun c => .str ⟨#[c]⟩, fun _ => true⟩ (Its z) p H := by
  refine ⟨fun F' i p1 h1 H1 H2 k k2 A hk S _ => ⟨fun hn => ?_, fun x hx => ?_⟩⟩
  · have q := List.getElem?_eq_none_iff.mp hn
    show z.cps.size ≤ i
    simpa using q
  · simp only [List.getElem?_map, Option.map_eq_some_iff] at hx
    obtain ⟨c, hc, rfl⟩ := hx
    rw [Array.getElem?_toList] at hc
    refine ⟨(Array.getElem?_eq_some_iff.mp hc).1, fun u H' ⟨z', c', hc', y⟩ => ?_⟩
    subst z' y
    rw [hc] at hc'
    cases hc'
    exact ⟨After.refl _ _, S, by simp [RW]⟩
theorem rgL_get (a b : Int) (i : Nat) : (rgL a b)[i]? = if i < (b - a).toNat then some (.int (a + (i : Nat))) else none := by
  unfold rgL
  rw [List.getElem?_map]
  by_cases hi : i < (b - a).toNat
  · rw [List.getElem?_range hi, if_pos hi]; rfl
  · rw [if_neg hi, List.getElem?_eq_none (by simpa using hi)]; rfl
theorem jok_rng {a b : Int} : JOk B F ⟨rgL a b, fun _ => true⟩ (Itr a (b - a).toNat) p H := by
  refine ⟨fun F' i p1 h1 H1 H2 k k2 A hk S _ => ⟨fun hn => ?_, fun x hx => ?_⟩⟩
  · show (b - a).toNat ≤ i
    have hn : (rgL a b)[i]? = none := hn
    rw [rgL_get] at hn
    split at hn
    · cases hn
    · omega
  · have hx : (rgL a b)[i]? = some x := hx
    rw [rgL_get] at hx
    split at hx
    · rename_i hi
      cases hx
      refine ⟨hi, fun u H' ⟨z', y⟩ => ?_⟩
      subst z' y
      exact ⟨After.refl _ _, S, by simp [RW]⟩
    · cases hx

section
variable {E : XK} {X : Cx} {k : Nat} {sc : Scope} {N st : List Str}
/-- a run that comes out well -/
theorem Outc.of_eq {α β : Type} {rel : Rel α β} {r : R α} {a : α} {h1 : VH} {Q : β → Hp → Prop} (e : r = .ok a h1) (q : ∀ p' H' b, After p H p' H' → Sim B F p' h1 H' → rel p' H' a b → Q b H') : Outc B F rel E p H r Q := by
  rw [e]; exact q
theorem i_of (G : Good B sc N st E k X) {tg e : Expr} {ma : VS → VH → R W} (he : PE X e (tE B F E ma)) : PI X tg e (tI B F E fun s h => (ma s h).bind fun x h1 => .of (itOf h1 x) h1) := by
  refine ⟨fun pins s σ H R I ⟨p, s0, h0, S, rs, o⟩ => ?_⟩
  dsimp only at o
  cases em : ma s0 h0 with
  | bad => rw [em] at o; exact (o : False).elim
  | exc x h1 =>
    rw [em] at o
    exact (pi_tup he).run pins s σ H R I ⟨p, s0, h0, S, rs, by rw [em]; exact o⟩
  | ok x h1 =>
    rw [em] at o
    rw [Vm.R.bind_ok] at o
    obtain ⟨iv, ei, o⟩ := Outc.of_ o
    unfold itOf at ei
    split at ei
    · cases ei
      refine (pi_tup he).run pins s σ H R I ⟨p, s0, h0, S, rs, Outc.of_eq em fun p1 H1 v A1 S1 r1 => ?_⟩
      obtain ⟨a, vs, rfl, n1, n2, e1, r⟩ := r1.tup_
      exact ⟨a, rfl, ⟨vs, SqT.of e1⟩, by rw [G.hK]; exact o p1 H1 _ A1 S1 (jok_tup n1 n2 e1 r)⟩
    · cases ei
      refine (pi_list he).run pins s σ H R I ⟨p, s0, h0, S, rs, Outc.of_eq em fun p1 H1 v A1 S1 r1 => ?_⟩
      simp only [RW] at r1
      obtain ⟨a, vs, rfl, n1, n2, e1, r⟩ := r1
      exact ⟨a, rfl, ⟨vs, SqL.of e1⟩, by rw [G.hK]; exact o p1 H1 _ A1 S1 (jok_lst n1 n2 e1 r)⟩
    · cases ei
      refine (pi_str he).run pins s σ H R I ⟨p, s0, h0, S, rs, Outc.of_eq em fun p1 H1 v A1 S1 r1 => ?_⟩
      exact ⟨_, r1.str_, o p1 H1 _ A1 S1 jok_str⟩
    · rename_i n
      split at ei
      · rename_i xs hc
        cases ei
        refine (pi_list he).run pins s σ H R I ⟨p, s0, h0, S, rs, Outc.of_eq em fun p1 H1 v A1 S1 r1 => ?_⟩
        simp only [RW] at r1
        obtain ⟨a, rfl, e1⟩ := r1
        obtain ⟨ob, ho, vs, rfl, r⟩ := S1.cel n _ a hc e1
        exact ⟨a, rfl, ⟨vs, SqL.of ho⟩, by rw [G.hK]; exact o p1 H1 _ A1 S1 (jok_ref e1)⟩
      · cases ei
    · cases ei
theorem itOf_ok {h : VH} {x : W} {iv : Itv} (e : itOf h x = some iv) : iv.ok h = true := by
  unfold itOf at e
  split at e
  · cases e; rfl
  · cases e; rfl
  · cases e; rfl
  · rename_i n
    split at e
    · rename_i xs hc
      cases e
      show okRef n xs h = true
      unfold okRef
      rw [hc]
      exact W.beqs_rfl xs
    · cases e
  · cases e
theorem rgOk_ok {a b : Int} (e : rgOk a b = true) : -(2 ^ 62) ≤ a ∧ a < 2 ^ 62 ∧ -(2 ^ 62) ≤ b ∧ b < 2 ^ 62 := by
  simp only [rgOk, Bool.and_eq_true, decide_eq_true_eq] at e
  exact ⟨e.1.1.1, e.1.1.2, e.1.2, e.2⟩
theorem i_rng (G : Good B sc N st E k X) (Fr : Free B) {tg e : Expr} {p1 pos : Pos} {ma : VS → VH → R W} (hn : notStar e = true) (hg : isGlo sc "range" = true) (he : PE X e (tE B F E ma)) :
    PI X tg (.Call (.Name "range" p1) [e] [] pos) (tI B F E fun s h => (ma s h).bind fun x h1 => .of ((asInt x).bind fun n => if rgOk 0 n then some ⟨rgL 0 n, fun _ => true⟩ else none) h1) := by
  have hi := pi_range1 (tg := tg) (pos := pos) (p := p1) (G.glob hg) (by rw [G.hm]; exact Fr.range) (a_one hn he) (hs := star_cons hn)
  refine ⟨fun pins s σ H R I ⟨p, s0, h0, S, rs, o⟩ => hi.run pins s σ H R I ⟨p, s0, h0, S, rs, Outc.re o fun x h2 _ o2 => ?_⟩⟩
  intro p2 H2 vs A2 S2 r2
  obtain ⟨v, rfl, r3⟩ := RWs.one r2
  obtain ⟨c, e, o2⟩ := Outc.of_ (Outc.after o2 A2)
  obtain ⟨n, e1, e2⟩ := bind_some_ e
  obtain ⟨e3, rfl⟩ := ite_some_ e2
  obtain ⟨_, _, q1, q2⟩ := rgOk_ok e3
  refine ⟨n, by rw [asInt_rel r3 e1], q1, q2, ?_⟩
  have z := Outc.done (b := Itr 0 (n - 0).toNat) o2 S2 jok_rng
  rw [Int.sub_zero] at z
  exact z
theorem star_two {e e2 : Expr} {env : Env} (h : notStar e = true) (h2 : notStar e2 = true) : starEach [e, e2] env = [(false, eval e env), (false, eval e2 env)] := by rw [star_cons h, star_cons h2]; rfl
theorem i_rng2 (G : Good B sc N st E k X) (Fr : Free B) {tg e e2 : Expr} {p1 pos : Pos} {ma mb : VS → VH → R W} (hn : notStar e = true) (hn2 : notStar e2 = true) (hg : isGlo sc "range" = true) (he : PE X e (tE B F E ma)) (he2 : PE X e2 (tE B F E mb)) :
    PI X tg (.Call (.Name "range" p1) [e, e2] [] pos) (tI B F E fun s h => (ma s h).bind fun x h1 => (mb s h1).bind fun y h2 => .of ((asInt x).bind fun i => (asInt y).bind fun j => if rgOk i j then some ⟨rgL i j, fun _ => true⟩ else none) h2) := by
  have hi := pi_range2 (tg := tg) (pos := pos) (p := p1) (G.glob hg) (by rw [G.hm]; exact Fr.range) (a_cons hn he (a_one hn2 he2)) (hs := star_two hn hn2) (hs2 := star_cons hn2)
  refine ⟨fun pins s σ H R I ⟨p, s0, h0, S, rs, o⟩ => hi.run pins s σ H R I ⟨p, s0, h0, S, rs, ?_⟩⟩
  dsimp only at o ⊢
  cases e1 : ma s0 h0 with
  | bad => rw [e1] at o; exact (o : False).elim
  | exc x h1 => rw [e1] at o; exact o
  | ok x h1 =>
    rw [e1] at o
    simp only [Vm.R.bind_ok] at o ⊢
    cases e2 : mb s0 h1 with
    | bad => rw [e2] at o; exact (o : False).elim
    | exc x h1 => rw [e2] at o; exact o
    | ok y h2 =>
      rw [e2] at o
      simp only [Vm.R.bind_ok] at o ⊢
      intro p2 H2 vs A2 S2 r2
      simp only [RWs] at r2
      obtain ⟨v, r', rfl, rv, u, r'', rfl, ru, rfl⟩ := r2
      obtain ⟨c, e, o2⟩ := Outc.of_ (Outc.after o A2)
      obtain ⟨i, q1, e⟩ := bind_some_ e
      obtain ⟨j, q2, e⟩ := bind_some_ e
      obtain ⟨e3, rfl⟩ := ite_some_ e
      exact ⟨i, j, by rw [asInt_rel rv q1, asInt_rel ru q2], rgOk_ok e3, Outc.done (b := Itr i (j - i).toNat) o2 S2 jok_rng⟩
theorem zipIdx_get (xs : List W) (i : Nat) : (xs.zipIdx.map fun p => W.tup [.int (p.2 : Nat), p.1])[i]? = (xs[i]?).map fun x => W.tup [.int (i : Nat), x] := by
  rw [List.getElem?_map, List.getElem?_zipIdx]
  cases xs[i]? <;> simp
theorem RX.fresh_ : True := trivial
theorem jok_enum {xs : List W} {ok : VH → Bool} {a : Addr} (J : JOk B F ⟨xs, ok⟩ (Itl B.K a) p H) : JOk B F (enumI ⟨xs, ok⟩) (Ite B.K a) p H := by
  refine ⟨fun F' i p1 h1 H1 H2 k k2 A hk S okh => ?_⟩
  obtain ⟨J1, J2⟩ := J.turn F' i p1 h1 H1 H2 k k2 A hk S okh
  refine ⟨fun hn => ?_, fun x hx => ?_⟩
  · have hn : (xs.zipIdx.map fun p => W.tup [.int (p.2 : Nat), p.1])[i]? = none := hn
    rw [zipIdx_get] at hn
    exact J1 (by simpa using hn)
  · have hx : (xs.zipIdx.map fun p => W.tup [.int (p.2 : Nat), p.1])[i]? = some x := hx
    rw [zipIdx_get] at hx
    obtain ⟨y, hy, rfl⟩ := Option.map_eq_some_iff.mp hx
    obtain ⟨go, yl⟩ := J2 y hy
    refine ⟨go, fun v H' ⟨T, u, ev, hT, eH, q⟩ => ?_⟩
    subst ev eH
    obtain ⟨_, _, ry⟩ := yl u H1 ⟨rfl, q⟩
    exact ⟨After.laid hT, S.laid hT, new_tup S (RWs.cons (by simp [RW]) (RWs.cons ry RWs.nil)) hT⟩
theorem i_enum (G : Good B sc N st E k X) (Fr : Free B) {elts : List Expr} {kk : Nat} {tpos : Pos} {e : Expr} {p1 pos : Pos} {ma : VS → VH → R W} (hn : notStar e = true) (hg : isGlo sc "enumerate" = true) (he : PE X e (tE B F E ma)) :
    PI X (.Tuple elts kk tpos) (.Call (.Name "enumerate" p1) [e] [] pos) (tI B F E fun s h => (ma s h).bind fun x h1 => .of ((asLst h1 x).bind fun _ => (itOf h1 x).map enumI) h1) := by
  have hi := pi_enum (elts := elts) (kk := kk) (tpos := tpos) (pos := pos) (p := p1) (G.glob hg) (by rw [G.hm]; exact Fr.enumerate) (a_one hn he) (hs := star_cons hn)
  refine ⟨fun pins s σ H R I ⟨p, s0, h0, S, rs, o⟩ => hi.run pins s σ H R I ⟨p, s0, h0, S, rs, Outc.re o fun x h2 _ o2 => ?_⟩⟩
  intro p2 H2 vs A2 S2 r2
  obtain ⟨v, rfl, r3⟩ := RWs.one r2
  obtain ⟨c, e, o2⟩ := Outc.of_ (Outc.after o2 A2)
  obtain ⟨ys, e1, e⟩ := bind_some_ e
  obtain ⟨iv, e2, rfl⟩ := Option.map_eq_some_iff.mp e
  have keyf : ∃ a us, v = .ref a ∧ H2 a = some (.lst us) ∧ JOk B F iv (Itl B.K a) p2 H2 := by
    cases x <;> simp only [asLst, itOf, reduceCtorEq, Option.some.injEq] at e1 e2
    · subst e2
      simp only [RW] at r3
      obtain ⟨a, us, rfl, n1, n2, q, r⟩ := r3
      exact ⟨a, us, rfl, q, jok_lst n1 n2 q r⟩
    · rename_i n _
      simp only [RW] at r3
      obtain ⟨a, rfl, q⟩ := r3
      split at e2
      · rename_i zs hc
        cases e2
        obtain ⟨ob, ho, us, rfl, r⟩ := S2.cel _ _ a hc q
        exact ⟨a, us, rfl, ho, jok_ref q⟩
      · cases e2
  obtain ⟨a, us, rfl, q, J⟩ := keyf
  exact ⟨a, us, rfl, SqL.of q, by rw [G.hK]; exact Outc.done o2 S2 (jok_enum J)⟩

/-! ### targets -/
def chkNm (sc : Scope) (N st : List Str) (x : Str) (i : Nat) : Bool := decide (N[i]? = some x) && isLoc sc x && decide (x ∈ st)
mutual
def chkTg (sc : Scope) (N st : List Str) : Tg → Expr → Bool
  | .v i, .Name x _ => chkNm sc N st x i
  | .t ts, .Tuple es _ _ => chkTgs sc N st ts es
  | _, _ => false
def chkTgs (sc : Scope) (N st : List Str) : List Tg → List Expr → Bool
  | [], [] => true
  | t :: ts, e :: es => notStar e && chkTg sc N st t e && chkTgs sc N st ts es
  | _, _ => false
end
mutual
def gT (K : PySem.W.Frag) : Tg → TG
  | .v i => gName i
  | .t ts => gTup K ts.length (gTs K ts)
def gTs (K : PySem.W.Frag) : List Tg → TGs
  | [] => gNil
  | t :: ts => gCons (gT K t) (gTs K ts)
end
theorem assignEach_cons {e : Expr} {es : List Expr} {env : Env} (h : notStar e = true) : assignEach (e :: es) env = (false, assign e env) :: assignEach es env := by
  cases e <;> first | rfl | cases h
theorem each_ok {sc : Scope} {N st : List Str} : ∀ {ts : List Tg} {es : List Expr} {env : Env}, chkTgs sc N st ts es = true → (assignEach es env).length = ts.length ∧ (assignEach es env).findIdx? (·.1) = none
  | [], [], env, _ => ⟨rfl, rfl⟩
  | [], _ :: _, _, h => by simp [chkTgs] at h
  | _ :: _, [], _, h => by simp [chkTgs] at h
  | t :: ts, e :: es, env, h => by
    simp only [chkTgs, Bool.and_eq_true] at h
    obtain ⟨h1, h2⟩ := each_ok (env := env) h.2
    rw [assignEach_cons h.1.1]
    exact ⟨by simp [h1], by simp [List.findIdx?_cons, h2]⟩
mutual
theorem pg_tg (G : Good B sc N st E k X) : ∀ {t : Tg} {e : Expr}, chkTg sc N st t e = true → PG X e (gT B.K t)
  | .v i, e, h => by
    cases e <;> simp only [chkTg, Bool.false_eq_true] at h
    simp only [chkNm, Bool.and_eq_true, decide_eq_true_eq] at h
    exact pg_name (by rw [G.hN]; exact G.nd) (by rw [G.hN]; exact h.1.1) (G.loc h.1.2) (G.fnl h.2)
  | .t ts, e, h => by
    cases e <;> simp only [chkTg, Bool.false_eq_true] at h
    rename_i es _ _
    obtain ⟨h1, h2⟩ := each_ok (env := X.env) h
    have z := pg_tup (pos := ‹_›) (k := ‹_›) (n := ts.length) G.calm (pgs_tg G h) h1 h2
    rw [G.hK] at z
    exact z
theorem pgs_tg (G : Good B sc N st E k X) : ∀ {ts : List Tg} {es : List Expr}, chkTgs sc N st ts es = true → PGs X es (gTs B.K ts)
  | [], [], h => pgs_nil
  | [], _ :: _, h => by simp [chkTgs] at h
  | _ :: _, [], h => by simp [chkTgs] at h
  | t :: ts, e :: es, h => by
    simp only [chkTgs, Bool.and_eq_true] at h
    exact pgs_cons (pg_tg G h.1.2) (pgs_tg G h.2) (by rw [assignEach_cons h.1.1]; rfl)
end
theorem wipe_get (σ : L2.St) (j : Nat) : ∀ vs : List Nat, (L2.wipe σ vs)[j]? = if j ∈ vs then (σ[j]?).map fun _ => none else σ[j]?
  | [] => by simp [L2.wipe]
  | v :: vs => by
    have ih := wipe_get σ j vs
    unfold L2.wipe
    by_cases e : v = j
    · subst e
      by_cases hl : v < (L2.wipe σ vs).length
      · rw [List.getElem?_set_self hl]
        have hl2 := hl
        rw [wipe_length] at hl2
        simp [hl2]
      · have hl2 := hl
        rw [wipe_length] at hl2
        rw [List.getElem?_eq_none (by simpa using hl)]
        simp [List.getElem?_eq_none (by omega : σ.length ≤ v)]
    · rw [List.getElem?_set_ne e, ih]
      simp [Ne.symm e]
theorem wipe_set {σ : L2.St} {i : Nat} {x : Option V} {vs : List Nat} (h : i ∈ vs) : L2.wipe (σ.set i x) vs = L2.wipe σ vs := by
  refine List.ext_getElem? fun j => ?_
  rw [wipe_get, wipe_get]
  by_cases hj : j ∈ vs
  · rw [if_pos hj, if_pos hj]
    by_cases e : i = j
    · subst e
      by_cases hl : i < σ.length
      · rw [List.getElem?_set_self hl]; simp [hl]
      · rw [List.getElem?_eq_none (by simpa using hl), List.getElem?_eq_none (by omega)]
    · rw [List.getElem?_set_ne e]
  · rw [if_neg hj, if_neg hj, List.getElem?_set_ne (fun e => hj (by rw [← e]; exact h))]
theorem wipe_wipe {σ : L2.St} {vs : List Nat} : L2.wipe (L2.wipe σ vs) vs = L2.wipe σ vs := by
  refine List.ext_getElem? fun j => ?_
  rw [wipe_get, wipe_get]
  by_cases hj : j ∈ vs
  · rw [if_pos hj, if_pos hj]; cases σ[j]? <;> rfl
  · rw [if_neg hj]
mutual
theorem g_tg : ∀ {t : Tg} {x : W} {s s2 : VS} {v : V} {σ : L2.St} {Q : L2.St → Hp → Prop}, Tg.set t x s = some s2 → RW B F p H x v → RL B F p H s σ →
    (∀ σ2, RL B F p H s2 σ2 → (∀ vs, (∀ i ∈ t.slots, i ∈ vs) → L2.wipe σ2 vs = L2.wipe σ vs) → Q σ2 H) → gT B.K t v σ H Q
  | .v i, x, s, s2, v, σ, Q, e, r, rs, q => by
    simp only [Tg.set, Option.some.injEq] at e
    subst e
    exact q _ (rs.set r) fun vs h => wipe_set (h i (by simp [Tg.slots]))
  | .t ts, x, s, s2, v, σ, Q, e, r, rs, q => by
    cases x <;> simp only [Tg.set, reduceCtorEq] at e
    rename_i ws
    obtain ⟨a, us, rfl, n1, n2, ha, ru⟩ := r.tup_
    obtain ⟨z1, z2⟩ := gs_tg e ru rs fun σ2 h2 h3 => q σ2 h2 fun vs hv => h3 vs hv
    exact ⟨a, us, rfl, SqT.of ha, z1, z2⟩
theorem gs_tg : ∀ {ts : List Tg} {xs : List W} {s s2 : VS} {vs : List V} {σ : L2.St} {Q : L2.St → Hp → Prop}, Tg.sets ts xs s = some s2 → RWs B F p H xs vs → RL B F p H s σ →
    (∀ σ2, RL B F p H s2 σ2 → (∀ vs, (∀ i ∈ Tg.slotss ts, i ∈ vs) → L2.wipe σ2 vs = L2.wipe σ vs) → Q σ2 H) → vs.length = ts.length ∧ gTs B.K ts vs σ H Q
  | [], [], s, s2, vs, σ, Q, e, r, rs, q => by
    simp only [Tg.sets, Option.some.injEq] at e
    simp only [RWs] at r
    subst e r
    exact ⟨rfl, rfl, q σ rs fun _ _ => rfl⟩
  | [], _ :: _, s, s2, vs, σ, Q, e, r, rs, q => by simp [Tg.sets] at e
  | _ :: _, [], s, s2, vs, σ, Q, e, r, rs, q => by simp [Tg.sets] at e
  | t :: ts, x :: xs, s, s2, vs, σ, Q, e, r, rs, q => by
    simp only [RWs] at r
    obtain ⟨v, us, rfl, r1, r2⟩ := r
    simp only [Tg.sets] at e
    split at e
    · rename_i s1 e1
      have hlen : us.length = ts.length := by
        have := sets_len e
        rw [← r2.length]; exact this
      refine ⟨by simp [hlen], v, us, rfl, g_tg e1 r1 rs fun σ1 h1 w1 => (gs_tg e r2 h1 fun σ2 h2 w2 => q σ2 h2 fun vs hv => ?_).2⟩
      rw [w2 vs fun i hi => hv i (by simp [Tg.slotss, hi]), w1 vs fun i hi => hv i (by simp [Tg.slotss, hi])]
    · cases e
theorem sets_len : ∀ {ts : List Tg} {xs : List W} {s s2 : VS}, Tg.sets ts xs s = some s2 → xs.length = ts.length
  | [], [], _, _, _ => rfl
  | [], _ :: _, s, s2, e => by simp [Tg.sets] at e
  | _ :: _, [], s, s2, e => by simp [Tg.sets] at e
  | t :: ts, x :: xs, s, s2, e => by
    simp only [Tg.sets] at e
    split at e
    · simp [sets_len e]
    · cases e
end

/-! ### more makers -/
theorem rg_list (a : Int) : ∀ l : List Nat, RWs B F p H (l.map fun i => W.int (a + (i : Nat))) (l.map fun i => V.int (a + (i : Nat)))
  | [] => RWs.nil
  | i :: l => RWs.cons (by simp [RW]) (rg_list a l)
theorem rgL_rel (a b : Int) : RWs B F p H (rgL a b) (rgV a b) := rg_list a _

theorem k_rng (G : Good B sc N st E k X) (Fr : Free B) {e : Expr} {p1 p2 q1 pos : Pos} {ma : VS → VH → R W} (hn : notStar e = true) (hg : isGlo sc "range" = true) (hg2 : isGlo sc "list" = true) (he : PE X e (tE B F E ma)) :
    PE X (.Call (.Name "list" p1) [.Call (.Name "range" p2) [e] [] q1] [] pos) (tM B F E fun s h => (ma s h).bind fun x h1 => .of ((asInt x).bind fun n => if rgOk 0 n ∧ n ≤ 2 ^ 24 then some (.lst (rgL 0 n)) else none) h1) := by
  refine PE_imp (pe_listRg G.calm (G.glob hg2) (by rw [G.hm]; exact Fr.list) (prg_1 (G.glob hg) (by rw [G.hm]; exact Fr.range) he (na := star_cons hn))) fun σ H Q ⟨p, s, h1, S, rs, o⟩ => ⟨p, s, h1, S, rs, Outc.bind o fun x h2 p2 H2 v A2 S2 r2 o2 => ?_⟩
  obtain ⟨c, e, o2⟩ := Outc.of_ o2
  obtain ⟨n, e1, e2⟩ := bind_some_ e
  obtain ⟨⟨e3, e4⟩, rfl⟩ := ite_some_ e2
  obtain ⟨b1, b2, b3, b4⟩ := rgOk_ok e3
  refine ⟨n, asInt_rel r2 e1, ⟨b1, b2, b3, b4, by omega⟩, Outc.done (b := HO.lst (rgV 0 n)) o2 S2 ⟨_, rfl, ?_⟩⟩
  exact rgL_rel 0 n
theorem k_rng2 (G : Good B sc N st E k X) (Fr : Free B) {e e' : Expr} {p1 p2 q1 pos : Pos} {ma mb : VS → VH → R W} (hn : notStar e = true) (hn2 : notStar e' = true) (hg : isGlo sc "range" = true) (hg2 : isGlo sc "list" = true) (he : PE X e (tE B F E ma)) (he' : PE X e' (tE B F E mb)) :
    PE X (.Call (.Name "list" p1) [.Call (.Name "range" p2) [e, e'] [] q1] [] pos) (tM B F E fun s h => (ma s h).bind fun x h1 => (mb s h1).bind fun y h2 => .of ((asInt x).bind fun i => (asInt y).bind fun j => if rgOk i j ∧ j - i ≤ 2 ^ 24 then some (.lst (rgL i j)) else none) h2) := by
  refine PE_imp (pe_listRg G.calm (G.glob hg2) (by rw [G.hm]; exact Fr.list) (prg_2 (G.glob hg) (by rw [G.hm]; exact Fr.range) he he' (na := star_cons hn) (nb := star_cons hn2) (hp := by rw [star_cons hn2]; rfl))) fun σ H Q ⟨p, s, h1, S, rs, o⟩ => ⟨p, s, h1, S, rs, Outc.bind o fun x h2 p2 H2 v A2 S2 r2 o2 => ?_⟩
  refine ⟨p2, s, h2, S2, rs.after A2, Outc.bind o2 fun y h3 p3 H3 u A3 S3 r3 o3 => ?_⟩
  obtain ⟨c, e, o3⟩ := Outc.of_ o3
  obtain ⟨i, e1, e⟩ := bind_some_ e
  obtain ⟨j, e2, e⟩ := bind_some_ e
  obtain ⟨⟨e3, e4⟩, rfl⟩ := ite_some_ e
  obtain ⟨b1, b2, b3, b4⟩ := rgOk_ok e3
  refine ⟨i, j, asInt_rel r2 e1, asInt_rel r3 e2, ⟨b1, b2, b3, b4, by omega⟩, Outc.done (b := HO.lst (rgV i j)) o3 S3 ⟨_, rfl, ?_⟩⟩
  exact rgL_rel i j
theorem k_slc (G : Good B sc N st E k X) {a : Expr} {lo hi : Option Expr} {p2 pos : Pos} {ma : VS → VH → R W} {ml mu : VS → VH → R (Option Int)} (ha : PE X a (tE B F E ma)) (hl : PO X lo (tP B F E ml)) (hu : PO X hi (tP B F E mu)) :
    PE X (.Subscript a (.Slice lo hi none p2) pos) (tM B F E fun s h => (ma s h).bind fun x h1 => (ml s h1).bind fun l h2 => (mu s h2).bind fun u h3 => .of ((asLst h3 x).map fun xs => Cell.lst (cutL xs l u)) h3) := by
  refine PE_imp (pe_slice (sl_list (X := X)) ha hl hu) fun σ H Q ⟨p, s, h1, S, rs, o⟩ => ⟨p, s, h1, S, rs, Outc.bind o fun x h2 p2 H2 v A2 S2 r2 o2 => ?_⟩
  have rs2 := rs.after A2
  refine ⟨p2, s, h2, S2, rs2, Outc.bind o2 fun l h3 p3 H3 l' A3 S3 r3 o3 => ?_⟩
  have r3 : l = l' := r3
  subst r3
  refine ⟨p3, s, h3, S3, rs2.after A3, Outc.bind o3 fun u h4 p4 H4 u' A4 S4 r4 o4 => ?_⟩
  have r4 : u = u' := r4
  subst r4
  obtain ⟨w, e, o4⟩ := Outc.of_ o4
  obtain ⟨xs, e1, rfl⟩ := Option.map_eq_some_iff.mp e
  obtain ⟨a, vs, rfl, ha, r⟩ := asLst_rel S4 ((r2.after A3).after A4) e1
  exact ⟨a, vs, rfl, SqL.of ha, Outc.done (b := HO.lst (cutV vs l u)) o4 S4 ⟨_, rfl, r.cut l u⟩⟩
theorem k_cat {a b : Expr} {pos : Pos} {ma mb : VS → VH → R W} (ha : PE X a (tE B F E ma)) (hb : PE X b (tE B F E mb)) :
    PE X (.BinOp a .Add b pos) (tM B F E fun s h => (ma s h).bind fun x h1 => (mb s h1).bind fun y h2 => .of ((asLst h2 x).bind fun xs => (asLst h2 y).bind fun ys => if xs.length + ys.length ≤ sizeLine then some (.lst (xs ++ ys)) else none) h2) := by
  refine PE_imp (pe_op op_cat ha hb) fun σ H Q ⟨p, s, h1, S, rs, o⟩ => ⟨p, s, h1, S, rs, Outc.bind o fun x h2 p2 H2 v A2 S2 r2 o2 => ?_⟩
  refine ⟨p2, s, h2, S2, rs.after A2, Outc.bind o2 fun y h3 p3 H3 u A3 S3 r3 o3 => ?_⟩
  obtain ⟨c, e, o3⟩ := Outc.of_ o3
  obtain ⟨xs, e1, e⟩ := bind_some_ e
  obtain ⟨ys, e2, e⟩ := bind_some_ e
  obtain ⟨e3, rfl⟩ := ite_some_ e
  obtain ⟨a1, vs, rfl, h5, r5⟩ := asLst_rel S3 (r2.after A3) e1
  obtain ⟨a2, us, rfl, h6, r6⟩ := asLst_rel S3 r3 e2
  exact ⟨a1, a2, vs, us, rfl, rfl, h5, h6, by rw [← r5.length, ← r6.length]; exact e3, Outc.done (b := HO.lst (vs ++ us)) o3 S3 ⟨_, rfl, r5.append r6⟩⟩
theorem k_rep {a b : Expr} {pos : Pos} {ma mb : VS → VH → R W} (ha : PE X a (tE B F E ma)) (hb : PE X b (tE B F E mb)) :
    PE X (.BinOp a .Mult b pos) (tM B F E fun s h => (ma s h).bind fun x h1 => (mb s h1).bind fun y h2 => .of ((asLst h2 x).bind fun xs => (asInt y).bind fun k =>
      if -(2 ^ 63) ≤ k ∧ k < 2 ^ 63 ∧ xs.length * k.toNat ≤ sizeLine then some (.lst (rep k.toNat xs)) else none) h2) := by
  refine PE_imp (pe_op op_rep ha hb) fun σ H Q ⟨p, s, h1, S, rs, o⟩ => ⟨p, s, h1, S, rs, Outc.bind o fun x h2 p2 H2 v A2 S2 r2 o2 => ?_⟩
  refine ⟨p2, s, h2, S2, rs.after A2, Outc.bind o2 fun y h3 p3 H3 u A3 S3 r3 o3 => ?_⟩
  obtain ⟨c, e, o3⟩ := Outc.of_ o3
  obtain ⟨xs, e1, e⟩ := bind_some_ e
  obtain ⟨n, e2, e⟩ := bind_some_ e
  obtain ⟨⟨e3, e4, e5⟩, rfl⟩ := ite_some_ e
  obtain ⟨a1, vs, rfl, h5, r5⟩ := asLst_rel S3 (r2.after A3) e1
  exact ⟨a1, n, vs, rfl, asInt_rel r3 e2, h5, e3, e4, by rw [← r5.length]; exact e5, Outc.done (b := HO.lst _) o3 S3 ⟨_, rfl, r5.rep n.toNat⟩⟩
end
end
end Vm

/-! VmLc2: list comprehensions. -/
namespace Vm
open PySem PySem.Spec PyProof.Rows L2
section
variable {B : Base} {F F' p p' : List Addr} {H H' : Hp} {h : VH} {D : Addr}
theorem RC.over (k : ∀ b o, b ∉ F → H b = some o → H' b = some o) {c : Cell} {o : HO} (r : RC B F p H c o) : RC B F p H' c o := by
  cases c with
  | lst xs => obtain ⟨vs, e, r⟩ := r; exact ⟨vs, e, r.over k⟩
  | dk kvs => obtain ⟨vs, e, r⟩ := r; exact ⟨vs, e, r.1, r.2.over k⟩
  | dt kvs => obtain ⟨vs, e, r⟩ := r; exact ⟨vs, e, r.1, r.2.over k⟩
  | ins _ _ => exact r
  | lock _ => exact r
theorem over_k {o : HO} : ∀ b u, b ∉ D :: F → H b = some u → upd H D o b = some u := fun b u n e => by rw [upd_ne (nmd n).1]; exact e
theorem Sim.over (S : Sim B (D :: F) p h H) {o : HO} : Sim B (D :: F) p h (upd H D o) := by
  refine ⟨S.len, S.nd, S.dj, fun n c a h1 h2 => ?_, fun a ha => ?_⟩
  · obtain ⟨u, e, r⟩ := S.cel n c a h1 h2
    exact ⟨u, over_k a u (S.dj a (List.mem_of_getElem? h2)) e, r.over over_k⟩
  · by_cases q : a = D
    · subst q; exact ⟨o, upd_same⟩
    · obtain ⟨u, e⟩ := S.fr a ha
      exact ⟨u, by rw [upd_ne q]; exact e⟩
theorem hole_upd (H : Hp) (D : Addr) (o : HO) : hole (upd H D o) D = hole H D := by
  funext b
  by_cases q : b = D
  · subst q; rw [hole_at, hole_at]
  · rw [hole_ne q, hole_ne q, upd_ne q]
theorem hole_none (n : H D = none) : hole H D = H := by
  funext b
  by_cases q : b = D
  · subst q; rw [hole_at, n]
  · rw [hole_ne q]
theorem After.hole2 (A : After p H p' H') : After p (Vm.hole H D) p' (Vm.hole H' D) := by
  obtain ⟨⟨q, e, hq⟩, k, t⟩ := A
  refine ⟨⟨q, e, fun a ha => ?_⟩, fun a o ha hp => ?_, fun a ha => ?_⟩
  · by_cases z : a = D
    · subst z; exact hole_at _ _
    · rw [hole_ne z]; exact hq a ha
  · by_cases z : a = D
    · subst z; rw [hole_at] at ha; cases ha
    · rw [hole_ne z] at ha ⊢; exact k a o ha hp
  · by_cases z : a = D
    · subst z; exact hole_at _ _
    · rw [hole_ne z] at ha ⊢; exact t a ha
theorem After.fill {o : HO} (A : After p H p' (Vm.hole H' D)) (e : H' D = some o) : After p H p' H' := by
  have z := A.trans (After.laid (o := o) (hole_at H' D))
  rw [upd_hole e] at z
  exact z

theorem if_tt {P Q : Prop} (h : P) : if true = true then P else Q := by rw [if_pos rfl]; exact h
theorem After.unhole {o : HO} (A : After p (Vm.hole H D) p' H') (nD : D ∉ p') (e : H D = some o) (e' : H' D = some o) : After p H p' H' := by
  obtain ⟨⟨q, e1, hq⟩, k, t⟩ := A
  refine ⟨⟨q, e1, fun a ha => ?_⟩, fun a u ha hp => ?_, fun a ha => ?_⟩
  · have z := hq a ha
    by_cases q2 : a = D
    · subst q2; exact absurd (by rw [e1]; exact List.mem_append_right _ ha) nD
    · rwa [hole_ne q2] at z
  · by_cases z : a = D
    · subst z; rw [e] at ha; cases ha; exact e'
    · exact k a u (by rw [hole_ne z]; exact ha) hp
  · by_cases z : a = D
    · subst z; rw [e'] at ha; cases ha
    · have q := t a ha; rwa [hole_ne z] at q
theorem RL.over (k : ∀ b o, b ∉ F → H b = some o → H' b = some o) {s : VS} {σ : L2.St} (r : RL B F p H s σ) : RL B F p H' s σ := ⟨r.1, fun i w e => by
  obtain ⟨v, e1, r1⟩ := r.2 i w e
  exact ⟨v, e1, r1.over k⟩⟩
variable {E : XK} {X : Cx} {k : Nat} {sc : Scope} {N st : List Str}
theorem PE_ex {α : Type} {X : Cx} {e : Expr} {t : α → TE} (h : ∀ a, PE X e (t a)) : PE X e (fun σ H Q => ∃ a, t a σ H Q) := ⟨fun pins s σ H Q I ⟨a, q⟩ => (h a).run pins s σ H Q I q⟩
theorem PT_ex {α : Type} {X : Cx} {e : Expr} {t : α → TT} (h : ∀ a, PT X e (t a)) : PT X e (fun σ H Q => ∃ a, t a σ H Q) := ⟨fun pins s σ H Q I ⟨a, q⟩ => (h a).run pins s σ H Q I q⟩
theorem PTs_ex {α : Type} {X : Cx} {e : List Expr} {t : α → TT} (h : ∀ a, PTs X e (t a)) : PTs X e (fun σ H Q => ∃ a, t a σ H Q) := ⟨fun pins s σ H Q I ⟨a, q⟩ => (h a).run pins s σ H Q I q⟩
theorem PI_ex {α : Type} {X : Cx} {tg e : Expr} {t : α → TI} (h : ∀ a, PI X tg e (t a)) : PI X tg e (fun σ H Q => ∃ a, t a σ H Q) := ⟨fun pins s σ H Q I ⟨a, q⟩ => (h a).run pins s σ H Q I q⟩
/-- no exception comes out of a block -/
abbrev E0 : XK := fun _ _ _ => False

theorem lcStep_ok {t : Tg} {own : List Nat} {s : VS} {mt : VS → VH → R Bool} {me : VS → VH → R W} {x : W} {h h4 : VH} {ys : List W} (e : lcStep t own s mt me x h = .ok ys h4) :
    ∃ s2, tgSet t x (wipe s own) = some s2 ∧ ∃ b h3, mt s2 h = .ok b h3 ∧ if b = true then ∃ y, me s2 h3 = .ok y h4 ∧ ys = [y] else ys = [] ∧ h4 = h3 := by
  unfold lcStep at e
  split at e
  · rename_i s2 e1
    refine ⟨s2, e1, ?_⟩
    cases e2 : mt s2 h with
    | bad => rw [e2] at e; cases e
    | exc _ _ => rw [e2] at e; cases e
    | ok b h3 =>
      rw [e2] at e
      refine ⟨b, h3, rfl, ?_⟩
      cases b with
      | false =>
        cases e
        simp
      | true =>
        simp only [Vm.R.bind_ok, if_true] at e ⊢
        cases e3 : me s2 h3 with
        | bad => rw [e3] at e; cases e
        | exc _ _ => rw [e3] at e; cases e
        | ok y h4 => rw [e3] at e; cases e; exact ⟨y, rfl, rfl⟩
  · cases e
theorem lcLoop_cons {ok : VH → Bool} {step : W → VH → R (List W)} {x : W} {xs acc out : List W} {h h5 : VH} (e : lcLoop ok step (x :: xs) acc h = .ok out h5) :
    ∃ ys h1, step x h = .ok ys h1 ∧ ok h1 = true ∧ acc.length + ys.length ≤ sizeLine ∧ lcLoop ok step xs (acc ++ ys) h1 = .ok out h5 := by
  unfold lcLoop at e
  cases e1 : step x h with
  | bad => rw [e1] at e; cases e
  | exc _ _ => rw [e1] at e; cases e
  | ok ys h1 =>
    rw [e1] at e
    simp only [Vm.R.bind_ok] at e
    split at e
    · rename_i hc
      simp only [Bool.and_eq_true, decide_eq_true_eq] at hc
      exact ⟨ys, h1, rfl, hc.1, hc.2, e⟩
    · cases e
theorem drop_some {α : Type} {l : List α} {i : Nat} {x : α} (h : l[i]? = some x) : l.drop i = x :: l.drop (i + 1) := by
  obtain ⟨hl, e⟩ := List.getElem?_eq_some_iff.mp h
  rw [List.drop_eq_getElem_cons hl, e]

theorem lc_read {t : Tg} {own : List Nat} {mi : VS → VH → R Itv} {mt : VS → VH → R Bool} {me : VS → VH → R W} (hio : ∀ s h iv h1, mi s h = .ok iv h1 → iv.ok h1 = true) (hsl : ∀ i ∈ t.slots, i ∈ own) {σ : L2.St} {H : Hp} {Q : VK}
    (q : tM B F E (lcRun t own mi mt me) σ H Q) : tLc (tI B F E mi) (gT B.K t) (fun σ H Q => ∃ D, tT B (D :: F) E0 mt σ H Q) (fun σ H Q => ∃ D, tE B (D :: F) E0 me σ H Q) own σ H Q := by
  obtain ⟨p, s, h, S, rs, o⟩ := q
  unfold lcRun at o
  refine ⟨p, s, h, S, rs, ?_⟩
  cases em : mi s h with
  | bad => rw [em] at o; exact (o : False).elim
  | exc x h1 => rw [em] at o; exact o
  | ok iv h1 =>
    rw [em, Vm.R.bind_ok] at o
    intro p1 H1 J A1 S1 J1 D hD
    have ok1 := hio s h iv h1 em
    cases el : lcLoop iv.ok (lcStep t own s mt me) iv.items [] h1 with
    | bad => rw [el] at o; exact (o : False).elim
    | exc x h1 => rw [el] at o; exact (o : False).elim
    | ok xs h5 =>
      rw [el] at o
      have o : ∀ p' H' b, After p H p' H' → Sim B F p' h5 H' → RC B F p' H' (.lst xs) b → ∀ a, H' a = none → Q (.ref a) (upd H' a b) := o
      have hDF : D ∉ F := (S1.fresh hD).2
      refine ⟨fun i m H2 => m = iv.items.length - i ∧ i ≤ iv.items.length ∧ ∃ p2 h2 aw av, iv.ok h2 = true ∧ After p1 H1 p2 (hole H2 D) ∧ Sim B (D :: F) p2 h2 H2 ∧ H2 D = some (.lst av) ∧ RWs B (D :: F) p2 H2 aw av ∧
        lcLoop iv.ok (lcStep t own s mt me) (iv.items.drop i) aw h2 = .ok xs h5, ⟨iv.items.length, by simp, Nat.zero_le _, p1, h1, [], [], ok1, by rw [hole_upd, hole_none hD]; exact After.refl _ _, S1.forb hD, upd_same, RWs.nil, by simpa using el⟩, ?_⟩
      rintro i m H2 ⟨rfl, hi, p2, h2, aw, av, ok2, A2, S2, hD2, ra, e2⟩
      have A12 := A2.fill hD2
      obtain ⟨t1, t2⟩ := J1.turn (D :: F) i p2 h2 H2 H2 (sub_cons hD) (fun _ h => List.mem_cons_of_mem _ h) A12 (fun _ _ _ e => e) S2 ok2
      cases hx : iv.items[i]? with
      | none =>
        refine .inl ⟨t1 hx, ?_⟩
        have hl := List.getElem?_eq_none_iff.mp hx
        rw [List.drop_of_length_le hl] at e2
        have e2 : (R.ok aw h2 : Vm.R (List W)) = .ok xs h5 := e2
        cases e2
        have z := o p2 (hole H2 D) (.lst av) (A1.trans A2) (S2.off hDF hole_k) ⟨av, rfl, ra.off hole_k⟩ D (hole_at _ _)
        rw [upd_hole hD2] at z
        exact z
      | some x =>
        obtain ⟨go, yl⟩ := t2 x hx
        have hlt := (List.getElem?_eq_some_iff.mp hx).1
        rw [drop_some hx] at e2
        obtain ⟨ys, h3, es, ok3, hz, e3⟩ := lcLoop_cons e2
        obtain ⟨s2, et, b, h4, eb, ee⟩ := lcStep_ok es
        refine .inr ⟨go, fun H' => ∃ p2 h2 aw av, iv.ok h2 = true ∧ After p1 H1 p2 (hole H' D) ∧ Sim B (D :: F) p2 h2 H' ∧ H' D = some (.lst av) ∧ RWs B (D :: F) p2 H' aw av ∧
          lcLoop iv.ok (lcStep t own s mt me) (iv.items.drop (i + 1)) aw h2 = .ok xs h5, fun H' z => ⟨iv.items.length - (i + 1), by omega, rfl, hlt, z⟩, fun v H' y => ?_⟩
        obtain ⟨A3, S3, rx⟩ := yl v H' y
        have rl : RL B (D :: F) p2 H' (wipe s own) (L2.wipe σ own) := (((rs.after A1).forb hD).after (A12.trans A3)).wipe own
        refine g_tg et rx rl fun σ2 rs2 w2 => ⟨by rw [w2 own hsl]; exact wipe_wipe, D, p2, s2, h2, S3, rs2, Outc.of_eq eb fun p4 H4 b' A4 S4 eqb => ?_⟩
        have eqb : b = b' := eqb
        subst eqb
        have nDp : D ∉ p2 := fun z => S2.dj D z List.mem_cons_self
        cases b with
        | false =>
          simp only [Bool.false_eq_true, if_false] at ee ⊢
          obtain ⟨rfl, rfl⟩ := ee
          refine ⟨p4, _, aw, av, ok3, A2.trans (A3.trans A4).hole2, S4, (A3.trans A4).keep D _ hD2 nDp, ra.after (A3.trans A4), ?_⟩
          rw [List.append_nil] at e3
          exact e3
        | true =>
          simp only [if_true] at ee ⊢
          obtain ⟨y', e5, rfl⟩ := ee
          refine ⟨D, p4, s2, h4, S4, rs2.after A4, Outc.of_eq e5 fun p5 H5 u A5 S5 ru => ⟨av, ((A3.trans A4).trans A5).keep D _ hD2 nDp, ?_, p5, h3, aw ++ [y'], av ++ [u], ok3, ?_, S5.over, upd_same, ?_, e3⟩⟩
          · rw [← ra.length]; have z : aw.length + 1 ≤ sizeLine := by simpa using hz
            omega
          · rw [hole_upd]; exact A2.trans ((A3.trans A4).trans A5).hole2
          · exact ((ra.after ((A3.trans A4).trans A5)).append (RWs.cons ru RWs.nil)).over over_k

theorem lcStep1_ok {t : Tg} {s : VS} {me : VS → VH → R W} {x : W} {h h4 : VH} {ys : List W} (e : lcStep1 t s me x h = .ok ys h4) :
    ∃ s2 y, tgSet t x (wipe s t.slots) = some s2 ∧ me s2 h = .ok y h4 ∧ ys = [y] := by
  unfold lcStep1 at e
  split at e
  · rename_i s2 e1
    cases e2 : me s2 h with
    | bad => rw [e2] at e; cases e
    | exc _ _ => rw [e2] at e; cases e
    | ok y h3 =>
      rw [e2] at e
      cases e
      exact ⟨s2, y, e1, e2, rfl⟩
  · cases e
theorem lcStep2_ok {t t1 : Tg} {own : List Nat} {s : VS} {mi1 : VS → VH → R Itv} {me : VS → VH → R W} {x : W} {h h4 : VH} {ys : List W} (e : lcStep2 t t1 own s mi1 me x h = .ok ys h4) :
    ∃ s2 iv1 h3, tgSet t x (wipe s own) = some s2 ∧ mi1 s2 h = .ok iv1 h3 ∧ lcLoop iv1.ok (lcStep1 t1 s2 me) iv1.items [] h3 = .ok ys h4 := by
  unfold lcStep2 at e
  split at e
  · rename_i s2 e1
    cases e2 : mi1 s2 h with
    | bad => rw [e2] at e; cases e
    | exc _ _ => rw [e2] at e; cases e
    | ok y h3 =>
      rw [e2] at e
      exact ⟨s2, y, h3, e1, e2, e⟩
  · cases e
theorem lcLoop_len {ok : VH → Bool} {step : W → VH → R (List W)} : ∀ {xs acc out : List W} {h h5 : VH}, lcLoop ok step xs acc h = .ok out h5 → acc.length ≤ out.length
  | [], acc, out, h, h5, e => by unfold lcLoop at e; cases e; exact Nat.le_refl _
  | x :: xs, acc, out, h, h5, e => by
    obtain ⟨ys, h1, _, _, _, e1⟩ := lcLoop_cons e
    have := lcLoop_len e1
    simp at this
    omega
theorem lc2_read {t t1 : Tg} {own : List Nat} {mi mi1 : VS → VH → R Itv} {me : VS → VH → R W} (hio : ∀ s h iv h1, mi s h = .ok iv h1 → iv.ok h1 = true) (hio1 : ∀ s h iv h1, mi1 s h = .ok iv h1 → iv.ok h1 = true) (hsl : ∀ i ∈ t.slots, i ∈ own) {σ : L2.St} {H : Hp} {Q : VK}
    (q : tM B F E (lcRun2 t t1 own mi mi1 me) σ H Q) : tLc2 (tI B F E mi) (gT B.K t) tYes (fun σ H Q => ∃ D, tI B (D :: F) E0 mi1 σ H Q) (gT B.K t1) tYes (fun σ H Q => ∃ D, tE B (D :: F) E0 me σ H Q) own t1.slots σ H Q := by
  obtain ⟨p, s, h, S, rs, o⟩ := q
  unfold lcRun2 at o
  refine ⟨p, s, h, S, rs, ?_⟩
  cases em : mi s h with
  | bad => rw [em] at o; exact (o : False).elim
  | exc x h1 => rw [em] at o; exact o
  | ok iv h1 =>
    rw [em, Vm.R.bind_ok] at o
    intro p1 H1 J A1 S1 J1 D hD
    have ok1 := hio s h iv h1 em
    cases el : lcLoop iv.ok (lcStep2 t t1 own s mi1 me) iv.items [] h1 with
    | bad => rw [el] at o; exact (o : False).elim
    | exc x h1 => rw [el] at o; exact (o : False).elim
    | ok xs h5 =>
      rw [el] at o
      have o : ∀ p' H' b, After p H p' H' → Sim B F p' h5 H' → RC B F p' H' (.lst xs) b → ∀ a, H' a = none → Q (.ref a) (upd H' a b) := o
      have hDF : D ∉ F := (S1.fresh hD).2
      refine ⟨fun i m H2 => m = iv.items.length - i ∧ i ≤ iv.items.length ∧ ∃ p2 h2 aw av, iv.ok h2 = true ∧ After p1 H1 p2 (hole H2 D) ∧ Sim B (D :: F) p2 h2 H2 ∧ H2 D = some (.lst av) ∧ RWs B (D :: F) p2 H2 aw av ∧
        lcLoop iv.ok (lcStep2 t t1 own s mi1 me) (iv.items.drop i) aw h2 = .ok xs h5, ⟨iv.items.length, by simp, Nat.zero_le _, p1, h1, [], [], ok1, by rw [hole_upd, hole_none hD]; exact After.refl _ _, S1.forb hD, upd_same, RWs.nil, by simpa using el⟩, ?_⟩
      rintro i m H2 ⟨rfl, hi, p2, h2, aw, av, ok2, A2, S2, hD2, ra, e2⟩
      have A12 := A2.fill hD2
      obtain ⟨t1', t2⟩ := J1.turn (D :: F) i p2 h2 H2 H2 (sub_cons hD) (fun _ h => List.mem_cons_of_mem _ h) A12 (fun _ _ _ e => e) S2 ok2
      cases hx : iv.items[i]? with
      | none =>
        refine .inl ⟨t1' hx, ?_⟩
        have hl := List.getElem?_eq_none_iff.mp hx
        rw [List.drop_of_length_le hl] at e2
        have e2 : (R.ok aw h2 : Vm.R (List W)) = .ok xs h5 := e2
        cases e2
        have z := o p2 (hole H2 D) (.lst av) (A1.trans A2) (S2.off hDF hole_k) ⟨av, rfl, ra.off hole_k⟩ D (hole_at _ _)
        rw [upd_hole hD2] at z
        exact z
      | some x =>
        obtain ⟨go, yl⟩ := t2 x hx
        have hlt := (List.getElem?_eq_some_iff.mp hx).1
        rw [drop_some hx] at e2
        obtain ⟨ys, h3, es, ok3, hz, e3⟩ := lcLoop_cons e2
        obtain ⟨s2, iv1, h4, et, eb, ee⟩ := lcStep2_ok es
        have ok4 := hio1 _ _ _ _ eb
        refine .inr ⟨go, fun H' => ∃ p2 h2 aw av, iv.ok h2 = true ∧ After p1 H1 p2 (hole H' D) ∧ Sim B (D :: F) p2 h2 H' ∧ H' D = some (.lst av) ∧ RWs B (D :: F) p2 H' aw av ∧
          lcLoop iv.ok (lcStep2 t t1 own s mi1 me) (iv.items.drop (i + 1)) aw h2 = .ok xs h5, fun H' z => ⟨iv.items.length - (i + 1), by omega, rfl, hlt, z⟩, fun v H' y => ?_⟩
        obtain ⟨A3, S3, rx⟩ := yl v H' y
        have rl : RL B (D :: F) p2 H' (wipe s own) (L2.wipe σ own) := (((rs.after A1).forb hD).after (A12.trans A3)).wipe own
        have nDp : D ∉ p2 := fun z => S2.dj D z List.mem_cons_self
        refine g_tg et rx rl fun σ2 rs2 w2 => ⟨by rw [w2 own hsl]; exact wipe_wipe, ?_⟩
        dsimp only [tYes]
        rw [if_pos rfl]
        refine ⟨D, p2, s2, h2, S3, rs2, Outc.of_eq eb fun p4 H4 J' A4 S4 J4 => ?_⟩
        refine ⟨fun j m H5 => m = iv1.items.length - j ∧ j ≤ iv1.items.length ∧ ∃ p5 h5 bw bv, iv1.ok h5 = true ∧ After p4 (hole H4 D) p5 (hole H5 D) ∧ Sim B (D :: F) p5 h5 H5 ∧ H5 D = some (.lst (av ++ bv)) ∧ RWs B (D :: F) p5 H5 bw bv ∧ bv.length = bw.length ∧
          lcLoop iv1.ok (lcStep1 t1 s2 me) (iv1.items.drop j) bw h5 = .ok ys h3, ⟨iv1.items.length, by simp, Nat.zero_le _, p4, h4, [], [], ok4, After.refl _ _, S4, by simpa using (A3.trans A4).keep D _ hD2 nDp, RWs.nil, rfl, by simpa using ee⟩, ?_⟩
        rintro j m H5 ⟨rfl, hj, p5, h6, bw, bv, ok5, A5, S5, hD5, rb, hbl, e5⟩
        have hD4 : H4 D = some (.lst av) := (A3.trans A4).keep D _ hD2 nDp
        have nDp4 : D ∉ p4 := fun z => S4.dj D z List.mem_cons_self
        have A5' : ∀ b u, b ∉ D :: F → H4 b = some u → b ∉ p4 → H5 b = some u := fun b u n e hb => by
          have z := A5.keep b u (by rw [hole_ne (nmd n).1]; exact e) hb
          rwa [hole_ne (nmd n).1] at z
        -- the heap as it would be with the new list as it was
        have hH : ∀ b u, b ∉ D :: F → upd H5 D (.lst av) b = some u → H5 b = some u := fun b u n e => by rw [upd_ne (nmd n).1] at e; exact e
        have A45 : After p4 H4 p5 (upd H5 D (.lst av)) := by
          have z := A5.trans (After.laid (o := .lst av) (hole_at H5 D))
          have e1 : upd (hole H5 D) D (.lst av) = upd H5 D (.lst av) := by
            funext b
            by_cases q : b = D
            · subst q; rw [upd_same, upd_same]
            · rw [upd_ne q, upd_ne q, hole_ne q]
          rw [e1] at z
          exact After.unhole z (fun y => S5.dj D y List.mem_cons_self) hD4 upd_same
        obtain ⟨u1, u2⟩ := J4.turn (D :: F) j p5 h6 H5 (upd H5 D (.lst av)) (fun _ _ _ n => n) (fun _ h => h) A45 hH S5 ok5
        have A15 : After p1 H1 p5 (hole H5 D) := A2.trans ((A3.trans A4).hole2.trans A5)
        have ra5 : RWs B (D :: F) p5 H5 aw av := ((ra.after (A3.trans A4)).after A45).over hH
        cases hx1 : iv1.items[j]? with
        | none =>
          refine .inl ⟨u1 hx1, p5, h6, aw ++ bw, av ++ bv, ?_⟩
          have hl := List.getElem?_eq_none_iff.mp hx1
          rw [List.drop_of_length_le hl] at e5
          have e5 : (R.ok bw h6 : Vm.R (List W)) = .ok ys h3 := e5
          cases e5
          exact ⟨ok3, A15, S5, hD5, ra5.append rb, e3⟩
        | some x1 =>
          obtain ⟨go1, yl1⟩ := u2 x1 hx1
          have hlt1 := (List.getElem?_eq_some_iff.mp hx1).1
          rw [drop_some hx1] at e5
          obtain ⟨zs, h7, es1, ok7, hz1, e6⟩ := lcLoop_cons e5
          obtain ⟨s3, y1, et1, ey1, rfl⟩ := lcStep1_ok es1
          have hlen := lcLoop_len e6
          refine .inr ⟨go1, fun H' => ∃ p5 h5 bw bv, iv1.ok h5 = true ∧ After p4 (hole H4 D) p5 (hole H' D) ∧ Sim B (D :: F) p5 h5 H' ∧ H' D = some (.lst (av ++ bv)) ∧ RWs B (D :: F) p5 H' bw bv ∧ bv.length = bw.length ∧
            lcLoop iv1.ok (lcStep1 t1 s2 me) (iv1.items.drop (j + 1)) bw h5 = .ok ys h3, fun H' z => ⟨iv1.items.length - (j + 1), by omega, rfl, hlt1, z⟩, fun v1 H6 yy => ?_⟩
          obtain ⟨A6, S6, rx1⟩ := yl1 v1 H6 yy
          have nDp5 : D ∉ p5 := fun z => S5.dj D z List.mem_cons_self
          have rl4 : RL B (D :: F) p4 H4 s2 σ2 := rs2.after A4
          have rl1 : RL B (D :: F) p5 H6 (wipe s2 t1.slots) (L2.wipe σ2 t1.slots) := (((rl4.after A45).over hH).after A6).wipe t1.slots
          refine g_tg et1 rx1 rl1 fun σ3 rs3 w3 => ⟨by rw [w3 t1.slots fun i hi => hi]; exact wipe_wipe, ?_⟩
          dsimp only
          rw [if_pos rfl]
          refine ⟨D, p5, s3, h6, S6, rs3, Outc.of_eq ey1 fun p7 H7 u7 A7 S7 ru => ⟨av ++ bv, (A6.trans A7).keep D _ hD5 nDp5, ?_, p7, h7, bw ++ [y1], bv ++ [u7], ok7, ?_, S7.over, ?_, ?_, by simp [hbl], e6⟩⟩
          · have z : (bw ++ [y1]).length ≤ ys.length := hlen
            rw [List.length_append] at z ⊢
            rw [← ra.length, hbl]
            simp at z
            omega
          · rw [hole_upd]; exact A5.trans (A6.trans A7).hole2
          · rw [upd_same, List.append_assoc]
          · exact ((rb.after (A6.trans A7)).append (RWs.cons ru RWs.nil)).over over_k
end
end Vm

/-! VmDict: dict displays. -/
namespace Vm
open PySem PySem.Spec PyProof.Rows L2

section
variable {X : Cx} {pins : List (Addr × Obj)} {σ : L2.St} {H : Hp} {s : Shared} {E : Value → Shared → Prop} {a : Addr}
theorem d_dictSetA {y v : V} {u r : Value} {H' : Hp} {Q : Unit → Shared → Prop} (hu : X.A.units + 1 < cLine) (I : L2.Inv X pins σ H s) (g : DPut H a y v H') (ry : RelV y u) (rv : RelV v r) (h : ∀ s', L2.Inv X pins σ H' s' → Q () s') :
    wpAny (model X.prog X.w) X.A (dictSet a u r) Q E s := by
  rcases g with ⟨kvs, k, e, ey, l, eH⟩ | ⟨kvs, k, b, e, ey, eb, l, eH⟩
  · subst ey eH
    exact d_dictSet I e l ry rv h
  · subst ey eH
    cases (show u = Value.ref b from ry)
    obtain ⟨z, hd, xs, rel, dd⟩ := dt_of I.hok e
    have hz : xs.length ≤ sizeLine := by rw [← Paired.length rel]; exact z
    have hl : (putK kvs k v).length ≤ sizeLine := by have := length_putK kvs k v; omega
    have hr : (tupleKind (mixKind X.prog X.w)).room X.A := by show X.A.units < cLine; omega
    refine wpAny_dictSet_heap (hsz := hz) hr (key_of I.hok eb) dd fun h' dd' hs => h _ ?_
    obtain ⟨q, es, ep, hq, h2, h3, h4, _, h5⟩ := dd'
    refine d_write I (by rw [e]; exact True.intro) hs ⟨q, hq⟩ ⟨hl, hd, _, (rel.put k eb rv).keeps fun c ys ec => ?_, q, es, ep, hq, h2, h3, h4, h5⟩
    rw [upd_ne (ne_of ec e (fun z => nomatch z))]
    exact ec
def puts (a : Addr) : List (V × V) → Hp → (Hp → Prop) → Prop
  | [], H, Q => Q H
  | (y, v) :: r, H, Q => ∃ H', DPut H a y v H' ∧ puts a r H' Q
theorem putsAll (hu : X.A.units + 1 < cLine) : ∀ {ps : List (V × V)} {ws : List (Value × Value)} {H : Hp} {s : Shared} {Q : Hp → Prop}, L2.Inv X pins σ H s → VV ps ws → puts a ps H Q →
    wpAny (model X.prog X.w) X.A (forIn ws PUnit.unit fun (x : Value × Value) (_ : PUnit) => (do dictSet a x.1 x.2; pure (ForInStep.yield PUnit.unit) : Sem (ForInStep PUnit))) (fun _ s' => ∃ H', L2.Inv X pins σ H' s' ∧ Q H') E s
  | [], _, H, s, Q, I, r, q => by
    cases r
    rw [List.forIn_nil]
    exact wpAny_pure ⟨H, I, q⟩
  | (y, v) :: ps, _, H, s, Q, I, r, q => by
    cases r with
    | @cons _ b _ ws h t =>
      obtain ⟨H', g, q⟩ := q
      rw [List.forIn_cons]
      exact wpAny_bind (wpAny_bind (d_dictSetA hu I g h.1 h.2 fun s' I' => wpAny_pure (putsAll hu I' t q)))
/-- a display: the new dict stands empty while the pairs are made -/
def tDispA (ob : HO) (trs : List (TE × TE)) : TE := fun σ H Q => ∀ p, H p = none → tPairs trs σ (upd H p ob) fun ps H2 => puts p ps H2 fun H3 => Q (.ref p) H3
theorem pe_dispA {pos : Pos} {keys : List (Option Expr)} {values : List Expr} {trs : List (TE × TE)} {ob : HO} (hob : ob = .dK [] ∨ ob = .dT []) (hu : X.A.units + 1 < cLine) (h : PPs X pos keys values trs) (hall : keys.all (·.isSome) = true) (hl : keys.length = values.length) (h0 : keys ≠ [])
    (h15 : keys.length ≤ 15) : PE X (.Dict keys values pos) (tDispA ob trs) := by
  refine ⟨fun pins s σ H Q I q => ?_⟩
  have hn := I.hok.fresh (Nat.le_refl s.heap.objs.size)
  have I1 : L2.Inv X pins σ (upd H s.heap.objs.size ob) { s with heap := s.heap.push { cls := .type "dict", data := .dict #[] } } := by
    rcases hob with e | e
    · subst e
      exact I.laid (a := s.heap.objs.size) (o := .dK []) (t' := s.toks) (fun _ _ q => Heap.get?_push_of_some _ q) (Nat.le_refl _) (dk_empty s.heap I.big)
    · subst e
      exact I.laid (a := s.heap.objs.size) (o := .dT []) (t' := s.toks) (fun _ _ q => Heap.get?_push_of_some _ q) (Nat.le_refl _) (dt_empty s.heap I.big)
  have hn2 := pairTrees_length keys values X.env pos hall hl
  have hne : pairTrees keys values X.env pos ≠ [] := fun he => by
    rw [he] at hn2
    exact h0 (List.length_eq_zero_iff.mp hn2.symm)
  rw [arm_eval_Dict, zip_pairTrees keys values X.env pos hall hl, dictDisplay_pairs _ hne (by omega)]
  refine wpAny_bind (wpAny_standAt (wpAny_bind ?_))
  unfold subDict
  refine wpAny_bind (wpAny_alloc ?_)
  refine wpAny_bind (wpAny_holding ?_)
  rw [if_pos (by omega)]
  refine wpAny_bind (thn (h.run pins _ σ _ _ I1 (q _ hn)) fun ws s2 ⟨ps, H2, I2, rel, q2⟩ => ?_)
  refine wpAny_holding (wpAny_bind (thn (putsAll hu I2 rel q2) fun _ s3 ⟨H3, I3, q3⟩ => ?_))
  exact wpAny_pure (wpAny_pure (wpAny_pure ⟨.ref s.heap.objs.size, H3, I3, rfl, q3⟩))
end

section
variable {B : Base} {F p p' : List Addr} {H H' : Hp} {h : VH} {D : Addr} {E : XK} {X : Cx} {k : Nat} {sc : Scope} {N st : List Str}
def flat : List (V × V) → List V
  | [] => []
  | (x, y) :: r => x :: y :: flat r
def dMs : List ((VS → VH → R W) × (VS → VH → R W)) → VS → VH → R (List W)
  | [], _, h => .ok [] h
  | (mk, mv) :: r, s, h => (mk s h).bind fun x h1 => ((mv s h1).bind fun y h2 => (dMs r s h2).bind fun xs h3 => .ok (y :: xs) h3).bind fun ys h4 => .ok (x :: ys) h4
def dTr (B : Base) (F : List Addr) (E : XK) : List ((VS → VH → R W) × (VS → VH → R W)) → List (TE × TE)
  | [] => []
  | (mk, mv) :: r => (fun σ H Q => ∃ D, tE B (D :: F) E mk σ H Q, fun σ H Q => ∃ D, tE B (D :: F) E mv σ H Q) :: dTr B F E r
theorem pairs_read : ∀ {ds : List ((VS → VH → R W) × (VS → VH → R W))} {σ : L2.St} {H : Hp} {p : List Addr} {s : VS} {h : VH} {T : List V → Hp → Prop}, Sim B (D :: F) p h H → RL B (D :: F) p H s σ →
    Outc B (D :: F) (fun p H ws vs => RWs B (D :: F) p H ws vs) E p H (dMs ds s h) T → tPairs (dTr B F E ds) σ H fun ps H' => T (flat ps) H'
  | [], σ, H, p, s, h, T, S, rs, o => Outc.done (a := ([] : List W)) (b := ([] : List V)) o S RWs.nil
  | (mk, mv) :: r, σ, H, p, s, h, T, S, rs, o => by
    refine ⟨D, p, s, h, S, rs, Outc.bind o fun x h1 p1 H1 v A1 S1 r1 o1 => ?_⟩
    have o2 : Outc B (D :: F) (fun p H ws vs => RWs B (D :: F) p H ws vs) E p1 H1 ((mv s h1).bind fun y h2 => (dMs r s h2).bind fun xs h3 => .ok (x :: y :: xs) h3) T := by
      cases e1 : mv s h1 with
      | bad => rw [e1] at o1; exact (o1 : False).elim
      | exc _ _ => rw [e1] at o1; exact o1
      | ok y h2 =>
        rw [e1] at o1
        simp only [Vm.R.bind_ok] at o1 ⊢
        cases e2 : dMs r s h2 with
        | bad => rw [e2] at o1; exact (o1 : False).elim
        | exc _ _ => rw [e2] at o1; exact o1
        | ok xs h3 => rw [e2] at o1; exact o1
    refine ⟨D, p1, s, h1, S1, rs.after A1, Outc.bind o2 fun y h2 p2 H2 u A2 S2 r2 o3 => ?_⟩
    have z := pairs_read (ds := r) (σ := σ) (T := fun vs H' => T (v :: u :: vs) H') S2 ((rs.after A1).after A2) (Outc.bind o3 fun xs h3 p3 H3 vs A3 S3 r3 o4 => Outc.done o4 S3 (RWs.cons ((r1.after A2).after A3) (RWs.cons (r2.after A3) r3)))
    exact z
def RPs (B : Base) (F p : List Addr) (H : Hp) : List (W × W) → List (V × V) → Prop
  | [], [] => True
  | a :: as, b :: bs => RW B F p H a.1 b.1 ∧ RW B F p H a.2 b.2 ∧ RPs B F p H as bs
  | _, _ => False
theorem prs_rel : ∀ {ws : List W} {prs : List (W × W)} {ps : List (V × V)}, prsOf ws = some prs → RWs B F p H ws (flat ps) → RPs B F p H prs ps
  | [], prs, ps, e, r => by
    cases e
    simp only [RWs] at r
    cases ps with
    | nil => trivial
    | cons b bs => simp [flat] at r
  | [_], prs, ps, e, r => by simp [prsOf] at e
  | x :: y :: ws, prs, ps, e, r => by
    simp only [prsOf, Option.map_eq_some_iff] at e
    obtain ⟨q, e1, rfl⟩ := e
    simp only [RWs] at r
    obtain ⟨v, r1, e2, rx, u, r2, rfl, ry, rr⟩ := r
    cases ps with
    | nil => simp [flat] at e2
    | cons b bs =>
      simp only [flat, List.cons.injEq] at e2
      obtain ⟨rfl, rfl, rfl⟩ := e2
      exact ⟨rx, ry, prs_rel e1 rr⟩
theorem RPs.over (k : ∀ b o, b ∉ F → H b = some o → H' b = some o) : ∀ {prs : List (W × W)} {ps : List (V × V)}, RPs B F p H prs ps → RPs B F p H' prs ps
  | [], [], r => trivial
  | a :: as, b :: bs, r => ⟨r.1.over k, r.2.1.over k, RPs.over k r.2.2⟩
theorem RK.over (k : ∀ b o, b ∉ F → H b = some o → H' b = some o) {κ : Type} {kvs : List (κ × W)} {ws : List (κ × V)} (r : RK B F p H kvs ws) : RK B F p H' kvs ws := ⟨r.1, r.2.over k⟩
theorem kput_len {κ α : Type} [DecidableEq κ] (kvs : List (κ × α)) (k : κ) (v : α) : (kput kvs k v).length ≤ kvs.length + 1 := by
  unfold kput
  split <;> simp
theorem puts_dk : ∀ {prs : List (W × W)} {ps : List (V × V)} {l : List (Key × W)} {kw : List (Key × W)} {kv : List (Key × V)} {H : Hp} {Q : Hp → Prop}, RPs B (D :: F) p H prs ps → kvs1 prs = some l → H D = some (.dK kv) → RK B (D :: F) p H kw kv →
    kw.length + prs.length ≤ sizeLine → (∀ kv', RK B (D :: F) p (upd H D (.dK kv')) (l.foldl (fun acc p => kput acc p.1 p.2) kw) kv' → Q (upd H D (.dK kv'))) → puts D ps H Q
  | [], [], l, kw, kv, H, Q, r, e, hD, rk, hl, q => by
    cases e
    have z := q kv (rk.over over_k)
    have e1 : upd H D (.dK kv) = H := by
      funext b
      by_cases q : b = D
      · subst q; rw [upd_same, hD]
      · rw [upd_ne q]
    rw [e1] at z
    exact z
  | [], _ :: _, _, _, _, _, _, r, _, _, _, _, _ => r.elim
  | _ :: _, [], _, _, _, _, _, r, _, _, _, _, _ => r.elim
  | a :: as, b :: bs, l, kw, kv, H, Q, r, e, hD, rk, hl, q => by
    obtain ⟨r1, r2, r3⟩ := r
    simp only [kvs1] at e
    split at e
    · rename_i k ks e1 e2
      cases e
      obtain ⟨b1, b2⟩ := b
      have ek := keyOf_rel r1 e1
      have ek : b1 = kV k := ek
      subst ek
      simp only [List.length_cons] at hl
      have hkv : kv.length = kw.length := by
        have z := congrArg List.length rk.1
        simpa using z
      refine ⟨_, DPut.k hD (by omega), puts_dk (r3.over over_k) e2 upd_same ((kput_rel k r2 rk).over over_k) (by have := kput_len kw k a.2; omega) fun kv' rk' => ?_⟩
      rw [upd_upd] at rk' ⊢
      exact q kv' rk'
    · cases e
theorem puts_dt : ∀ {prs : List (W × W)} {ps : List (V × V)} {l : List (List Key × W)} {kw : List (List Key × W)} {kv : List (List Key × V)} {H : Hp} {Q : Hp → Prop}, RPs B (D :: F) p H prs ps → tkvs1 prs = some l → H D = some (.dT kv) → RK B (D :: F) p H kw kv →
    kw.length + prs.length ≤ sizeLine → (∀ kv', RK B (D :: F) p (upd H D (.dT kv')) (l.foldl (fun acc p => kput acc p.1 p.2) kw) kv' → Q (upd H D (.dT kv'))) → puts D ps H Q
  | [], [], l, kw, kv, H, Q, r, e, hD, rk, hl, q => by
    cases e
    have z := q kv (rk.over over_k)
    have e1 : upd H D (.dT kv) = H := by
      funext b
      by_cases q : b = D
      · subst q; rw [upd_same, hD]
      · rw [upd_ne q]
    rw [e1] at z
    exact z
  | [], _ :: _, _, _, _, _, _, r, _, _, _, _, _ => r.elim
  | _ :: _, [], _, _, _, _, _, r, _, _, _, _, _ => r.elim
  | a :: as, b :: bs, l, kw, kv, H, Q, r, e, hD, rk, hl, q => by
    obtain ⟨r1, r2, r3⟩ := r
    simp only [tkvs1] at e
    split at e
    · rename_i k ks e1 e2
      cases e
      obtain ⟨b1, b2⟩ := b
      obtain ⟨t, et, ht⟩ := tkeyOf_rel r1 e1
      have et : b1 = .ref t := et
      subst et
      simp only [List.length_cons] at hl
      have hkv : kv.length = kw.length := by
        have z := congrArg List.length rk.1
        simpa using z
      refine ⟨_, DPut.t hD ht (by omega), puts_dt (r3.over over_k) e2 upd_same ((kput_rel k r2 rk).over over_k) (by have := kput_len kw k a.2; omega) fun kv' rk' => ?_⟩
      rw [upd_upd] at rk' ⊢
      exact q kv' rk'
    · cases e
theorem prs_len : ∀ {prs : List (W × W)} {l : List (Key × W)}, kvs1 prs = some l → l.length = prs.length
  | [], l, e => by cases e; rfl
  | a :: as, l, e => by
    simp only [kvs1] at e
    split at e
    · rename_i k ks e1 e2
      cases e
      simp [prs_len e2]
    · cases e
theorem tprs_len : ∀ {prs : List (W × W)} {l : List (List Key × W)}, tkvs1 prs = some l → l.length = prs.length
  | [], l, e => by cases e; rfl
  | a :: as, l, e => by
    simp only [tkvs1] at e
    split at e
    · rename_i k ks e1 e2
      cases e
      simp [tprs_len e2]
    · cases e
theorem sz15 {n : Nat} (h : n ≤ 15) : 0 + n ≤ sizeLine := by rw [sizeLine_eq]; omega
def unflat : List V → List (V × V)
  | x :: y :: r => (x, y) :: unflat r
  | _ => []
theorem unflat_flat : ∀ ps : List (V × V), unflat (flat ps) = ps
  | [] => rfl
  | (x, y) :: r => by simp [flat, unflat, unflat_flat r]
theorem even_flat : ∀ {n : Nat} {vs : List V}, vs.length = 2 * n → ∃ ps, vs = flat ps
  | 0, [], _ => ⟨[], rfl⟩
  | 0, _ :: _, h => by simp at h
  | n + 1, [], h => by simp at h
  | n + 1, [_], h => by simp at h; omega
  | n + 1, x :: y :: r, h => by
    obtain ⟨ps, e⟩ := even_flat (n := n) (vs := r) (by simp at h; omega)
    exact ⟨(x, y) :: ps, by rw [e]; rfl⟩
theorem dMs_flat : ∀ {ds : List ((VS → VH → R W) × (VS → VH → R W))} {s : VS} {h h1 : VH} {ws : List W}, dMs ds s h = .ok ws h1 → ws.length = 2 * ds.length
  | [], s, h, h1, ws, e => by cases e; rfl
  | (mk, mv) :: r, s, h, h1, ws, e => by
    unfold dMs at e
    cases e1 : mk s h with
    | bad => rw [e1] at e; cases e
    | exc _ _ => rw [e1] at e; cases e
    | ok x h2 =>
      rw [e1] at e
      simp only [Vm.R.bind_ok] at e
      cases e2 : mv s h2 with
      | bad => rw [e2] at e; cases e
      | exc _ _ => rw [e2] at e; cases e
      | ok y h3 =>
        rw [e2] at e
        simp only [Vm.R.bind_ok] at e
        cases e3 : dMs r s h3 with
        | bad => rw [e3] at e; cases e
        | exc _ _ => rw [e3] at e; cases e
        | ok xs h4 =>
          rw [e3] at e
          cases e
          simp [dMs_flat e3]
          omega
theorem disp_read {ds : List ((VS → VH → R W) × (VS → VH → R W))} {ob : HO} {g : List W → Option Cell} {σ : L2.St} {H : Hp} {Q : VK}
    (hg : ∀ {D : Addr} {F p : List Addr} {H : Hp} {ws : List W} {ps : List (V × V)} {c : Cell} {Q : Hp → Prop}, g ws = some c → RWs B (D :: F) p H ws (flat ps) → H D = some ob → (∀ o', RC B (D :: F) p (upd H D o') c o' → Q (upd H D o')) → puts D ps H Q)
    (q : tM B F E (fun s h => (dMs ds s h).bind fun ws h1 => .of (g ws) h1) σ H Q) : tDispA ob (dTr B F E ds) σ H Q := by
  obtain ⟨p, s, h, S, rs, o⟩ := q
  intro D hD
  have hDF : D ∉ F := (S.fresh hD).2
  dsimp only at o
  have hT : (fun ps H2 => puts D ps H2 fun H3 => Q (.ref D) H3) = fun ps H2 => puts D (unflat (flat ps)) H2 fun H3 => Q (.ref D) H3 := by
    funext ps H2
    rw [unflat_flat]
  rw [hT]
  refine pairs_read (ds := ds) (E := E) (F := F) (T := fun vs H2 => puts D (unflat vs) H2 fun H3 => Q (.ref D) H3) (S.forb hD (o := ob)) ((rs.forb hD).after (After.laid hD)) ?_
  cases em : dMs ds s h with
  | bad => rw [em] at o; exact (o : False).elim
  | exc x h1 =>
    rw [em] at o
    exact Outc.forb (rel := fun p H c o => RC B F p H c o) (r := R.exc x h1) (Outc.after o (After.laid hD)) hDF (rel' := fun _ _ _ _ => False) (fun _ _ _ _ z => z.elim)
  | ok ws h1 =>
    rw [em, Vm.R.bind_ok] at o
    obtain ⟨c, ec, o⟩ := Outc.of_ o
    intro p2 H2 vs A2 S2 r2
    have hev := dMs_flat em
    obtain ⟨ps, rfl⟩ : ∃ ps, vs = flat ps := even_flat (by rw [← r2.length]; exact hev)
    show puts D (unflat (flat ps)) H2 _
    rw [unflat_flat]
    have nD : D ∉ p := (S.fresh hD).1
    have hD2 : H2 D = some ob := A2.keep D _ upd_same nD
    refine hg ec r2 hD2 fun o' rc => ?_
    have A3 : After p H p2 (hole H2 D) := ((After.laid (o := ob) hD).trans A2).hole hD
    have z := o p2 (hole H2 D) o' A3 (S2.off hDF hole_k) (rc.off fun b u n e => by rw [upd_ne n] at e; rw [hole_ne n]; exact e) D (hole_at _ _)
    have e2 : upd (hole H2 D) D o' = upd H2 D o' := by
      funext b
      by_cases q : b = D
      · subst q; rw [upd_same, upd_same]
      · rw [upd_ne q, upd_ne q, hole_ne q]
    rw [e2] at z
    exact z
end
end Vm

/-! VmCall: calls of built-ins, of methods, of the text's defs. -/
namespace Vm
open PySem PySem.Spec PyProof.Rows L2

def notStars : List Expr → Bool
  | [] => true
  | e :: es => notStar e && notStars es
theorem star_all : ∀ {es : List Expr} {env : Env}, notStars es = true → starEach es env = es.map fun e => (false, eval e env)
  | [], _, _ => rfl
  | e :: es, env, h => by
    simp only [notStars, Bool.and_eq_true] at h
    rw [star_cons h.1, star_all h.2]; rfl
theorem back_any {es : List Expr} {env : Env} {pos : Pos} (h : notStars es = true) : (backTo pos (starEach es env)).any (·.1) = false := by
  rw [star_all h]
  unfold backTo
  induction es with
  | nil => rfl
  | cons e es ih =>
    simp only [notStars, Bool.and_eq_true] at h
    simp only [List.map_cons, List.any_cons, Bool.false_or]
    exact ih h.2
theorem back_all {es : List Expr} {env : Env} {pos : Pos} (h : notStars es = true) : (backTo pos (starEach es env)).all (fun x => !x.1) = true := by
  rw [star_all h]
  unfold backTo
  induction es with
  | nil => rfl
  | cons e es ih =>
    simp only [notStars, Bool.and_eq_true] at h
    simp only [List.map_cons, List.all_cons, Bool.not_false, Bool.true_and]
    exact ih h.2
/-- no `super()` -/
def notSup (e : Expr) : Bool := match e with
  | .Call (.Name _ _) [] [] _ => false
  | _ => true
theorem base_of {o : Expr} {m : Str} {env : Env} (h : notSup o = true) : attributeBase o m env (eval o env) = eval o env := by
  unfold attributeBase
  split
  · simp [notSup] at h
  · rfl

section
variable {B : Base} {F p p' : List Addr} {H H' : Hp} {h : VH} {D : Addr} {E : XK} {X : Cx} {k : Nat} {sc : Scope} {N st : List Str}
theorem e_cb {r : List V → Hp → VK → Prop} {g : VH → List W → Option W} (hs : SndC B r g) {e : Expr} {t : TE} {ms : VS → VH → R (List W)} (he : PE X e t) (ht : ∀ σ H Q, tCB r (tA B F E ms) σ H Q → t σ H Q) :
    PE X e (tE B F E fun s h => (ms s h).bind fun ws h1 => .of (g h1 ws) h1) := by
  refine PE_imp he fun σ H Q ⟨p, s, h1, S, rs, o⟩ => ht σ H Q ⟨p, s, h1, S, rs, Outc.bind o fun ws h2 p2 H2 vs A2 S2 r2 o2 => ?_⟩
  obtain ⟨w, e, o2⟩ := Outc.of_ o2
  exact hs F p2 h2 H2 ws w vs Q S2 r2 e fun p' H' z A S' r => o2 p' H' z A S' r
theorem e_blt (G : Good B sc N st E k X) (Fr : Free B) {b : Blt} {e : Expr} {es : List Expr} {p1 pos : Pos} {ms : VS → VH → R (List W)} (hn : notStars (e :: es) = true) (hg : isGlo sc b.name = true) (hs : PA X (e :: es) (tA B F E ms)) :
    PE X (.Call (.Name b.name p1) (e :: es) [] pos) (tE B F E fun s h => (ms s h).bind fun ws h1 => .of (bltW b h1 ws) h1) := by
  have hu := G.units
  have hn' := hn
  simp only [notStars, Bool.and_eq_true] at hn'
  have a1 := star_cons (e := e) (es := es) (env := X.env) hn'.1
  have a2 := back_any (env := X.env) (pos := pos) hn'.2
  have hm : X.mg b.name = none := by rw [G.hm]; exact Fr.blt b
  cases b with
  | len => exact e_cb (by rw [G.hK]; exact snd_len) (pe_callB call_lenAll (G.glob hg) hm (by decide +kernel) hs (he := a1) (hpl := a2)) fun _ _ _ q => q
  | abs => exact e_cb snd_abs (pe_callB call_abs (G.glob hg) hm (by decide +kernel) hs (he := a1) (hpl := a2)) fun _ _ _ q => q
  | int => exact e_cb snd_int1 (pe_callTy call_int1 (G.glob hg) hm (by decide +kernel) hs (he := a1) (hpl := a2)) fun _ _ _ q => q
  | sum => exact e_cb (by rw [G.hK]; exact snd_sum) (pe_callB (cr_sum G.calm) (G.glob hg) hm (by decide +kernel) hs (he := a1) (hpl := a2)) fun _ _ _ q => q
  | all => exact e_cb (by rw [G.hK]; exact snd_all) (pe_callB (cr_all G.calm) (G.glob hg) hm (by decide +kernel) hs (he := a1) (hpl := a2)) fun _ _ _ q => q
  | any => exact e_cb (by rw [G.hK]; exact snd_any) (pe_callB (cr_any G.calm) (G.glob hg) hm (by decide +kernel) hs (he := a1) (hpl := a2)) fun _ _ _ q => q
  | tuple => exact e_cb (by rw [G.hK]; exact snd_tup) (pe_callTy call_tuple_of (G.glob hg) hm (by decide +kernel) hs (he := a1) (hpl := a2)) fun _ _ _ q => q
  | repr => exact e_cb (by rw [G.hK]; exact snd_repr) (pe_callB (call_reprD G.gd (by omega)) (G.glob hg) hm (by decide +kernel) hs (he := a1) (hpl := a2)) fun _ _ _ q => q

/-! ### methods -/
def SndM (B : Base) (r : V → List V → Hp → VK → Prop) (g : VH → W → List W → Option (W × VH)) : Prop :=
  ∀ (F p : List Addr) (h h' : VH) (H : Hp) (x w : W) (xs : List W) (v : V) (vs : List V) (Q : VK), Sim B F p h H → RW B F p H x v → RWs B F p H xs vs → g h x xs = some (w, h') →
    (∀ p' H' z, After p H p' H' → Sim B F p' h' H' → RW B F p' H' w z → Q z H') → r v vs H Q
theorem snd_append : SndM B rAppend appF := by
  intro F p h h' H x w xs v vs Q S rx rs e q
  unfold appF at e
  split at e
  · rename_i n y
    split at e
    · rename_i ys hc
      split at e
      · rename_i hl
        cases e
        simp only [RW] at rx
        obtain ⟨a, rfl, ha⟩ := rx
        obtain ⟨u, rfl, ru⟩ := rs.one
        obtain ⟨ob, ho, us, rfl, r⟩ := S.cel _ _ a hc ha
        have hm : a ∈ p := List.mem_of_getElem? ha
        refine ⟨a, us, u, rfl, rfl, ho, by rw [← r.length]; exact hl, q p _ _ (After.write ho hm) (S.write ho ha ⟨_, rfl, (r.append (RWs.cons ru RWs.nil)).after (After.write ho hm)⟩) (by simp [RW])⟩
      · cases e
    · cases e
  · cases e
theorem ite_some_' {α : Type} {c : Prop} [Decidable c] {a : Option α} {b : α} (e : (if c then a else none) = some b) : c ∧ a = some b := by
  split at e
  · exact ⟨‹_›, e⟩
  · cases e
theorem snd_pop0 : SndM B (fun v vs H Q => vs = [] ∧ rPop v vs H Q) (fun h x xs => if xs = [] then popF h x xs else none) := by
  intro F p h h' H x w xs v vs Q S rx rs e q
  obtain ⟨e0, e⟩ := ite_some_' e
  subst e0
  have ev := rs.nil_
  subst ev
  refine ⟨rfl, ?_⟩
  cases x <;> simp only [popF, reduceCtorEq] at e
  · rename_i n
    split at e
    · rename_i ys hc
      obtain ⟨y, e1, e2⟩ := Option.map_eq_some_iff.mp e
      cases e2
      simp only [RW] at rx
      obtain ⟨a, rfl, ha⟩ := rx
      obtain ⟨ob, ho, us, rfl, r⟩ := S.cel _ _ a hc ha
      have hm : a ∈ p := List.mem_of_getElem? ha
      obtain ⟨z, hz, rz⟩ := r.get e1
      exact ⟨a, us, z, rfl, rfl, ho, by rw [← r.length]; exact hz, q p _ _ (After.write ho hm) (S.write ho ha ⟨_, rfl, r.dropLast.after (After.write ho hm)⟩) (rz.after (After.write ho hm))⟩
    · cases e
theorem snd_pop1 : SndM B rPopAt (fun h x xs => if xs = [] then none else popF h x xs) := by
  intro F p h h' H x w xs v vs Q S rx rs e q
  dsimp only at e
  split at e
  · cases e
  unfold popF at e
  split at e
  · contradiction
  · rename_i n i _
    split at e
    · rename_i ys hc
      split at e
      · rename_i hl
        obtain ⟨kk, e1, e⟩ := bind_some_ e
        obtain ⟨y, e2, e3⟩ := Option.map_eq_some_iff.mp e
        cases e3
        simp only [RW] at rx
        obtain ⟨a, rfl, ha⟩ := rx
        obtain ⟨u, rfl, ru⟩ := rs.one
        have eu := ru.int_
        subst eu
        obtain ⟨ob, ho, us, rfl, r⟩ := S.cel _ _ a hc ha
        have hm : a ∈ p := List.mem_of_getElem? ha
        obtain ⟨z, hz, rz⟩ := r.get e2
        exact ⟨a, us, i, kk, z, rfl, rfl, ho, hl.1, hl.2, by rw [← r.length]; exact e1, hz, q p _ _ (After.write ho hm) (S.write ho ha ⟨_, rfl, (r.erase kk).after (After.write ho hm)⟩) (rz.after (After.write ho hm))⟩
      · cases e
    · cases e
  · cases e
theorem isLst_rel (S : Sim B F p h H) {x : W} {v : V} (r : RW B F p H x v) (e : (asLst h x).isSome = true) : tyV X.K "list" v H := by
  obtain ⟨xs, e1⟩ := Option.isSome_iff_exists.mp e
  obtain ⟨a, vs, rfl, ha, _⟩ := asLst_rel S r e1
  exact .inl ⟨rfl, vs, SqL.of ha⟩
theorem isD_rel (S : Sim B F p h H) {x : W} {v : V} (r : RW B F p H x v) (e : isDict h x = true) : ∃ a, v = .ref a ∧ IsD H a := by
  unfold isDict at e
  split at e
  · rename_i n
    simp only [RW] at r
    obtain ⟨a, rfl, ha⟩ := r
    refine ⟨a, rfl, ?_⟩
    split at e
    · rename_i kvs hc
      rcases unlock_map hc with hc | ⟨d, hc, _⟩
      · obtain ⟨ob, ho, ws, rfl, _⟩ := S.cel _ _ a hc ha
        exact .inl ⟨ws, .inl ho⟩
      · obtain ⟨ob, ho, z⟩ := S.cel _ _ a hc ha
        exact z.elim
    · rename_i kvs hc
      rcases unlock_map hc with hc | ⟨d, hc, _⟩
      · obtain ⟨ob, ho, ws, rfl, _⟩ := S.cel _ _ a hc ha
        exact .inr ⟨ws, .inl ho⟩
      · obtain ⟨ob, ho, z⟩ := S.cel _ _ a hc ha
        exact z.elim
    · cases e
  · simp only [RW] at r
    obtain ⟨a, kvs, rfl, _, _, ha, _⟩ := r
    exact ⟨a, rfl, .inl ⟨kvs, .inl ha⟩⟩
  · cases e
theorem e_bm {r : V → List V → Hp → VK → Prop} {g : VH → W → List W → Option (W × VH)} {m : Mth} {e : Expr} {t : TE} {mo : VS → VH → R W} {ms : VS → VH → R (List W)} (hl : ∀ h x, mthOk m h x = (asLst h x).isSome)
    (hs : SndM B r g) (hg : ∀ s h ws h1, ms s h = .ok ws h1 → ∀ h2 x, mthW m h2 x ws = g h2 x ws) (he : PE X e t) (ht : ∀ σ H Q, tBM X.K "list" r (tE B F E mo) (tA B F E ms) σ H Q → t σ H Q) : PE X e (tE B F E (mthRun m mo ms)) := by
  refine PE_imp he fun σ H Q ⟨p, s, h1, S, rs, o⟩ => ht σ H Q ?_
  unfold mthRun at o
  refine ⟨p, s, h1, S, rs, Outc.bind o fun x h2 p2 H2 v A2 S2 r2 o2 => ?_⟩
  by_cases hk : mthOk m h2 x = true
  · rw [if_pos hk] at o2
    refine ⟨isLst_rel S2 r2 (by rw [← hl]; exact hk), p2, s, h2, S2, rs.after A2, ?_⟩
    cases em : ms s h2 with
    | bad => rw [em] at o2; exact (o2 : False).elim
    | exc x h1 => rw [em] at o2; exact o2
    | ok ws h3 =>
      rw [em, Vm.R.bind_ok] at o2
      intro p3 H3 us A3 S3 r3
      cases ew : mthW m h3 x ws with
      | none => rw [ew] at o2; exact (o2 : False).elim
      | some wh =>
        obtain ⟨w, h4⟩ := wh
        rw [ew] at o2
        rw [hg _ _ _ _ em] at ew
        exact hs F p3 h3 h4 H3 x w ws v us Q S3 (r2.after A3) r3 ew fun p' H' z A S' r => o2 p' H' z (A3.trans A) S' r
  · rw [if_neg hk] at o2
    exact (o2 : False).elim
theorem few_ok {e : Expr} {es : List Expr} {env : Env} {pos : Pos} (h : notStars (e :: es) = true) (hl : (e :: es).length < 30) :
    ((backTo pos (starEach (e :: es) env)).all (fun x => !x.1) && (backToKw pos (keywordEach [] env)).all (fun x => x.1.isSome) && decide ((e :: es).length + ([] : List Keyword).length + (if ([] : List Keyword).isEmpty then 0 else 1) < 30)) = true := by
  rw [back_all h]
  have : decide ((e :: es).length + ([] : List Keyword).length + (if ([] : List Keyword).isEmpty then 0 else 1) < 30) = true := by
    simp only [decide_eq_true_eq]
    simpa using hl
  rw [this]
  rfl
theorem m_append {o e : Expr} {apos cpos : Pos} {mo : VS → VH → R W} {m1 : VS → VH → R W} (ho : PE X o (tE B F E mo)) (he : PE X e (tE B F E m1)) (hn : notStars [e] = true) (hsup : notSup o = true) (hline : (apos.endLine == cpos.line) = true) :
    PE X (.Call (.Attribute o "append" apos) [e] [] cpos) (tE B F E (mthRun .append mo fun s h => (m1 s h).bind fun x h1 => .ok [x] h1)) := by
  have hn1 : notStar e = true := by simpa [notStars] using hn
  exact e_bm (fun _ _ => rfl) snd_append (fun _ _ _ _ _ _ _ => rfl) (pe_bm PySem.F.plainAttrs_list PySem.F.slot_list_append PySem.F.type_list_append mt_append ho (a_one hn1 he) (hbase := base_of hsup) (hfew := few_ok hn (by simp)) (hline := hline) (hs := star_cons hn1) (hplain := rfl)) fun _ _ _ q => q
theorem m_pop1 {o e : Expr} {apos cpos : Pos} {mo : VS → VH → R W} {m1 : VS → VH → R W} (ho : PE X o (tE B F E mo)) (he : PE X e (tE B F E m1)) (hn : notStars [e] = true) (hsup : notSup o = true) (hline : (apos.endLine == cpos.line) = true) :
    PE X (.Call (.Attribute o "pop" apos) [e] [] cpos) (tE B F E (mthRun .pop mo fun s h => (m1 s h).bind fun x h1 => .ok [x] h1)) := by
  have hn1 : notStar e = true := by simpa [notStars] using hn
  refine e_bm (fun _ _ => rfl) snd_pop1 (fun s h ws h1 em h2 x => ?_) (pe_bm PySem.F.plainAttrs_list PySem.F.slot_list_pop PySem.F.type_list_pop mt_popAt ho (a_one hn1 he) (hbase := base_of hsup) (hfew := few_ok hn (by simp)) (hline := hline) (hs := star_cons hn1) (hplain := rfl)) fun _ _ _ q => q
  cases e1 : m1 s h with
  | bad => rw [e1] at em; cases em
  | exc _ _ => rw [e1] at em; cases em
  | ok y h3 => rw [e1] at em; cases em; rfl
theorem m_pop0 {o : Expr} {apos cpos : Pos} {mo : VS → VH → R W} (ho : PE X o (tE B F E mo)) (hsup : notSup o = true) (hline : (apos.endLine == cpos.line) = true) :
    PE X (.Call (.Attribute o "pop" apos) [] [] cpos) (tE B F E (mthRun .pop mo fun _ h => .ok [] h)) := by
  refine PE_imp (pe_bm0 PySem.F.plainAttrs_list PySem.F.slot_list_pop PySem.F.type_list_pop mt_pop ho (hbase := base_of hsup) (hline := hline)) fun σ H Q ⟨p, s, h1, S, rs, o⟩ => ?_
  unfold mthRun at o
  refine ⟨p, s, h1, S, rs, Outc.bind o fun x h2 p2 H2 v A2 S2 r2 o2 => ?_⟩
  by_cases hk : mthOk .pop h2 x = true
  · rw [if_pos hk] at o2
    refine ⟨isLst_rel S2 r2 hk, ?_⟩
    rw [Vm.R.bind_ok] at o2
    cases ew : mthW .pop h2 x [] with
    | none => rw [ew] at o2; exact (o2 : False).elim
    | some wh =>
      obtain ⟨w, h4⟩ := wh
      rw [ew] at o2
      exact (snd_pop0 F p2 h2 h4 H2 x w [] v [] Q S2 r2 RWs.nil ew fun p' H' z A S' r => o2 p' H' z A S' r).2
  · rw [if_neg hk] at o2
    exact (o2 : False).elim
theorem RO.get {r : Option W} {z : Option V} {d : W} {u : V} (h : RO B F p H r z) (hd : RW B F p H d u) : RW B F p H (r.getD d) (z.getD u) := by
  cases r <;> cases z <;> first | exact hd | exact h | exact h.elim
theorem m_get1 (G : Good B sc N st E k X) {o e : Expr} {apos cpos : Pos} {mo : VS → VH → R W} {m1 : VS → VH → R W} (ho : PE X o (tE B F E mo)) (he : PE X e (tE B F E m1)) (hn : notStars [e] = true) (hsup : notSup o = true) (hline : (apos.endLine == cpos.line) = true) :
    PE X (.Call (.Attribute o "get" apos) [e] [] cpos) (tE B F E (mthRun .get mo fun s h => (m1 s h).bind fun x h1 => .ok [x] h1)) := by
  have hu := G.units
  refine PE_imp (pe_dget1 (by omega) ho he ⟨base_of hsup, few_ok hn (by simp), hline, by rw [star_all hn]; rfl⟩) fun σ H Q ⟨p, s, h1, S, rs, o⟩ => ?_
  unfold mthRun at o
  refine ⟨p, s, h1, S, rs, Outc.bind o fun x h2 p2 H2 v A2 S2 r2 o2 => ?_⟩
  by_cases hk : mthOk .get h2 x = true
  · rw [if_pos hk] at o2
    dsimp only at o2
    obtain ⟨a, rfl, hd⟩ := isD_rel S2 r2 hk
    refine ⟨a, rfl, hd, p2, s, h2, S2, rs.after A2, ?_⟩
    cases e1 : m1 s h2 with
    | bad => rw [e1] at o2; exact (o2 : False).elim
    | exc _ _ => rw [e1] at o2; exact o2
    | ok y h3 =>
      rw [e1] at o2
      simp only [Vm.R.bind_ok] at o2
      intro p3 H3 u A3 S3 r3
      cases ew : mthW .get h3 x [y] with
      | none => rw [ew] at o2; exact (o2 : False).elim
      | some wh =>
        obtain ⟨w, h4⟩ := wh
        rw [ew] at o2
        have ew : getF h3 x [y] = some (w, h4) := ew
        unfold getF at ew
        obtain ⟨r, e2, e3⟩ := Option.map_eq_some_iff.mp ew
        cases e3
        obtain ⟨a', z, ea, g, ro⟩ := dget_rel S3 (r2.after A3) r3 e2
        cases ea
        exact ⟨z, g, o2 p3 H3 _ A3 S3 (ro.get (by simp [RW]))⟩
  · rw [if_neg hk] at o2
    exact (o2 : False).elim
theorem m_get2 (G : Good B sc N st E k X) {o e e' : Expr} {apos cpos : Pos} {mo : VS → VH → R W} {m1 m2 : VS → VH → R W} (ho : PE X o (tE B F E mo)) (he : PE X e (tE B F E m1)) (he' : PE X e' (tE B F E m2)) (hn : notStars [e, e'] = true) (hsup : notSup o = true) (hline : (apos.endLine == cpos.line) = true) :
    PE X (.Call (.Attribute o "get" apos) [e, e'] [] cpos) (tE B F E (mthRun .get mo fun s h => (m1 s h).bind fun x h1 => (m2 s h1).bind fun y h2 => .ok [x, y] h2)) := by
  have hu := G.units
  refine PE_imp (pe_dget2 (by omega) ho he he' ⟨base_of hsup, few_ok hn (by simp), hline, by rw [star_all hn]; rfl⟩) fun σ H Q ⟨p, s, h1, S, rs, o⟩ => ?_
  unfold mthRun at o
  refine ⟨p, s, h1, S, rs, Outc.bind o fun x h2 p2 H2 v A2 S2 r2 o2 => ?_⟩
  by_cases hk : mthOk .get h2 x = true
  · rw [if_pos hk] at o2
    dsimp only at o2
    obtain ⟨a, rfl, hd⟩ := isD_rel S2 r2 hk
    refine ⟨a, rfl, hd, p2, s, h2, S2, rs.after A2, ?_⟩
    cases e1 : m1 s h2 with
    | bad => rw [e1] at o2; exact (o2 : False).elim
    | exc _ _ => rw [e1] at o2; exact o2
    | ok y h3 =>
      rw [e1] at o2
      simp only [Vm.R.bind_ok] at o2
      intro p3 H3 u A3 S3 r3
      refine ⟨p3, s, h3, S3, (rs.after A2).after A3, ?_⟩
      cases e4 : m2 s h3 with
      | bad => rw [e4] at o2; exact (o2 : False).elim
      | exc _ _ => rw [e4] at o2; exact Outc.after (r := R.exc _ _) (rel := RWr B F) o2 A3
      | ok y2 h5 =>
        rw [e4] at o2
        simp only [Vm.R.bind_ok] at o2
        intro p5 H5 u2 A5 S5 r5
        cases ew : mthW .get h5 x [y, y2] with
        | none => rw [ew] at o2; exact (o2 : False).elim
        | some wh =>
          obtain ⟨w, h4⟩ := wh
          rw [ew] at o2
          have ew : getF h5 x [y, y2] = some (w, h4) := ew
          unfold getF at ew
          obtain ⟨r, e2, e3⟩ := Option.map_eq_some_iff.mp ew
          cases e3
          obtain ⟨a', z, ea, g, ro⟩ := dget_rel S5 ((r2.after A3).after A5) (r3.after A5) e2
          cases ea
          exact ⟨z, g, o2 p5 H5 _ (A3.trans A5) S5 (ro.get r5)⟩
  · rw [if_neg hk] at o2
    exact (o2 : False).elim
end
end Vm

/-! VmFn: calls of the text's defs. -/
namespace Vm
open PySem PySem.Spec PyProof.Rows L2

/-- a def's promise, where no repr is under way -/
structure FnG (B : Base) (k : Nat) (f : Addr) (fd : FuncData) (ps : List Str) (sp : Sp) : Prop where
  len : ∀ vs H Q E, sp vs H Q E → vs.length = ps.length
  run : ∀ (A : Around) (outer : List Env) (s : Shared) (H : Hp) (args : Args) (us : List Value) (vs : List V) (Q : VK) (E : XK), Room k A → A.guards = some [] → Env0 B.P B.w B.K B.mg B.base A outer s H →
    BindsTo s fd args (ps.zip us) → Vals vs us → sp vs H Q E → codeAny (model B.P B.w) A (.call (.ref f) args) (CR (CX B.P B.w) outer B.P B.w H s Q E) s
/-- how a def is bound to its module: its name, its address, its parameters -/
structure Bnd (B : Base) (x : Str) (f : Addr) (fd : FuncData) (ps : List Str) : Prop where
  mg : B.mg x = some (.ref f)
  kp : PySem.W.keepIn B.K (.ref f) = true
  bd : Binds B.K fd ps []
  db : (x == ("__debug__" : Str)) = false

section
variable {B : Base} {F p p' : List Addr} {H H' : Hp} {h : VH} {D : Addr} {E : XK} {X : Cx} {k : Nat} {sc : Scope} {N st : List Str}
/-- the promise of a run of the interpreter -/
def spR (B : Base) (ps : List Str) (run : List W → VH → R W) : Sp := fun vs H Q E => ∃ F p h ws, Sim B F p h H ∧ RWs B F p H ws vs ∧ ws.length = ps.length ∧ Outc B F (RWr B F) E p H (run ws h) Q
theorem runG (G : Good B sc N st E k X) {f : Addr} {fd : FuncData} {ps : List Str} {x : Str} {sp : Sp} (Fn : FnG B k f fd ps sp) (bn : Bnd B x f fd ps) {pins : List (Addr × Obj)} {σ : L2.St} {s : Shared} {Q : VK} {us : List Value} {vs : List V}
    (I : L2.Inv X pins σ H s) (r : Vals vs us) (q : sp vs H Q E) : wpAny (model X.prog X.w) X.A (call (.ref f) us) (EP X pins σ Q) X.xe s := by
  have hl : us.length = ps.length := by rw [← r.length]; exact Fn.len _ _ _ _ q
  have e0 := I.env0
  rw [G.hP, G.hw, G.hK, G.hm, G.hb] at e0
  have kin : B.K.In s.heap := by have z := I.kIn; rw [G.hK] at z; exact z
  have bd := bn.bd s us kin (by simpa using hl)
  rw [List.append_nil] at bd
  have c := Fn.run X.A X.stack s H ⟨us, []⟩ us vs Q E G.room G.gd e0 bd r q
  rw [G.hP, G.hw]
  refine wpAny_call (codeAny_mono c fun o s' hq => ?_)
  cases o with
  | error e => exact G.ps pins σ H s e s' I hq
  | ok fl =>
    cases fl with
    | ret u =>
      have hq : CE X.stack B.P B.w H s Q u s' := hq
      rw [← G.hP, ← G.hw] at hq
      exact I.after hq
    | next => exact False.elim hq
    | brk => exact False.elim hq
    | cont => exact False.elim hq
theorem e_call (G : Good B sc N st E k X) {f : Addr} {fd : FuncData} {ps : List Str} {x : Str} {run : List W → VH → R W} (Fn : FnG B k f fd ps (spR B ps run)) (bn : Bnd B x f fd ps) (hlen : ∀ ws h, ws.length ≠ ps.length → run ws h = .bad) {e : Expr} {es : List Expr} {p1 pos : Pos} {ms : VS → VH → R (List W)}
    (hn : notStars (e :: es) = true) (hg : isGlo sc x = true) (hs : PA X (e :: es) (tA B F E ms)) : PE X (.Call (.Name x p1) (e :: es) [] pos) (tE B F E fun s h => (ms s h).bind fun ws h1 => run ws h1) := by
  have rd : ∀ σ H Q, tE B F E (fun s h => (ms s h).bind fun ws h1 => run ws h1) σ H Q → tA B F E ms σ H fun vs H1 => spR B ps run vs H1 Q E := fun σ H Q ⟨p, s, h1, S, rs, o⟩ =>
    ⟨p, s, h1, S, rs, Outc.bind o fun ws h2 p2 H2 vs A2 S2 r2 o2 => ⟨F, p2, h2, ws, S2, r2, by
      by_cases hl : ws.length = ps.length
      · exact hl
      · rw [hlen ws h2 hl] at o2; exact (o2 : False).elim, o2⟩⟩
  refine ⟨fun pins s σ H Q I q => ?_⟩
  have q := rd σ H Q q
  refine wpAny_Call_Name_kw (ld_glob I (G.glob hg) (by rw [G.hm]; exact bn.mg) ?_ bn.db)
  simp only [notStars, Bool.and_eq_true] at hn
  refine PySem.W.callWith_K (h₀ := X.base) I.ok.mod.kin (by rw [G.hK]; exact bn.kp) (thn (hs.run pos pins s σ H _ I q) fun us s1 ⟨vs, H1, I1, r, q1⟩ => ⟨I1.kIn, ?_⟩) (star_cons hn.1) (back_any hn.2)
  exact runG G Fn bn I1 r q1
theorem e_call0 (G : Good B sc N st E k X) {f : Addr} {fd : FuncData} {ps : List Str} {x : Str} {run : List W → VH → R W} (Fn : FnG B k f fd ps (spR B ps run)) (bn : Bnd B x f fd ps) (hlen : ∀ ws h, ws.length ≠ ps.length → run ws h = .bad) {p1 pos : Pos}
    (hg : isGlo sc x = true) : PE X (.Call (.Name x p1) [] [] pos) (tE B F E fun _ h => run [] h) := by
  refine ⟨fun pins s σ H Q I ⟨p, s0, h1, S, rs, o⟩ => ?_⟩
  refine wpAny_Call_Name_kw (ld_glob I (G.glob hg) (by rw [G.hm]; exact bn.mg) ?_ bn.db)
  refine PySem.W.callWith_K0 I.kIn (by rw [G.hK]; exact bn.kp) (runG (us := []) (vs := []) G Fn bn I .nil ⟨F, p, h1, [], S, RWs.nil, ?_, o⟩)
  by_cases hl : ([] : List W).length = ps.length
  · exact hl
  · dsimp only at o
    rw [hlen [] h1 hl] at o; exact (o : False).elim
end
end Vm

/-! VmStm: the statements. -/
namespace Vm
open PySem PySem.Spec PyProof.Rows L2

section
variable {B : Base} {F p p' : List Addr} {H H' : Hp} {h : VH} {D : Addr} {E : XK} {X : Cx} {k : Nat} {sc : Scope} {N st : List Str}
/-- what a run of statements promises -/
def OutS (B : Base) (F : List Addr) (E : XK) (p : List Addr) (H : Hp) (r : RS) (D : Ends) : Prop := match r with
  | .nx s h' => ∀ p' H' σ, After p H p' H' → Sim B F p' h' H' → RL B F p' H' s σ → D.nx σ H'
  | .rt w h' => ∀ p' H' v, After p H p' H' → Sim B F p' h' H' → RW B F p' H' w v → D.rt v H'
  | .exc x h' => ∀ p' H' cls d, After p H p' H' → Sim B F p' h' H' → RX B F p' H' x cls d → E cls d H'
  | .bad => False
def tS (B : Base) (F : List Addr) (E : XK) (m : VS → VH → RS) : TS := fun D σ H => ∃ p s h, Sim B F p h H ∧ RL B F p H s σ ∧ OutS B F E p H (m s h) D
theorem OutS.after {r : RS} {D : Ends} (o : OutS B F E p H r D) (A : After p H p' H') : OutS B F E p' H' r D := by
  cases r with
  | nx s h' => exact fun p2 H2 b A2 S r => o p2 H2 b (A.trans A2) S r
  | rt s h' => exact fun p2 H2 b A2 S r => o p2 H2 b (A.trans A2) S r
  | exc x h' => exact fun p2 H2 cls d A2 S r => o p2 H2 cls d (A.trans A2) S r
  | bad => exact o
/-- an expression's run, then the rest -/
theorem OutS.thn {α β : Type} {rel : Rel α β} {r : R α} {f : α → VH → RS} {D : Ends} {T : β → Hp → Prop} (o : OutS B F E p H (r.thn f) D)
    (k : ∀ a h1 p1 H1 b, After p H p1 H1 → Sim B F p1 h1 H1 → rel p1 H1 a b → OutS B F E p1 H1 (f a h1) D → T b H1) : Outc B F rel E p H r T := by
  cases r with
  | ok a h' => exact fun p1 H1 b A S q => k a h' p1 H1 b A S q (OutS.after (r := f a h') o A)
  | exc x h' => exact o
  | bad => exact o
theorem OutS.done {s : VS} {σ : L2.St} {D : Ends} (o : OutS B F E p H (.nx s h) D) (S : Sim B F p h H) (r : RL B F p H s σ) : D.nx σ H := o p H σ (After.refl p H) S r
theorem OutS.bind {r : RS} {f : VS → VH → RS} {D : Ends} (o : OutS B F E p H (r.bind f) D) {T : L2.St → Hp → Prop}
    (k : ∀ s1 h1 p1 H1 σ1, After p H p1 H1 → Sim B F p1 h1 H1 → RL B F p1 H1 s1 σ1 → OutS B F E p1 H1 (f s1 h1) D → T σ1 H1) (bk ct : L2.St → Hp → Prop) : OutS B F E p H r { nx := T, rt := D.rt, bk := bk, ct := ct } := by
  cases r with
  | nx s h' => exact fun p1 H1 σ1 A S q => k s h' p1 H1 σ1 A S q (OutS.after (r := f s h') o A)
  | rt w h' => exact o
  | exc x h' => exact o
  | bad => exact o

theorem s_ret {e : Expr} {pos : Pos} {m : VS → VH → R W} (he : PE X e (tE B F E m)) : PS X (.Return (some e) pos) (tS B F E fun s h => (m s h).thn fun w h1 => .rt w h1) :=
  PS_imp (ps_ret he) fun D σ H ⟨p, s, h1, S, rs, o⟩ => ⟨p, s, h1, S, rs, OutS.thn o fun x h2 p2 H2 v A2 S2 r2 o2 => o2 p2 H2 v (After.refl _ _) S2 r2⟩
theorem s_retN {pos : Pos} : PS X (.Return none pos) (tS B F E fun _ h => .rt .non h) :=
  PS_imp ps_retN fun D σ H ⟨p, s, h1, S, rs, o⟩ => o p H _ (After.refl _ _) S (by simp [RW])
theorem s_pass {pos : Pos} : PS X (.Pass pos) (tS B F E fun s h => .nx s h) :=
  PS_imp ps_pass fun D σ H ⟨p, s, h1, S, rs, o⟩ => OutS.done o S rs
/-- no comprehension -/
def notComp (e : Expr) : Bool := match e with
  | .ListComp _ _ _ _ => false
  | .SetComp _ _ _ _ => false
  | .DictComp _ _ _ _ _ => false
  | _ => true
theorem swaps_none {e : Expr} {t : Option Expr} {l : Nat} {env : Env} (h : notComp e = true) : swapsWith e t l env = pure false := by
  cases e <;> first | rfl | cases h
theorem s_expr {e : Expr} {pos : Pos} {m : VS → VH → R W} (hn : notComp e = true) (he : PE X e (tE B F E m)) : PS X (.Expr e pos) (tS B F E fun s h => (m s h).thn fun _ h1 => .nx s h1) :=
  PS_imp (ps_expr he (swaps_none hn)) fun D σ H ⟨p, s, h1, S, rs, o⟩ => ⟨p, s, h1, S, rs, OutS.thn o fun x h2 p2 H2 v A2 S2 r2 o2 => OutS.done o2 S2 (rs.after A2)⟩
/-- a comprehension whose list is stored by the block's own end -/
def swC (sc : Scope) (t : Str) (pos : Pos) (e : Expr) : Bool := match e with
  | .ListComp _ _ s vp => (if sc.kind.isAnnotationScope then ScopeKind.function else sc.kind) == .function && sc.names.lookup t == some .local && pos.line == vp.line && !(s.names.any fun (n, k) => n == t && (k == .local || k == .cell))
  | _ => false
theorem swaps_of {sc : Scope} {t : Str} {pos vp : Pos} {elt : Expr} {gens : List Comprehension} {s : Scope} {l : Nat} {env : Env} (hs : env.scope = sc) : swapsWith (.ListComp elt gens s vp) (some (.Name t pos)) l env = pure (swC sc t pos (.ListComp elt gens s vp)) := by
  subst hs
  rfl
theorem tAsg_read {m : VS → VH → R W} {t : Tg} {D : Ends} {σ : L2.St} {H : Hp} (q : tS B F E (fun s h => (m s h).thn fun w h1 => match tgSet t w s with
        | some s1 => .nx s1 h1
        | none => .bad) D σ H) : tAsg (tE B F E m) (gT B.K t) D σ H := by
  obtain ⟨p, s, h1, S, rs, o⟩ := q
  refine ⟨p, s, h1, S, rs, OutS.thn o fun x h2 p2 H2 v A2 S2 r2 o2 => ?_⟩
  cases e : tgSet t x s with
  | none => rw [e] at o2; exact (o2 : False).elim
  | some s1 =>
    rw [e] at o2
    exact g_tg e r2 (rs.after A2) fun σ2 rs2 _ => OutS.done o2 S2 rs2
theorem s_asgN (G : Good B sc N st E k X) {i : Nat} {x : Str} {e : Expr} {pp pos : Pos} {m : VS → VH → R W} (hx : chkNm sc N st x i = true) (hsw : swapsWith e (some (.Name x pp)) pos.line X.env = pure false) (he : PE X e (tE B F E m)) :
    PS X (.Assign [.Name x pp] e pos) (tS B F E fun s h => (m s h).thn fun w h1 => match tgSet (.v i) w s with
        | some s1 => .nx s1 h1
        | none => .bad) := by
  simp only [chkNm, Bool.and_eq_true, decide_eq_true_eq] at hx
  exact PS_imp (ps_set (i := i) (by rw [G.hN]; exact G.nd) (by rw [G.hN]; exact hx.1.1) (G.loc hx.1.2) he hsw (G.fnl hx.2)) fun D σ H q => (show tAsg (tE B F E m) (gT B.K (.v i)) D σ H from tAsg_read q)
/-- not both are tuples -/
def notTup (e : Expr) : Bool := match e with
  | .Tuple _ _ _ => false
  | _ => true
theorem stores_none {es : List Expr} {kk : Nat} {tp : Pos} {e : Expr} {env : Env} (h : notTup e = true) : swappedStores [.Tuple es kk tp] e env = pure none := by
  cases e <;> first | rfl | cases h
theorem sole_tup {es : List Expr} {kk : Nat} {tp : Pos} {e : Expr} {l : Nat} {env : Env} : swapsWithSole [.Tuple es kk tp] e l env = pure false := by
  cases e <;> rfl
theorem s_asgT (G : Good B sc N st E k X) {ts : List Tg} {es : List Expr} {kk : Nat} {tp : Pos} {e : Expr} {pos : Pos} {m : VS → VH → R W} (ht : chkTg sc N st (.t ts) (.Tuple es kk tp) = true) (hn : notTup e = true) (he : PE X e (tE B F E m)) :
    PS X (.Assign [.Tuple es kk tp] e pos) (tS B F E fun s h => (m s h).thn fun w h1 => match tgSet (.t ts) w s with
        | some s1 => .nx s1 h1
        | none => .bad) := PS_imp (ps_asg he (pg_tg G ht) sole_tup (stores_none hn)) fun D σ H q => tAsg_read q
theorem s_asgS (G : Good B sc N st E k X) {o i e : Expr} {tp pos : Pos} {mo mi me : VS → VH → R W} (hn : notSlice i = true) (ho : PE X o (tE B F E mo)) (hi : PE X i (tE B F E mi)) (he : PE X e (tE B F E me)) :
    PS X (.Assign [.Subscript o i tp] e pos) (tS B F E fun s h => (me s h).thn fun w h1 => (mo s h1).thn fun x h2 => (mi s h2).thn fun y h3 => match putW h3 x y w with
      | some h4 => .nx s h4
      | none => .bad) := by
  have hu := G.units
  have ha : ∀ v, assign (.Subscript o i tp) X.env v = (do
      let ov ← holding [v] (eval o X.env)
      let iv ← holding [v, ov] (eval i X.env)
      standAt tp
      holding [v, ov, iv] (setItem ov iv v)
      release [v, ov, iv] []) := fun v => by cases i <;> first | rfl | cases hn
  have hsole : swapsWithSole [.Subscript o i tp] e pos.line X.env = pure false := by cases e <;> rfl
  have hstore : swappedStores [.Subscript o i tp] e X.env = pure none := by cases e <;> rfl
  refine PS_imp (ps_asg he (pg_sub ho hi (set_all (X := X) (by omega)) ha) hsole hstore) fun D σ H ⟨p, s, h1, S, rs, oo⟩ => ?_
  refine ⟨p, s, h1, S, rs, OutS.thn oo fun w h2 p2 H2 v A2 S2 r2 o2 => ?_⟩
  refine ⟨p2, s, h2, S2, rs.after A2, OutS.thn o2 fun x h3 p3 H3 u A3 S3 r3 o3 => ?_⟩
  refine ⟨p3, s, h3, S3, (rs.after A2).after A3, OutS.thn o3 fun y h4 p4 H4 z A4 S4 r4 o4 => ?_⟩
  cases ep : putW h4 x y w with
  | none => rw [ep] at o4; exact (o4 : False).elim
  | some h5 =>
    rw [ep] at o4
    exact putW_rel S4 (r3.after A4) r4 ((r2.after A3).after A4) ep fun p' H' A' S' => o4 p' H' σ A' S' ((((rs.after A2).after A3).after A4).after A')
theorem s_if {c : Expr} {a b : List Stmt} {pos : Pos} {mc : VS → VH → R Bool} {ma mb : VS → VH → RS} (hc : PT X c (tT B F E mc)) (ha : PSs X a (tS B F E ma)) (hb : PSs X b (tS B F E mb)) :
    PS X (.If c a b pos) (tS B F E fun s h => (mc s h).thn fun k h1 => if k then ma s h1 else mb s h1) := by
  refine PS_imp (ps_if hc ha hb) fun D σ H ⟨p, s, h1, S, rs, o⟩ => ⟨p, s, h1, S, rs, OutS.thn o fun x h2 p2 H2 v A2 S2 r2 o2 => ?_⟩
  have r2 : x = v := r2
  subst r2
  cases x with
  | true => exact ⟨p2, s, h2, S2, rs.after A2, o2⟩
  | false => exact ⟨p2, s, h2, S2, rs.after A2, o2⟩
theorem ss_nil : PSs X [] (tS B F E fun s h => .nx s h) := PSs_imp pss_nil fun D σ H ⟨p, s, h1, S, rs, o⟩ => OutS.done o S rs
theorem ss_cons {a : Stmt} {r : List Stmt} {ma mr : VS → VH → RS} (ha : PS X a (tS B F E ma)) (hr : PSs X r (tS B F E mr)) : PSs X (a :: r) (tS B F E fun s h => (ma s h).bind fun s1 h1 => mr s1 h1) :=
  PSs_imp (pss_cons ha hr) fun D σ H ⟨p, s, h1, S, rs, o⟩ => ⟨p, s, h1, S, rs, OutS.bind o (fun s2 h2 p2 H2 σ2 A2 S2 r2 o2 => ⟨p2, s2, h2, S2, r2, o2⟩) _ _⟩
/-! ### loops -/
theorem forLoop_cons {ok : VH → Bool} {step : W → VS → VH → RS} {x : W} {xs : List W} {s : VS} : forLoop ok step (x :: xs) s h = (step x s h).bind fun s1 h1 => if ok h1 then forLoop ok step xs s1 h1 else .bad := rfl
theorem s_for (G : Good B sc N st E k X) {tg it : Expr} {b : List Stmt} {pos : Pos} {t : Tg} {mi : VS → VH → R Itv} {mb : VS → VH → RS} (hio : ∀ s h iv h1, mi s h = .ok iv h1 → iv.ok h1 = true)
    (hi : PI X tg it (tI B F E mi)) (hg : PG X tg (gT B.K t)) (hb : PSs X b (tS B F E mb)) (hs : ∀ x, foldedSetIterable it X.env x = pure x) :
    PS X (.For tg it b [] pos) (tS B F E fun s h => (mi s h).thn fun iv h1 => forLoop iv.ok (fun x s1 h2 => match tgSet t x s1 with
      | some s2 => mb s2 h2
      | none => .bad) iv.items s h1) := by
  refine PS_imp (ps_for G.po G.calm hi hg hb hs) fun D σ H ⟨p, s, h1, S, rs, o⟩ => ⟨p, s, h1, S, rs, ?_⟩
  dsimp only at o
  cases em : mi s h1 with
  | bad => rw [em] at o; exact (o : False).elim
  | exc x h2 => rw [em] at o; exact o
  | ok iv h2 =>
    rw [em, R.thn_ok] at o
    intro p1 H1 J A1 S1 J1
    have ok1 := hio s h1 iv h2 em
    refine ⟨fun i m σ' H2 => m = iv.items.length - i ∧ i ≤ iv.items.length ∧ ∃ p2 h2 s2, iv.ok h2 = true ∧ After p1 H1 p2 H2 ∧ Sim B F p2 h2 H2 ∧ RL B F p2 H2 s2 σ' ∧ OutS B F E p2 H2 (forLoop iv.ok (fun x s1 h2 => match tgSet t x s1 with
      | some s2 => mb s2 h2
      | none => .bad) (iv.items.drop i) s2 h2) D, ⟨iv.items.length, by simp, Nat.zero_le _, p1, h2, s, ok1, After.refl _ _, S1, rs.after A1, by simpa using OutS.after o A1⟩, ?_⟩
    rintro i m σ' H2 ⟨rfl, hi', p2, h3, s2, ok2, A2, S2, rs2, o2⟩
    obtain ⟨t1, t2⟩ := J1.turn F i p2 h3 H2 H2 (fun _ _ _ n => n) (fun _ h => h) A2 (fun _ _ _ e => e) S2 ok2
    cases hx : iv.items[i]? with
    | none =>
      refine .inl ⟨t1 hx, ?_⟩
      have hl := List.getElem?_eq_none_iff.mp hx
      rw [List.drop_of_length_le hl] at o2
      exact OutS.done o2 S2 rs2
    | some x =>
      obtain ⟨go, yl⟩ := t2 x hx
      have hlt := (List.getElem?_eq_some_iff.mp hx).1
      rw [drop_some hx, forLoop_cons] at o2
      refine .inr ⟨go, fun σ' H' => ∃ p2 h2 s2, iv.ok h2 = true ∧ After p1 H1 p2 H' ∧ Sim B F p2 h2 H' ∧ RL B F p2 H' s2 σ' ∧ OutS B F E p2 H' (forLoop iv.ok (fun x s1 h2 => match tgSet t x s1 with
        | some s2 => mb s2 h2
        | none => .bad) (iv.items.drop (i + 1)) s2 h2) D, fun σ' H' z => ⟨iv.items.length - (i + 1), by omega, rfl, hlt, z⟩, fun v H' y => ?_⟩
      obtain ⟨A3, S3, rx⟩ := yl v H' y
      cases et : tgSet t x s2 with
      | none => simp only [et] at o2; exact (o2 : False).elim
      | some s3 =>
        simp only [et] at o2
        refine g_tg et rx (rs2.after A3) fun σ2 rs3 _ => ⟨p2, s3, h3, S3, rs3, ?_⟩
        refine OutS.bind (OutS.after o2 A3) (fun s4 h4 p4 H4 σ4 A4 S4 r4 o4 => ?_) _ _
        by_cases hk : iv.ok h4 = true
        · rw [if_pos hk] at o4
          exact ⟨p4, h4, s4, hk, A2.trans (A3.trans A4), S4, r4, o4⟩
        · rw [if_neg hk] at o4
          exact (o4 : False).elim
theorem s_wh (G : Good B sc N st E k X) {c : Expr} {b : List Stmt} {pos : Pos} {fuel : Nat} {mc : VS → VH → R Bool} {mb : VS → VH → RS} (hc : PT X c (tT B F E mc)) (hb : PSs X b (tS B F E mb)) :
    PS X (.While c b [] pos) (tS B F E fun s h => whLoop mc mb fuel s h) := by
  refine PS_imp (ps_while G.po hc hb) fun D σ H ⟨p, s, h1, S, rs, o⟩ => ?_
  refine ⟨fun m σ' H2 => ∃ p2 h2 s2, Sim B F p2 h2 H2 ∧ RL B F p2 H2 s2 σ' ∧ OutS B F E p2 H2 (whLoop mc mb m s2 h2) D, ⟨fuel, p, h1, s, S, rs, o⟩, ?_⟩
  rintro m σ' H2 ⟨p2, h2, s2, S2, rs2, o2⟩
  cases m with
  | zero => exact (o2 : False).elim
  | succ m =>
    have o2 : OutS B F E p2 H2 ((mc s2 h2).thn fun b h1 => if b then (mb s2 h1).bind fun s2 h2 => whLoop mc mb m s2 h2 else .nx s2 h1) D := o2
    refine ⟨p2, s2, h2, S2, rs2, OutS.thn o2 fun x h3 p3 H3 v A3 S3 r3 o3 => ?_⟩
    have r3 : x = v := r3
    subst r3
    cases x with
    | false =>
      simp only [Bool.false_eq_true, if_false] at o3 ⊢
      exact OutS.done o3 S3 (rs2.after A3)
    | true =>
      simp only [if_true] at o3 ⊢
      exact ⟨fun σ' H' => ∃ p2 h2 s2, Sim B F p2 h2 H' ∧ RL B F p2 H' s2 σ' ∧ OutS B F E p2 H' (whLoop mc mb m s2 h2) D, fun σ' H' z => ⟨m, Nat.lt_succ_self _, z⟩, p3, s2, h3, S3, rs2.after A3, OutS.bind o3 (fun s4 h4 p4 H4 σ4 A4 S4 r4 o4 => ⟨p4, h4, s4, S4, r4, o4⟩) _ _⟩
end
end Vm

/-! VmStm2: op=, del, stored comprehensions; the context of a block. -/
namespace Vm
open PySem PySem.Spec PyProof.Rows L2

section
variable {B : Base} {F p p' : List Addr} {H H' : Hp} {h : VH} {D : Addr} {E : XK} {X : Cx} {k : Nat} {sc : Scope} {N st : List Str}
def rAug (op : Operator) : TIp := match op with
  | .Add => rI0 fun i j => .int (i + j)
  | .Sub => rI0 fun i j => .int (i - j)
  | .Mult => rI CMul fun i j => .int (i * j)
  | _ => fun _ _ _ _ => False
theorem augP {op : Operator} (h : ∃ x y w, augV op x y = some w) : PIp X op (rAug op) := by
  cases op <;> first | exact iop_add | exact iop_sub | exact iop_mul | (obtain ⟨x, y, w, e⟩ := h; cases x <;> cases y <;> simp [augV] at e)
theorem augV_rel {op : Operator} {x y w : W} {v u : V} {Q : VK} (rx : RW B F p H x v) (ry : RW B F p H y u) (e : augV op x y = some w) (q : ∀ z, RW B F p H w z → Q z H) : rAug op v u H Q := by
  cases x <;> cases y <;> simp only [augV, reduceCtorEq] at e
  rename_i a b
  have e1 := rx.int_
  have e2 := ry.int_
  subst e1 e2
  cases op <;> simp only [reduceCtorEq, Option.some.injEq] at e
  · subst e
    exact ⟨a, b, rfl, rfl, q _ (by simp [RW])⟩
  · subst e
    exact ⟨a, b, rfl, rfl, q _ (by simp [RW])⟩
  · obtain ⟨e1, rfl⟩ := ite_some_ e
    exact ⟨a, b, rfl, rfl, mulOk_ok e1, q _ (by simp [RW])⟩
theorem s_augN (G : Good B sc N st E k X) {i : Nat} {x : Str} {e : Expr} {op : Operator} {pp pos : Pos} {me : VS → VH → R W} (hx : chkNm sc N st x i = true) (he : PE X e (tE B F E me)) (hop : ∃ x y w, augV op x y = some w) :
    PS X (.AugAssign (.Name x pp) op e pos) (tS B F E fun s h => match (s[i]?).bind id with
    | some x => (me s h).thn fun y h1 => match augV op x y with
      | some w => .nx (s.set i (some w)) h1
      | none => .bad
    | none => .bad) := by
  simp only [chkNm, Bool.and_eq_true, decide_eq_true_eq] at hx
  refine PS_imp (ps_aug (i := i) (by rw [G.hN]; exact G.nd) (by rw [G.hN]; exact hx.1.1) (G.loc hx.1.2) he (augP hop) (G.fnl hx.2)) fun D σ H ⟨p, s, h1, S, rs, o⟩ => ?_
  dsimp only at o
  cases ex : (s[i]?).bind id with
  | none => rw [ex] at o; exact (o : False).elim
  | some w =>
    rw [ex] at o
    obtain ⟨ow, e1, e2⟩ := bind_some_ ex
    have e2 : ow = some w := e2
    subst e2
    obtain ⟨v, e3, r⟩ := rs.2 i w e1
    refine ⟨v, e3, p, s, h1, S, rs, OutS.thn (f := fun y h1 => match augV op w y with
      | some w => .nx (s.set i (some w)) h1
      | none => .bad) o fun y h2 p2 H2 u A2 S2 r2 o2 => ?_⟩
    cases ea : augV op w y with
    | none => rw [ea] at o2; exact (o2 : False).elim
    | some z =>
      rw [ea] at o2
      exact augV_rel (r.after A2) r2 ea fun z' rz => OutS.done o2 S2 ((rs.after A2).set rz)
/-! ### o[i] op= e -/
def rGetA (K : PySem.W.Frag) : V → V → Hp → VK → Prop := fun o i H Q => (∃ a xs k z, o = .ref a ∧ i = .int k ∧ SqL K H a xs ∧ atI xs k = some z ∧ Q z H) ∨ ∃ a z, o = .ref a ∧ DGet H a i (some z) ∧ Q z H
theorem get_all (hu : X.A.units + 1 < cLine) : PGet X (rGetA X.K) := by
  intro pins s σ H o i ov iv Q I ro ri hq
  rcases hq with ⟨a, xs, kk, z, rfl, rfl, hl, hz, q⟩ | ⟨a, z, rfl, g, q⟩
  · cases ro
    obtain ⟨t, rfl⟩ := ri
    obtain ⟨its, r, pl, hsz⟩ := I.list hl
    obtain ⟨j, h1, h2, h3, h4, h5⟩ := atI_get hz
    obtain ⟨w, ew, rw'⟩ := r.get h2
    have hlen := r.length
    have hn := line63
    have fin : EP X pins σ Q w s := ⟨z, H, I, rw', q⟩
    by_cases h0 : 0 ≤ kk
    · have hj : kk.toNat = j := by
        rw [seqIndex_of h0 h5] at h1
        exact Option.some.inj h1
      exact wpAny_getItem_list pl.isList h0 (by omega) (by rw [hj]; simpa using ew) fin
    · have hj : (kk + (its.toArray.size : Int)).toNat = j := by
        rw [seqIndex_neg (by omega) h4] at h1
        rw [List.size_toArray, ← hlen]
        exact Option.some.inj h1
      exact wpAny_getItem_list_neg pl.isList (by omega) (by rw [List.size_toArray] <;> omega) (by omega) (by rw [hj]; simpa using ew) fin
  · obtain rfl : ov = Value.ref a := ro
    exact d_getItem hu I g ri fun w' s' I' r => ⟨z, H, I', r, q⟩
theorem ixM_rel (S : Sim B F p h H) {x y w : W} {v u : V} {Q : VK} (rx : RW B F p H x v) (ry : RW B F p H y u) (e : ixM h x y = some w) (q : ∀ z, RW B F p H w z → Q z H) : rGetA B.K v u H Q := by
  unfold ixM at e
  split at e
  · obtain ⟨o, e1, e2⟩ := bind_some_ e
    have e2 : o = some w := e2
    subst e2
    obtain ⟨a, z, rfl, g, ro⟩ := dget_rel S rx ry e1
    cases z with
    | none => exact ro.elim
    | some z => exact .inr ⟨a, z, rfl, g, q z ro⟩
  · obtain ⟨kk, e1, e⟩ := bind_some_ e
    obtain ⟨xs, e2, e3⟩ := bind_some_ e
    obtain ⟨a, vs, rfl, ha, r⟩ := asLst_rel S rx e2
    obtain ⟨z, hz, rz⟩ := atI_rel r e3
    exact .inl ⟨a, vs, kk, z, rfl, asInt_rel ry e1, SqL.of ha, hz, q z rz⟩
theorem s_augS (G : Good B sc N st E k X) {o i e : Expr} {op : Operator} {tp pos : Pos} {mo mi me : VS → VH → R W} (hn : notSlice i = true) (ho : PE X o (tE B F E mo)) (hi : PE X i (tE B F E mi)) (he : PE X e (tE B F E me)) (hop : ∃ x y w, augV op x y = some w) :
    PS X (.AugAssign (.Subscript o i tp) op e pos) (tS B F E fun s h => (mo s h).thn fun x h1 => (mi s h1).thn fun y h2 => match ixM h2 x y with
    | some z => (me s h2).thn fun w h3 => match (augV op z w).bind fun r => putW h3 x y r with
      | some h4 => .nx s h4
      | none => .bad
    | none => .bad) := by
  have hu := G.units
  have ha : ∀ ov iv new, augStore i ov iv new = (do holding [new, ov, iv] (setItem ov iv new); release [new, ov, iv] []; pure .next) := fun _ _ _ => by cases i <;> first | rfl | cases hn
  refine PS_imp (ps_augS ho hi (get_all (X := X) (by omega)) he (augP hop) (set_all (X := X) (by omega)) ha) fun D σ H ⟨p, s, h1, S, rs, oo⟩ => ?_
  refine ⟨p, s, h1, S, rs, OutS.thn oo fun x h2 p2 H2 v A2 S2 r2 o2 => ?_⟩
  refine ⟨p2, s, h2, S2, rs.after A2, OutS.thn o2 fun y h3 p3 H3 u A3 S3 r3 o3 => ?_⟩
  cases ez : ixM h3 x y with
  | none => simp only [ez] at o3; exact (o3 : False).elim
  | some z =>
    simp only [ez] at o3
    rw [G.hK]
    refine ixM_rel S3 (r2.after A3) r3 ez fun zv rz => ?_
    refine ⟨p3, s, h3, S3, (rs.after A2).after A3, OutS.thn o3 fun w h4 p4 H4 wv A4 S4 r4 o4 => ?_⟩
    cases ea : augV op z w with
    | none => simp only [ea, Option.bind_none] at o4; exact (o4 : False).elim
    | some r =>
      simp only [ea, Option.bind_some] at o4
      refine augV_rel (rz.after A4) r4 ea fun rv rr => ?_
      cases ep : putW h4 x y r with
      | none => simp only [ep] at o4; exact (o4 : False).elim
      | some h5 =>
        simp only [ep] at o4
        exact putW_rel S4 ((r2.after A3).after A4) (r3.after A4) rr ep fun p' H' A' S' => o4 p' H' σ A' S' ((((rs.after A2).after A3).after A4).after A')
theorem s_del {o i : Expr} {tp pos : Pos} {mo mi : VS → VH → R W} (ho : PE X o (tE B F E mo)) (hi : PE X i (tE B F E mi)) :
    PS X (.Delete [.Subscript o i tp] pos) (tS B F E fun s h => (mo s h).thn fun x h1 => (mi s h1).thn fun y h2 => match delW h2 x y with
    | some h3 => .nx s h3
    | none => .bad) := by
  refine PS_imp (ps_ddel ho hi) fun D σ H ⟨p, s, h1, S, rs, oo⟩ => ?_
  refine ⟨p, s, h1, S, rs, OutS.thn oo fun x h2 p2 H2 v A2 S2 r2 o2 => ?_⟩
  refine ⟨p2, s, h2, S2, rs.after A2, OutS.thn o2 fun y h3 p3 H3 u A3 S3 r3 o3 => ?_⟩
  cases ed : delW h3 x y with
  | none => simp only [ed] at o3; exact (o3 : False).elim
  | some h4 =>
    simp only [ed] at o3
    obtain ⟨a, kvs, kk, rfl, e1, e2, e3, A4, S4⟩ := delW_rel S3 (r2.after A3) r3 ed
    exact ⟨a, kvs, kk, rfl, e1, e2, e3, OutS.after o3 A4 |> fun q => OutS.done q S4 (((rs.after A2).after A3).after A4)⟩

/-! ### the context of a comprehension's block -/
theorem Good.blk (G : Good B sc N st E k X) {scope : Scope} {st' : List Str} {s : Shared} {H : Hp} {C : Addr} {cl : List (Str × Addr)} {fp : List Addr} (hst : (st'.all fun x => scope.names.lookup x == some .cell || (relS scope sc).names.lookup x == some .local) = true) :
    Good B (relS scope sc) N st' E0 k (X.blk s H scope (compEnvC scope cl C X.env) fp) := by
  refine ⟨G.hP, G.hw, G.hK, G.hm, G.hb, G.hN, G.nd, ?_, G.calm, G.room, G.gd, PassesOwn.never, ?_, fun x hx => ?_⟩
  · show (compEnvC scope cl C X.env).scope = _
    rw [← G.hs]
    rfl
  · intro pins σ H s e s' I q
    obtain ⟨a, B', H', cls, d, _, _, _, _, _, _, _, z⟩ := q
    exact z
  · have z := List.all_eq_true.mp hst x hx
    simp only [Bool.or_eq_true, beq_iff_eq] at z
    rcases z with z | z
    · exact .inl (by show (scope.names.lookup x == some .cell) = true; rw [z]; rfl)
    · exact .inr z
end
end Vm

/-! VmChk: does a written text stand for a term of the interpreter? And the soundness of expressions. -/
namespace Vm
open PySem PySem.Spec PyProof.Rows L2

def notSet (e : Expr) : Bool := match e with
  | .Set _ _ _ => false
  | _ => true
def isTupE (e : Expr) : Bool := match e with
  | .Tuple _ _ _ => true
  | _ => false
def blkSt (scope : Scope) : List Str := (scope.names.filter fun y => y.2 == .local || y.2 == .cell).map (·.1)
def ownP (N : List Str) (own : List Nat) : List (Str × Nat) := own.map fun i => (N.getD i "", i)
section
variable (nm : Nat → Option Str) (N : List Str)
mutual
def chkE (sc : Scope) (st : List Str) : E → Expr → Bool
  | .non, x => match x with
    | .Constant .none _ _ => true
    | _ => false
  | .bl b, x => match x with
    | .Constant (.bool c) _ _ => b == c
    | _ => false
  | .int i, x => match x with
    | .Constant (.int j) _ _ => decide (i = j)
    | _ => false
  | .str i, x => match x with
    | .Constant (.str j) _ _ => decide (i = j)
    | _ => false
  | .var i, x => match x with
    | .Name y _ => decide (N[i]? = some y) && isVis sc y && !oddName y
    | _ => false
  | .glb z, x => match x with
    | .Name y _ => decide (z = y) && isGlo sc y && !oddName y
    | _ => false
  | .bin o a b, x => match x with
    | .BinOp l p r _ => decide (o = p) && chkE sc st a l && chkE sc st b r
    | _ => false
  | .neg a, x => match x with
    | .UnaryOp .USub l _ => chkE sc st a l
    | _ => false
  | .cmp o a b, x => match x with
    | .Compare l [p] [r] _ => decide (o = p) && notSet r && chkE sc st a l && chkE sc st b r
    | _ => false
  | .chn o1 o2 a b c, x => match x with
    | .Compare l [p1, p2] [m, r] _ => decide (o1 = p1) && decide (o2 = p2) && notSet r && chkE sc st a l && chkE sc st b m && chkE sc st c r
    | _ => false
  | .bop con es, x => match x with
    | .BoolOp op l _ => decide (op = if con then .And else .Or) && !l.isEmpty && chkEs sc st es l
    | _ => false
  | .not a, x => match x with
    | .UnaryOp .Not l _ => chkE sc st a l
    | _ => false
  | .ite c a b, x => match x with
    | .IfExp c' a' b' _ => chkE sc st c c' && chkE sc st a a' && chkE sc st b b'
    | _ => false
  | .tup es, x => match x with
    | .Tuple l _ _ => notStars l && chkEs sc st es l
    | _ => false
  | .frz m, x => chkM sc st m x
  | .cel m, x => chkM sc st m x
  | .ix a i, x => match x with
    | .Subscript l r _ => notSlice r && chkE sc st a l && chkE sc st i r
    | _ => false
  | .slc a lo hi, x => match x with
    | .Subscript l (.Slice l1 l2 none _) _ => chkE sc st a l && chkO sc st lo l1 && chkO sc st hi l2
    | _ => false
  | .call f es, x => match x with
    | .Call (.Name y _) l [] _ => decide (nm f = some y) && isGlo sc y && notStars l && chkEs sc st es l
    | _ => false
  | .blt b es, x => match x with
    | .Call (.Name y _) l [] _ => decide (y = b.name) && !l.isEmpty && isGlo sc y && notStars l && chkEs sc st es l
    | _ => false
  | .mth m o es, x => match x with
    | .Call (.Attribute o' y apos) l [] cpos => decide (y = m.name) && notSup o' && (apos.endLine == cpos.line) && notStars l && chkE sc st o o' && chkEs sc st es l &&
        (match m with
          | .append => l.length == 1
          | .pop => l.length ≤ 1
          | .get => l.length == 1 || l.length == 2)
    | _ => false
def chkEs (sc : Scope) (st : List Str) : Es → List Expr → Bool
  | .nil, l => l.isEmpty
  | .cons e r, l => match l with
    | e' :: r' => chkE sc st e e' && chkEs sc st r r'
    | [] => false
def chkO (sc : Scope) (st : List Str) : Eo → Option Expr → Bool
  | .none, l => l.isNone
  | .some e, l => match l with
    | some e' => chkE sc st e e'
    | none => false
def chkP (sc : Scope) (st : List Str) : Es → List (Option Expr) → List Expr → Bool
  | .nil, ks, vs => ks.isEmpty && vs.isEmpty
  | .cons k .nil, _, _ => false
  | .cons k (.cons v r), ks, vs => match ks, vs with
    | some k' :: ks', v' :: vs' => chkE sc st k k' && chkE sc st v v' && chkP sc st r ks' vs'
    | _, _ => false
def chkM (sc : Scope) (st : List Str) : Mk → Expr → Bool
  | .lst es, x => match x with
    | .List l _ => notStars l && chkEs sc st es l
    | _ => false
  | .lc own tg it ifs elt, x => match x with
    | .ListComp elt' [⟨tg', it', ifs', 0⟩] scope _ => chkI sc st it tg' it' && notSet it' && blkC N sc scope (ownP N own) && (tg.slots.all fun i => decide (i ∈ own)) &&
        ((blkSt scope).all fun x => scope.names.lookup x == some .cell || (relS scope sc).names.lookup x == some .local) &&
        chkTg (relS scope sc) N (blkSt scope) tg tg' && chkC (relS scope sc) (blkSt scope) ifs ifs' && chkE (relS scope sc) (blkSt scope) elt elt'
    | _ => false
  | .lc2 own tg it tg1 it1 elt, x => match x with
    | .ListComp elt' [⟨tg', it', [], 0⟩, ⟨tg1', it1', [], 0⟩] scope _ => chkI sc st it tg' it' && notSet it' && notSet it1' && blkC N sc scope (ownP N own) && (tg.slots.all fun i => decide (i ∈ own)) && (tg1.slots.all fun i => decide (i ∈ own)) &&
        ((blkSt scope).all fun x => scope.names.lookup x == some .cell || (relS scope sc).names.lookup x == some .local) &&
        chkTg (relS scope sc) N (blkSt scope) tg tg' && chkTg (relS scope sc) N (blkSt scope) tg1 tg1' && chkI (relS scope sc) (blkSt scope) it1 tg1' it1' && chkE (relS scope sc) (blkSt scope) elt elt'
    | _ => false
  | .list e, x => match x with
    | .Call (.Name y _) [l] [] _ => decide (y = "list") && isGlo sc y && notStar l && chkE sc st e l
    | _ => false
  | .rng a, x => match x with
    | .Call (.Name y _) [.Call (.Name z _) [l] [] _] [] _ => decide (y = "list") && decide (z = "range") && isGlo sc y && isGlo sc z && notStar l && chkE sc st a l
    | _ => false
  | .rng2 a b, x => match x with
    | .Call (.Name y _) [.Call (.Name z _) [l, r] [] _] [] _ => decide (y = "list") && decide (z = "range") && isGlo sc y && isGlo sc z && notStar l && notStar r && chkE sc st a l && chkE sc st b r
    | _ => false
  | .slc a lo hi, x => match x with
    | .Subscript l (.Slice l1 l2 none _) _ => chkE sc st a l && chkO sc st lo l1 && chkO sc st hi l2
    | _ => false
  | .cat a b, x => match x with
    | .BinOp l .Add r _ => chkE sc st a l && chkE sc st b r
    | _ => false
  | .rep a b, x => match x with
    | .BinOp l .Mult r _ => chkE sc st a l && chkE sc st b r
    | _ => false
  | .dk es, x => match x with
    | .Dict ks vs _ => decide (ks.length ≤ 15) && chkP sc st es ks vs
    | _ => false
  | .dt es, x => match x with
    | .Dict ks vs _ => decide (ks.length ≤ 15) && chkP sc st es ks vs
    | _ => false
def chkI (sc : Scope) (st : List Str) : It → Expr → Expr → Bool
  | .of e, _, x => chkE sc st e x
  | .rng a, _, x => match x with
    | .Call (.Name z _) [l] [] _ => decide (z = "range") && isGlo sc z && notStar l && chkE sc st a l
    | _ => false
  | .rng2 a b, _, x => match x with
    | .Call (.Name z _) [l, r] [] _ => decide (z = "range") && isGlo sc z && notStar l && notStar r && chkE sc st a l && chkE sc st b r
    | _ => false
  | .enum e, tg, x => match x with
    | .Call (.Name z _) [l] [] _ => decide (z = "enumerate") && isTupE tg && isGlo sc z && notStar l && chkE sc st e l
    | _ => false
def chkC (sc : Scope) (st : List Str) : Eo → List Expr → Bool
  | .none, l => l.isEmpty
  | .some e, l => match l with
    | [e'] => chkE sc st e e'
    | _ => false
end
end
end Vm

/-! VmSnd: what the interpreter computes, the model's run does: expressions. -/
namespace Vm
open PySem PySem.Spec PyProof.Rows L2

/-- what the defs called promise -/
structure Sound (B : Base) (C : Ctx) (nm : Nat → Option Str) (k : Nat) : Prop where
  gv : GvOk B C.gv
  fr : Free B
  fn : ∀ f x, nm f = some x → ∃ a fd ps, FnG B k a fd ps (spR B ps (C.call f)) ∧ Bnd B x a fd ps ∧ ∀ ws h, ws.length ≠ ps.length → C.call f ws h = .bad
theorem fold_none {e : Expr} {env : Env} (h : notSet e = true) : ∀ x, foldedSetIterable e env x = pure x := by
  intro x
  cases e <;> first | rfl | cases h
theorem set_no {e : Expr} (h : notSet e = true) : ∀ l k p, e ≠ .Set l k p := by
  intro l k p z
  subst z
  cases h
theorem evs_nil {C : Ctx} : evs C .nil = fun _ h => .ok [] h := by funext s h; simp only [evs]
theorem evs_cons {C : Ctx} {e : E} {r : Es} : evs C (.cons e r) = fun s h => ((ev C e).1 s h).bind fun x h1 => (evs C r s h1).bind fun xs h2 => .ok (x :: xs) h2 := by funext s h; simp only [evs]
def esDs (C : Ctx) : Es → List ((VS → VH → R W) × (VS → VH → R W))
  | .cons k (.cons v r) => ((ev C k).1, (ev C v).1) :: esDs C r
  | _ => []
theorem evs_ds {C : Ctx} {nm : Nat → Option Str} {N : List Str} {sc : Scope} {st : List Str} : ∀ {es : Es} {ks : List (Option Expr)} {vs : List Expr}, chkP nm N sc st es ks vs = true → evs C es = dMs (esDs C es)
  | .nil, ks, vs, h => evs_nil
  | .cons k .nil, ks, vs, h => by simp [chkP] at h
  | .cons k (.cons v r), some k' :: ks', v' :: vs', h => by
    simp only [chkP, Bool.and_eq_true] at h
    funext s hh
    rw [evs_cons, evs_cons, evs_ds (es := r) h.2]
    rfl
  | .cons k (.cons v r), none :: _, _, h => by simp [chkP] at h
  | .cons k (.cons v r), [], _, h => by simp [chkP] at h
  | .cons k (.cons v r), some _ :: _, [], h => by simp [chkP] at h
def iOk (C : Ctx) (it : It) : Prop := ∀ s h iv h1, evi C it s h = .ok iv h1 → iv.ok h1 = true
theorem of_ok {α : Type} {o : Option α} {a : α} {h h1 : VH} (e : Vm.R.of o h = .ok a h1) : o = some a ∧ h1 = h := by
  cases o with
  | none => cases e
  | some b => cases e; exact ⟨rfl, rfl⟩
theorem bindR_ok {α β : Type} {r : Vm.R α} {f : α → VH → Vm.R β} {b : β} {h1 : VH} (e : r.bind f = .ok b h1) : ∃ a h, r = .ok a h ∧ f a h = .ok b h1 := by
  cases r with
  | ok a h => exact ⟨a, h, rfl, e⟩
  | exc x h => cases e
  | bad => cases e
theorem evi_ok (C : Ctx) (it : It) : iOk C it := by
  intro s h iv h1 e
  cases it with
  | of x =>
    rw [evi] at e
    obtain ⟨w, h2, _, e⟩ := bindR_ok e
    obtain ⟨e1, rfl⟩ := of_ok e
    exact itOf_ok e1
  | rng x =>
    rw [evi] at e
    obtain ⟨w, h2, _, e⟩ := bindR_ok e
    obtain ⟨e1, rfl⟩ := of_ok e
    obtain ⟨n, _, e1⟩ := bind_some_ e1
    obtain ⟨_, rfl⟩ := ite_some_ e1
    rfl
  | rng2 x y =>
    rw [evi] at e
    obtain ⟨w, h2, _, e⟩ := bindR_ok e
    obtain ⟨w, h3, _, e⟩ := bindR_ok e
    obtain ⟨e1, rfl⟩ := of_ok e
    obtain ⟨n, _, e1⟩ := bind_some_ e1
    obtain ⟨n, _, e1⟩ := bind_some_ e1
    obtain ⟨_, rfl⟩ := ite_some_ e1
    rfl
  | enum x =>
    rw [evi] at e
    obtain ⟨w, h2, _, e⟩ := bindR_ok e
    obtain ⟨e1, rfl⟩ := of_ok e
    obtain ⟨n, _, e1⟩ := bind_some_ e1
    obtain ⟨iv', e2, rfl⟩ := Option.map_eq_some_iff.mp e1
    exact itOf_ok (iv := iv') e2
theorem bad_t {B : Base} {F : List Addr} {E : XK} {X : Cx} {e : Expr} : PT X e (tT B F E fun _ _ => .bad) := ⟨fun _ _ _ _ _ _ ⟨_, _, _, _, _, o⟩ => (o : False).elim⟩
theorem ownP_snd (N : List Str) (own : List Nat) : (ownP N own).map (·.2) = own := by
  unfold ownP
  rw [List.map_map]
  exact List.map_id _
def KM (B : Base) (F : List Addr) (E : XK) (X : Cx) (e : Expr) (m : VS → VH → R Cell) : Prop := PE X e (tM B F E m) ∧ Plain e

theorem k_disp {B : Base} {F : List Addr} {E : XK} {X : Cx} {k : Nat} {sc : Scope} {N st : List Str} (G : Good B sc N st E k X) {ks : List (Option Expr)} {vs : List Expr} {pos : Pos} {ds : List ((VS → VH → R W) × (VS → VH → R W))} (h15 : ks.length ≤ 15)
    (hp : PPs X pos ks vs (dTr B F E ds)) (hall : ks.all (·.isSome) = true) (hl : ks.length = vs.length) (h0 : ks ≠ []) {ob : HO} (hob : ob = .dK [] ∨ ob = .dT []) {g : List W → Option Cell}
    (hg : ∀ {D : Addr} {F p : List Addr} {H : Hp} {ws : List W} {ps : List (V × V)} {c : Cell} {Q : Hp → Prop}, g ws = some c → RWs B (D :: F) p H ws (flat ps) → H D = some ob → (∀ o', RC B (D :: F) p (upd H D o') c o' → Q (upd H D o')) → puts D ps H Q) :
    PE X (.Dict ks vs pos) (tM B F E fun s h => (dMs ds s h).bind fun ws h1 => .of (g ws) h1) := by
  have hu := G.units
  exact PE_imp (pe_dispA hob (by omega) hp hall hl h0 h15) fun σ H Q q => disp_read hg q
theorem dk_g {B : Base} {D : Addr} {F p : List Addr} {H : Hp} {ws : List W} {ps : List (V × V)} {c : Cell} {Q : Hp → Prop} (e : (kvsOf ws).map Cell.dk = some c) (r : RWs B (D :: F) p H ws (flat ps)) (hD : H D = some (.dK []))
    (q : ∀ o', RC B (D :: F) p (upd H D o') c o' → Q (upd H D o')) : puts D ps H Q := by
  obtain ⟨kvs, e1, rfl⟩ := Option.map_eq_some_iff.mp e
  unfold kvsOf at e1
  obtain ⟨prs, e2, e1⟩ := bind_some_ e1
  obtain ⟨l, e3, e1⟩ := bind_some_ e1
  obtain ⟨e4, rfl⟩ := ite_some_ e1
  have hn := prs_len e3
  exact puts_dk (kw := []) (kv := []) (prs_rel e2 r) e3 hD ⟨rfl, RWs.nil⟩ (sz15 (by omega)) fun kv' rk => q _ ⟨kv', rfl, rk⟩
theorem dt_g {B : Base} {D : Addr} {F p : List Addr} {H : Hp} {ws : List W} {ps : List (V × V)} {c : Cell} {Q : Hp → Prop} (e : (tkvsOf ws).map Cell.dt = some c) (r : RWs B (D :: F) p H ws (flat ps)) (hD : H D = some (.dT []))
    (q : ∀ o', RC B (D :: F) p (upd H D o') c o' → Q (upd H D o')) : puts D ps H Q := by
  obtain ⟨kvs, e1, rfl⟩ := Option.map_eq_some_iff.mp e
  unfold tkvsOf at e1
  obtain ⟨prs, e2, e1⟩ := bind_some_ e1
  obtain ⟨l, e3, e1⟩ := bind_some_ e1
  obtain ⟨e4, rfl⟩ := ite_some_ e1
  have hn := tprs_len e3
  exact puts_dt (kw := []) (kv := []) (prs_rel e2 r) e3 hD ⟨rfl, RWs.nil⟩ (sz15 (by omega)) fun kv' rk => q _ ⟨kv', rfl, rk⟩
theorem k_dk0 {B : Base} {F : List Addr} {E : XK} {X : Cx} {pos : Pos} : PE X (.Dict [] [] pos) (tM B F E fun s h => (dMs [] s h).bind fun ws h1 => .of ((kvsOf ws).map .dk) h1) :=
  PE_imp pe_dnewK fun σ H Q ⟨p, s, h1, S, rs, o⟩ => fun a ha => Outc.done (rel := fun p H c o => RC B F p H c o) (a := Cell.dk []) (b := HO.dK []) o S ⟨[], rfl, rfl, RWs.nil⟩ a ha
theorem k_dt0 {B : Base} {F : List Addr} {E : XK} {X : Cx} {pos : Pos} : PE X (.Dict [] [] pos) (tM B F E fun s h => (dMs [] s h).bind fun ws h1 => .of ((tkvsOf ws).map .dt) h1) :=
  PE_imp pe_dnewT fun σ H Q ⟨p, s, h1, S, rs, o⟩ => fun a ha => Outc.done (rel := fun p H c o => RC B F p H c o) (a := Cell.dt []) (b := HO.dT []) o S ⟨[], rfl, rfl, RWs.nil⟩ a ha
theorem chkP_shape {nm : Nat → Option Str} {N : List Str} {sc : Scope} {st : List Str} : ∀ {es : Es} {ks : List (Option Expr)} {vs : List Expr}, chkP nm N sc st es ks vs = true → ks.all (·.isSome) = true ∧ ks.length = vs.length
  | .nil, ks, vs, h => by
    rw [chkP] at h
    simp only [Bool.and_eq_true, List.isEmpty_iff] at h
    rw [h.1, h.2]; exact ⟨rfl, rfl⟩
  | .cons k .nil, ks, vs, h => by simp [chkP] at h
  | .cons k (.cons v r), some k' :: ks', v' :: vs', h => by
    simp only [chkP, Bool.and_eq_true] at h
    obtain ⟨h1, h2⟩ := chkP_shape h.2
    exact ⟨by simp [h1], by simp [h2]⟩
  | .cons k (.cons v r), none :: _, _, h => by simp [chkP] at h
  | .cons k (.cons v r), [], _, h => by simp [chkP] at h
  | .cons k (.cons v r), some _ :: _, [], h => by simp [chkP] at h
end Vm

/-! VmSnd2: the soundness of expressions. -/
namespace Vm
open PySem PySem.Spec PyProof.Rows L2

theorem evo_none {C : Ctx} : evo C .none = fun _ h => .ok none h := by funext s h; simp only [evo]
theorem evo_some {C : Ctx} {e : E} : evo C (.some e) = fun s h => ((ev C e).1 s h).bind fun x h1 => .of ((asInt x).map some) h1 := by funext s h; simp only [evo]
theorem evc_none {C : Ctx} : evc C .none = fun _ h => .ok true h := by funext s h; simp only [evc]
theorem evc_some {C : Ctx} {e : E} : evc C (.some e) = (ev C e).2 := by funext s h; simp only [evc]
theorem two_args {m1 m2 : VS → VH → Vm.R W} : (fun s h => (m1 s h).bind fun x h1 => ((m2 s h1).bind fun y h2 => (Vm.R.ok ([] : List W) h2).bind fun xs h3 => Vm.R.ok (y :: xs) h3).bind fun ys h4 => Vm.R.ok (x :: ys) h4) =
    fun s h => (m1 s h).bind fun x h1 => (m2 s h1).bind fun y h2 => .ok [x, y] h2 := by
  funext s h
  cases m1 s h with
  | ok x h1 =>
    simp only [Vm.R.bind_ok]
    cases m2 s h1 <;> rfl
  | _ => rfl
section
variable {B : Base} {C : Ctx} {nm : Nat → Option Str} {N : List Str} {k : Nat}
mutual
theorem sE (hC : Sound B C nm k) : ∀ (e : E) {x : Expr} {F : List Addr} {E' : XK} {X : Cx} {sc : Scope} {st : List Str}, Good B sc N st E' k X → chkE nm N sc st e x = true → SD B F E' X x (ev C e)
  | .non, x, F, E', X, sc, st, G, h => by
    unfold chkE at h
    split at h
    · rw [ev]; exact t_truth G e_non fun _ _ => rfl
    · cases h
  | .bl b, x, F, E', X, sc, st, G, h => by
    unfold chkE at h
    split at h
    · have e := eq_of_beq h
      subst e
      rw [ev]; exact t_truth G e_bl fun _ _ => rfl
    · cases h
  | .int b, x, F, E', X, sc, st, G, h => by
    unfold chkE at h
    split at h
    · have e := of_decide_eq_true h
      subst e
      rw [ev]; exact t_truth G e_int fun _ _ => rfl
    · cases h
  | .str b, x, F, E', X, sc, st, G, h => by
    unfold chkE at h
    split at h
    · have e := of_decide_eq_true h
      subst e
      rw [ev]; exact t_truth G e_str fun _ _ => rfl
    · cases h
  | .var i, x, F, E', X, sc, st, G, h => by
    unfold chkE at h
    split at h
    · simp only [Bool.and_eq_true, decide_eq_true_eq, Bool.not_eq_true'] at h
      rw [ev]; exact t_truth G (e_var G h.1.1 h.1.2 h.2) fun _ _ => rfl
    · cases h
  | .glb z, x, F, E', X, sc, st, G, h => by
    unfold chkE at h
    split at h
    · simp only [Bool.and_eq_true, decide_eq_true_eq, Bool.not_eq_true'] at h
      obtain ⟨⟨rfl, h2⟩, h3⟩ := h
      rw [ev]; exact t_truth G (e_glb G hC.gv h2 h3) fun _ _ => rfl
    · cases h
  | .bin o a b, x, F, E', X, sc, st, G, h => by
    unfold chkE at h
    split at h
    · simp only [Bool.and_eq_true, decide_eq_true_eq] at h
      obtain ⟨⟨rfl, h2⟩, h3⟩ := h
      rw [ev]; exact t_truth G (e_bin G (sE hC a G h2).1 (sE hC b G h3).1) fun _ _ => rfl
    · cases h
  | .neg a, x, F, E', X, sc, st, G, h => by
    unfold chkE at h
    split at h
    · rw [ev]; exact t_truth G (e_neg (sE hC a G h).1) fun _ _ => rfl
    · cases h
  | .cmp o a b, x, F, E', X, sc, st, G, h => by
    unfold chkE at h
    split at h
    · simp only [Bool.and_eq_true, decide_eq_true_eq] at h
      obtain ⟨⟨⟨rfl, h1⟩, h2⟩, h3⟩ := h
      rw [ev]; exact SD.of_bl (c_cmp G (sE hC a G h2).1 (sE hC b G h3).1 (set_no h1))
    · cases h
  | .chn o1 o2 a b c, x, F, E', X, sc, st, G, h => by
    unfold chkE at h
    split at h
    · simp only [Bool.and_eq_true, decide_eq_true_eq] at h
      obtain ⟨⟨⟨⟨⟨rfl, rfl⟩, h1⟩, h2⟩, h3⟩, h4⟩ := h
      rw [ev]; exact SD.of_bl (c_chn G (sE hC a G h2).1 (sE hC b G h3).1 (sE hC c G h4).1 (set_no h1))
    · cases h
  | .bop con es, x, F, E', X, sc, st, G, h => by
    unfold chkE at h
    split at h
    · simp only [Bool.and_eq_true, decide_eq_true_eq] at h
      obtain ⟨⟨rfl, h1⟩, h2⟩ := h
      have z := sB hC es con (pos := ‹Pos›) (F := F) G (by intro q; subst q; simp at h1) h2
      rw [ev]
      exact ⟨z.1, z.2.pt⟩
    · cases h
  | .not a, x, F, E', X, sc, st, G, h => by
    unfold chkE at h
    split at h
    · rw [ev]; exact d_not (sE hC a G h)
    · cases h
  | .ite c a b, x, F, E', X, sc, st, G, h => by
    unfold chkE at h
    split at h
    · simp only [Bool.and_eq_true] at h
      rw [ev]; exact ⟨d_ite (sE hC c G h.1.1) (sE hC a G h.1.2).1 (sE hC b G h.2).1, bad_t⟩
    · cases h
  | .tup es, x, F, E', X, sc, st, G, h => by
    unfold chkE at h
    split at h
    · simp only [Bool.and_eq_true] at h
      rw [ev]; exact t_truth G (e_tup (sEs hC es G h.1 h.2)) fun _ _ => rfl
    · cases h
  | .frz m, x, F, E', X, sc, st, G, h => by
    unfold chkE at h
    have z := sM hC m (F := F) G h
    rw [ev]; exact t_truth G (m_frz z.1) z.2
  | .cel m, x, F, E', X, sc, st, G, h => by
    unfold chkE at h
    have z := sM hC m (F := F) G h
    rw [ev]; exact t_truth G (m_cel z.1) z.2
  | .ix a i, x, F, E', X, sc, st, G, h => by
    unfold chkE at h
    split at h
    · simp only [Bool.and_eq_true] at h
      rw [ev]; exact t_truth G (e_ix G (sE hC a G h.1.2).1 (sE hC i G h.2).1 h.1.1) fun _ _ => rfl
    · cases h
  | .slc a lo hi, x, F, E', X, sc, st, G, h => by
    unfold chkE at h
    split at h
    · simp only [Bool.and_eq_true] at h
      rw [ev]; exact t_truth G (e_slc G (sE hC a G h.1.1).1 (sO hC lo G h.1.2) (sO hC hi G h.2)) fun _ _ => rfl
    · cases h
  | .call f es, x, F, E', X, sc, st, G, h => by
    unfold chkE at h
    split at h
    · rename_i y p1 l p2
      simp only [Bool.and_eq_true, decide_eq_true_eq] at h
      obtain ⟨⟨⟨h1, h2⟩, h3⟩, h4⟩ := h
      obtain ⟨a, fd, ps, Fn, bn, hl⟩ := hC.fn f y h1
      have hs := sEs hC es (F := F) G h3 h4
      cases l with
      | nil =>
        cases es with
        | nil =>
          have z : (ev C (.call f .nil)) = mkDn fun s h => C.call f [] h := by
            rw [ev, evs_nil]; rfl
          rw [z]
          exact t_truth G (e_call0 G Fn bn hl h2) fun _ _ => rfl
        | cons _ _ => simp [chkEs] at h4
      | cons e l => rw [ev]; exact t_truth G (e_call G Fn bn hl h3 h2 hs) fun _ _ => rfl
    · cases h
  | .blt b es, x, F, E', X, sc, st, G, h => by
    unfold chkE at h
    split at h
    · rename_i y p1 l p2
      simp only [Bool.and_eq_true, decide_eq_true_eq] at h
      obtain ⟨⟨⟨⟨rfl, h1⟩, h2⟩, h3⟩, h4⟩ := h
      have hs := sEs hC es (F := F) G h3 h4
      cases l with
      | nil => simp at h1
      | cons e l => rw [ev]; exact t_truth G (e_blt G hC.fr h3 h2 hs) fun _ _ => rfl
    · cases h
  | .mth m o es, x, F, E', X, sc, st, G, h => by
    unfold chkE at h
    split at h
    · rename_i o' y apos l cpos
      simp only [Bool.and_eq_true, decide_eq_true_eq] at h
      obtain ⟨⟨⟨⟨⟨⟨rfl, h1⟩, h2⟩, h3⟩, h4⟩, h5⟩, h6⟩ := h
      have ho := (sE hC o (F := F) G h4).1
      rw [ev]
      refine t_truth G ?_ fun _ _ => rfl
      cases es with
      | nil =>
        cases l with
        | nil =>
          rw [evs_nil]
          cases m <;> simp at h6
          exact m_pop0 ho h1 h2
        | cons _ _ => simp [chkEs] at h5
      | cons e1 r1 =>
        cases l with
        | nil => simp [chkEs] at h5
        | cons e1' l =>
          rw [chkEs] at h5
          simp only [Bool.and_eq_true] at h5
          have he1 := (sE hC e1 (F := F) G h5.1).1
          cases r1 with
          | nil =>
            cases l with
            | nil =>
              rw [evs_cons, evs_nil]
              cases m
              · exact m_append ho he1 h3 h1 h2
              · exact m_pop1 ho he1 h3 h1 h2
              · exact m_get1 G ho he1 h3 h1 h2
            | cons _ _ => simp [chkEs] at h5
          | cons e2 r2 =>
            cases l with
            | nil => simp [chkEs] at h5
            | cons e2' l =>
              rw [chkEs] at h5
              simp only [Bool.and_eq_true] at h5
              have he2 := (sE hC e2 (F := F) G h5.2.1).1
              cases r2 with
              | nil =>
                cases l with
                | nil =>
                  rw [evs_cons, evs_cons, evs_nil]
                  cases m <;> simp at h6
                  have z := m_get2 G ho he1 he2 h3 h1 h2
                  rw [← two_args] at z
                  exact z
                | cons _ _ => simp [chkEs] at h5
              | cons _ _ =>
                cases l with
                | nil => simp [chkEs] at h5
                | cons _ _ => cases m <;> simp at h6
    · cases h
theorem sEs (hC : Sound B C nm k) : ∀ (es : Es) {l : List Expr} {F : List Addr} {E' : XK} {X : Cx} {sc : Scope} {st : List Str}, Good B sc N st E' k X → notStars l = true → chkEs nm N sc st es l = true → PA X l (tA B F E' (evs C es))
  | .nil, l, F, E', X, sc, st, G, hn, h => by
    rw [chkEs, List.isEmpty_iff] at h
    subst h
    rw [evs_nil]; exact a_nil
  | .cons e r, l, F, E', X, sc, st, G, hn, h => by
    unfold chkEs at h
    split at h
    · simp only [Bool.and_eq_true] at h
      simp only [notStars, Bool.and_eq_true] at hn
      rw [evs_cons]; exact a_cons hn.1 (sE hC e G h.1).1 (sEs hC r G hn.2 h.2)
    · cases h
theorem sB (hC : Sound B C nm k) : ∀ (es : Es) (con : Bool) {l : List Expr} {pos : Pos} {F : List Addr} {E' : XK} {X : Cx} {sc : Scope} {st : List Str}, Good B sc N st E' k X → l ≠ [] → chkEs nm N sc st es l = true → SB B F E' X (if con then .And else .Or) pos l (evb C con es)
  | .nil, con, l, pos, F, E', X, sc, st, G, hn, h => by
    rw [chkEs, List.isEmpty_iff] at h
    exact absurd h hn
  | .cons e .nil, con, l, pos, F, E', X, sc, st, G, hn, h => by
    unfold chkEs at h
    split at h
    · simp only [chkEs, Bool.and_eq_true, List.isEmpty_iff] at h
      obtain ⟨h1, rfl⟩ := h
      rw [evb]; exact b_one (sE hC e G h1)
    · cases h
  | .cons e (.cons e2 r2), con, l, pos, F, E', X, sc, st, G, hn, h => by
    unfold chkEs at h
    split at h
    · rename_i e' r'
      simp only [Bool.and_eq_true] at h
      obtain ⟨h1, h2⟩ := h
      cases r' with
      | nil => simp [chkEs] at h2
      | cons e2' r2' =>
        have z := sB hC (.cons e2 r2) con (pos := pos) (F := F) G (by simp) h2
        have e0 : evb C con (.cons e (.cons e2 r2)) = (
            (fun s h => ((ev C e).1 s h).bind fun x h1 => match asBl x with
              | some b => if b = con then (evb C con (.cons e2 r2)).1 s h1 else .ok (.bl b) h1
              | none => .bad),
            fun s h => ((ev C e).2 s h).bind fun b h1 => if b = con then (evb C con (.cons e2 r2)).2 s h1 else .ok b h1) := by
          rw [evb]
          all_goals first | rfl | (intro q; cases q)
        rw [e0]
        exact b_cons (sE hC e G h1) z
    · cases h
theorem sO (hC : Sound B C nm k) : ∀ (e : Eo) {x : Option Expr} {F : List Addr} {E' : XK} {X : Cx} {sc : Scope} {st : List Str}, Good B sc N st E' k X → chkO nm N sc st e x = true → PO X x (tP B F E' (evo C e))
  | .none, x, F, E', X, sc, st, G, h => by
    rw [chkO, Option.isNone_iff_eq_none] at h
    subst h
    rw [evo_none]; exact o_none
  | .some e, x, F, E', X, sc, st, G, h => by
    unfold chkO at h
    split at h
    · rw [evo_some]; exact o_some (sE hC e G h).1
    · cases h
theorem sP (hC : Sound B C nm k) : ∀ (es : Es) {ks : List (Option Expr)} {vs : List Expr} {pos : Pos} {F : List Addr} {E' : XK} {X : Cx} {sc : Scope} {st : List Str}, Good B sc N st E' k X → chkP nm N sc st es ks vs = true → PPs X pos ks vs (dTr B F E' (esDs C es))
  | .nil, ks, vs, pos, F, E', X, sc, st, G, h => by
    rw [chkP] at h
    simp only [Bool.and_eq_true, List.isEmpty_iff] at h
    obtain ⟨rfl, rfl⟩ := h
    exact pps_nil
  | .cons e .nil, ks, vs, pos, F, E', X, sc, st, G, h => by simp [chkP] at h
  | .cons e (.cons e2 r), some a :: ks, b :: vs, pos, F, E', X, sc, st, G, h => by
    simp only [chkP, Bool.and_eq_true] at h
    exact pps_cons (PE_ex fun D => (sE hC e (F := D :: F) G h.1.1).1) (PE_ex fun D => (sE hC e2 (F := D :: F) G h.1.2).1) (sP hC r G h.2)
  | .cons e (.cons e2 r), none :: _, _, pos, F, E', X, sc, st, G, h => by simp [chkP] at h
  | .cons e (.cons e2 r), [], _, pos, F, E', X, sc, st, G, h => by simp [chkP] at h
  | .cons e (.cons e2 r), some _ :: _, [], pos, F, E', X, sc, st, G, h => by simp [chkP] at h
theorem sM (hC : Sound B C nm k) : ∀ (m : Mk) {x : Expr} {F : List Addr} {E' : XK} {X : Cx} {sc : Scope} {st : List Str}, Good B sc N st E' k X → chkM nm N sc st m x = true → KM B F E' X x (evm C m)
  | .lst es, x, F, E', X, sc, st, G, h => by
    unfold chkM at h
    split at h
    · simp only [Bool.and_eq_true] at h
      have e0 : evm C (.lst es) = fun s h => (evs C es s h).bind fun ws h1 => if ws.length ≤ sizeLine then .ok (.lst ws) h1 else .bad := by funext s h; rw [evm]
      rw [e0]; exact ⟨k_lst (sEs hC es G h.1 h.2), fun _ _ => rfl⟩
    · cases h
  | .lc own tg it ifs elt, x, F, E', X, sc, st, G, h => by
    unfold chkM at h
    split at h
    · rename_i elt' tg' it' ifs' scope pos
      simp only [Bool.and_eq_true] at h
      obtain ⟨⟨⟨⟨⟨⟨⟨h1, h2⟩, h3⟩, h4⟩, h5⟩, h6⟩, h7⟩, h8⟩ := h
      have e0 : evm C (.lc own tg it ifs elt) = lcRun tg own (evi C it) (evc C ifs) (ev C elt).1 := by funext s h; rw [evm]
      rw [e0]
      refine ⟨PE_imp (pe_lc (own := ownP N own) G.calm (by rw [G.hN]; exact G.nd) (sI hC it (F := F) G h1) (by rw [G.hN, G.hs]; exact blkOk_by h3) (fun s H Cc cl fp => pg_tg (G.blk h5) h6)
        (fun s H Cc cl fp => PTs_ex fun D => sC hC ifs (F := D :: F) (G.blk h5) h7) (fun s H Cc cl fp => PE_ex fun D => (sE hC elt (F := D :: F) (G.blk h5) h8).1) (fold_none h2)) fun σ H Q q => ?_, fun _ _ => rfl⟩
      rw [ownP_snd]
      exact lc_read (evi_ok C it) (fun i hi => of_decide_eq_true (List.all_eq_true.mp h4 i hi)) q
    · cases h
  | .lc2 own tg it tg1 it1 elt, x, F, E', X, sc, st, G, h => by
    unfold chkM at h
    split at h
    · rename_i elt' tg' it' tg1' it1' scope pos
      simp only [Bool.and_eq_true] at h
      obtain ⟨⟨⟨⟨⟨⟨⟨⟨⟨⟨h1, h2⟩, h2'⟩, h3⟩, h4⟩, h4'⟩, h5⟩, h6⟩, h6'⟩, h7⟩, h8⟩ := h
      have e0 : evm C (.lc2 own tg it tg1 it1 elt) = lcRun2 tg tg1 own (evi C it) (evi C it1) (ev C elt).1 := by funext s h; rw [evm]
      rw [e0]
      refine ⟨PE_imp (pe_lc2 (own := ownP N own) (vs1 := tg1.slots) G.calm (by rw [G.hN]; exact G.nd) (sI hC it (F := F) G h1) (by rw [G.hN, G.hs]; exact blkOk_by h3) (fun i hi => by rw [ownP_snd]; exact of_decide_eq_true (List.all_eq_true.mp h4' i hi))
        (fun s H Cc cl fp => pg_tg (G.blk h5) h6) (fun s H Cc cl fp => pts_nil)
        (fun s H Cc cl fp => PI_ex fun D => sI hC it1 (F := D :: F) (G.blk h5) h7) (fun s H Cc cl fp => pg_tg (G.blk h5) h6') (fun s H Cc cl fp => pts_nil)
        (fun s H Cc cl fp => PE_ex fun D => (sE hC elt (F := D :: F) (G.blk h5) h8).1) (fold_none h2) (fun env => fold_none h2')) fun σ H Q q => ?_, fun _ _ => rfl⟩
      rw [ownP_snd]
      exact lc2_read (evi_ok C it) (evi_ok C it1) (fun i hi => of_decide_eq_true (List.all_eq_true.mp h4 i hi)) q
    · cases h
  | .list e, x, F, E', X, sc, st, G, h => by
    unfold chkM at h
    split at h
    · simp only [Bool.and_eq_true, decide_eq_true_eq] at h
      obtain ⟨⟨⟨rfl, h1⟩, h2⟩, h3⟩ := h
      have e0 : evm C (.list e) = fun s h => ((ev C e).1 s h).bind fun x h1 => .of ((asSeq h1 x).map .lst) h1 := by funext s h; rw [evm]
      rw [e0]; exact ⟨k_list G hC.fr h2 h1 (sE hC e G h3).1, fun _ _ => rfl⟩
    · cases h
  | .rng a, x, F, E', X, sc, st, G, h => by
    unfold chkM at h
    split at h
    · simp only [Bool.and_eq_true, decide_eq_true_eq] at h
      obtain ⟨⟨⟨⟨⟨rfl, rfl⟩, h1⟩, h2⟩, h3⟩, h4⟩ := h
      have e0 : evm C (.rng a) = fun s h => ((ev C a).1 s h).bind fun x h1 => .of ((asInt x).bind fun n => if rgOk 0 n ∧ n ≤ 2 ^ 24 then some (.lst (rgL 0 n)) else none) h1 := by funext s h; rw [evm]
      rw [e0]; exact ⟨k_rng G hC.fr h3 h2 h1 (sE hC a G h4).1, fun _ _ => rfl⟩
    · cases h
  | .rng2 a b, x, F, E', X, sc, st, G, h => by
    unfold chkM at h
    split at h
    · simp only [Bool.and_eq_true, decide_eq_true_eq] at h
      obtain ⟨⟨⟨⟨⟨⟨⟨rfl, rfl⟩, h1⟩, h2⟩, h3⟩, h3'⟩, h4⟩, h5⟩ := h
      have e0 : evm C (.rng2 a b) = fun s h => ((ev C a).1 s h).bind fun x h1 => ((ev C b).1 s h1).bind fun y h2 => .of ((asInt x).bind fun i => (asInt y).bind fun j => if rgOk i j ∧ j - i ≤ 2 ^ 24 then some (.lst (rgL i j)) else none) h2 := by funext s h; rw [evm]
      rw [e0]; exact ⟨k_rng2 G hC.fr h3 h3' h2 h1 (sE hC a G h4).1 (sE hC b G h5).1, fun _ _ => rfl⟩
    · cases h
  | .slc a lo hi, x, F, E', X, sc, st, G, h => by
    unfold chkM at h
    split at h
    · simp only [Bool.and_eq_true] at h
      have e0 : evm C (.slc a lo hi) = fun s h => ((ev C a).1 s h).bind fun x h1 => (evo C lo s h1).bind fun l h2 => (evo C hi s h2).bind fun u h3 => .of ((asLst h3 x).map fun xs => Cell.lst (cutL xs l u)) h3 := by funext s h; rw [evm]
      rw [e0]; exact ⟨k_slc G (sE hC a G h.1.1).1 (sO hC lo G h.1.2) (sO hC hi G h.2), fun _ _ => rfl⟩
    · cases h
  | .cat a b, x, F, E', X, sc, st, G, h => by
    unfold chkM at h
    split at h
    · simp only [Bool.and_eq_true] at h
      have e0 : evm C (.cat a b) = fun s h => ((ev C a).1 s h).bind fun x h1 => ((ev C b).1 s h1).bind fun y h2 => .of ((asLst h2 x).bind fun xs => (asLst h2 y).bind fun ys => if xs.length + ys.length ≤ sizeLine then some (.lst (xs ++ ys)) else none) h2 := by funext s h; rw [evm]
      rw [e0]; exact ⟨k_cat (sE hC a G h.1).1 (sE hC b G h.2).1, fun _ _ => rfl⟩
    · cases h
  | .rep a b, x, F, E', X, sc, st, G, h => by
    unfold chkM at h
    split at h
    · simp only [Bool.and_eq_true] at h
      have e0 : evm C (.rep a b) = fun s h => ((ev C a).1 s h).bind fun x h1 => ((ev C b).1 s h1).bind fun y h2 => .of ((asLst h2 x).bind fun xs => (asInt y).bind fun k =>
        if -(2 ^ 63) ≤ k ∧ k < 2 ^ 63 ∧ xs.length * k.toNat ≤ sizeLine then some (.lst (rep k.toNat xs)) else none) h2 := by funext s h; rw [evm]
      rw [e0]; exact ⟨k_rep (sE hC a G h.1).1 (sE hC b G h.2).1, fun _ _ => rfl⟩
    · cases h
  | .dk es, x, F, E', X, sc, st, G, h => by
    unfold chkM at h
    split at h
    · rename_i ks vs pos
      simp only [Bool.and_eq_true, decide_eq_true_eq] at h
      obtain ⟨hs1, hs2⟩ := chkP_shape h.2
      have e0 : evm C (.dk es) = fun s h => (dMs (esDs C es) s h).bind fun ws h1 => .of ((kvsOf ws).map .dk) h1 := by funext s hh; rw [evm, evs_ds h.2]
      rw [e0]
      refine ⟨?_, fun _ _ => rfl⟩
      cases es with
      | nil =>
        have h2 := h.2
        rw [chkP] at h2
        simp only [Bool.and_eq_true, List.isEmpty_iff] at h2
        obtain ⟨rfl, rfl⟩ := h2
        exact k_dk0
      | cons e r =>
        refine k_disp G h.1 (sP hC (.cons e r) G h.2) hs1 hs2 (fun z => ?_) (.inl rfl) dk_g
        subst z
        cases r <;> simp [chkP] at h
    · cases h
  | .dt es, x, F, E', X, sc, st, G, h => by
    unfold chkM at h
    split at h
    · rename_i ks vs pos
      simp only [Bool.and_eq_true, decide_eq_true_eq] at h
      obtain ⟨hs1, hs2⟩ := chkP_shape h.2
      have e0 : evm C (.dt es) = fun s h => (dMs (esDs C es) s h).bind fun ws h1 => .of ((tkvsOf ws).map .dt) h1 := by funext s hh; rw [evm, evs_ds h.2]
      rw [e0]
      refine ⟨?_, fun _ _ => rfl⟩
      cases es with
      | nil =>
        have h2 := h.2
        rw [chkP] at h2
        simp only [Bool.and_eq_true, List.isEmpty_iff] at h2
        obtain ⟨rfl, rfl⟩ := h2
        exact k_dt0
      | cons e r =>
        refine k_disp G h.1 (sP hC (.cons e r) G h.2) hs1 hs2 (fun z => ?_) (.inr rfl) dt_g
        subst z
        cases r <;> simp [chkP] at h
    · cases h
theorem sI (hC : Sound B C nm k) : ∀ (it : It) {tg x : Expr} {F : List Addr} {E' : XK} {X : Cx} {sc : Scope} {st : List Str}, Good B sc N st E' k X → chkI nm N sc st it tg x = true → PI X tg x (tI B F E' (evi C it))
  | .of e, tg, x, F, E', X, sc, st, G, h => by
    unfold chkI at h
    have e0 : evi C (.of e) = fun s h => ((ev C e).1 s h).bind fun x h1 => .of (itOf h1 x) h1 := by funext s h; rw [evi]
    rw [e0]; exact i_of G (sE hC e G h).1
  | .rng a, tg, x, F, E', X, sc, st, G, h => by
    unfold chkI at h
    split at h
    · simp only [Bool.and_eq_true, decide_eq_true_eq] at h
      obtain ⟨⟨⟨rfl, h1⟩, h2⟩, h3⟩ := h
      have e0 : evi C (.rng a) = fun s h => ((ev C a).1 s h).bind fun x h1 => .of ((asInt x).bind fun n => if rgOk 0 n then some ⟨rgL 0 n, fun _ => true⟩ else none) h1 := by funext s h; rw [evi]
      rw [e0]; exact i_rng G hC.fr h2 h1 (sE hC a G h3).1
    · cases h
  | .rng2 a b, tg, x, F, E', X, sc, st, G, h => by
    unfold chkI at h
    split at h
    · simp only [Bool.and_eq_true, decide_eq_true_eq] at h
      obtain ⟨⟨⟨⟨⟨rfl, h1⟩, h2⟩, h2'⟩, h3⟩, h4⟩ := h
      have e0 : evi C (.rng2 a b) = fun s h => ((ev C a).1 s h).bind fun x h1 => ((ev C b).1 s h1).bind fun y h2 => .of ((asInt x).bind fun i => (asInt y).bind fun j => if rgOk i j then some ⟨rgL i j, fun _ => true⟩ else none) h2 := by funext s h; rw [evi]
      rw [e0]; exact i_rng2 G hC.fr h2 h2' h1 (sE hC a G h3).1 (sE hC b G h4).1
    · cases h
  | .enum e, tg, x, F, E', X, sc, st, G, h => by
    unfold chkI at h
    split at h
    · simp only [Bool.and_eq_true, decide_eq_true_eq] at h
      obtain ⟨⟨⟨⟨rfl, h0⟩, h1⟩, h2⟩, h3⟩ := h
      cases tg <;> simp only [isTupE, Bool.false_eq_true] at h0
      have e0 : evi C (.enum e) = fun s h => ((ev C e).1 s h).bind fun x h1 => .of ((asLst h1 x).bind fun _ => (itOf h1 x).map enumI) h1 := by funext s h; rw [evi]
      rw [e0]; exact i_enum G hC.fr h2 h1 (sE hC e G h3).1
    · cases h
theorem sC (hC : Sound B C nm k) : ∀ (e : Eo) {l : List Expr} {F : List Addr} {E' : XK} {X : Cx} {sc : Scope} {st : List Str}, Good B sc N st E' k X → chkC nm N sc st e l = true → PTs X l (tT B F E' (evc C e))
  | .none, l, F, E', X, sc, st, G, h => by
    rw [chkC, List.isEmpty_iff] at h
    subst h
    rw [evc_none]
    exact ⟨fun pins s σ H Q I ⟨p, s0, h0, S, rs, o⟩ => pts_nil.run pins s σ H Q I (Outc.done (a := true) (b := true) o S rfl)⟩
  | .some e, l, F, E', X, sc, st, G, h => by
    unfold chkC at h
    split at h
    · rw [evc_some]; exact pts_one (sE hC e G h).2
    · cases h
end
end
end Vm

/-! VmSnd3: the soundness of statements. -/
namespace Vm
open PySem PySem.Spec PyProof.Rows L2

def isAug : Operator → Bool
  | .Add => true
  | .Sub => true
  | .Mult => true
  | _ => false
def isLC (e : Expr) : Bool := match e with
  | .ListComp _ _ _ _ => true
  | _ => false
section
variable (nm : Nat → Option Str) (N : List Str)
def mkOf : E → Option Mk
  | .frz m => some m
  | .cel m => some m
  | _ => none
mutual
def chkS (sc : Scope) (st : List Str) : S → Stmt → Bool
  | .ret e, x => match x with
    | .Return (some y) _ => chkE nm N sc st e y
    | _ => false
  | .retN, x => match x with
    | .Return none _ => true
    | _ => false
  | .expr e, x => match x with
    | .Expr y _ => notComp y && chkE nm N sc st e y
    | _ => false
  | .asg (.v i) e, x => match x with
    | .Assign [.Name v pp] y _ => chkNm sc N st v i && chkE nm N sc st e y && (notComp y || isLC y)
    | _ => false
  | .asg (.t ts) e, x => match x with
    | .Assign [.Tuple es kk tp] y _ => chkTg sc N st (.t ts) (.Tuple es kk tp) && notTup y && chkE nm N sc st e y
    | _ => false
  | .put o i e, x => match x with
    | .Assign [.Subscript o' i' _] y _ => notSlice i' && chkE nm N sc st o o' && chkE nm N sc st i i' && chkE nm N sc st e y
    | _ => false
  | .par _ _ _ _, _ => false
  | .augN i op e, x => match x with
    | .AugAssign (.Name v _) op' y _ => chkNm sc N st v i && decide (op = op') && isAug op && chkE nm N sc st e y
    | _ => false
  | .augS o i op e, x => match x with
    | .AugAssign (.Subscript o' i' _) op' y _ => notSlice i' && decide (op = op') && isAug op && chkE nm N sc st o o' && chkE nm N sc st i i' && chkE nm N sc st e y
    | _ => false
  | .del o i, x => match x with
    | .Delete [.Subscript o' i' _] _ => chkE nm N sc st o o' && chkE nm N sc st i i'
    | _ => false
  | .iff c a b, x => match x with
    | .If c' a' b' _ => chkE nm N sc st c c' && chkSs sc st a a' && chkSs sc st b b'
    | _ => false
  | .fr tg it b, x => match x with
    | .For tg' it' b' [] _ => chkTg sc N st tg tg' && chkI nm N sc st it tg' it' && notSet it' && chkSs sc st b b'
    | _ => false
  | .wh c b, x => match x with
    | .While c' b' [] _ => chkE nm N sc st c c' && chkSs sc st b b'
    | _ => false
  | .pass, x => match x with
    | .Pass _ => true
    | _ => false
def chkSs (sc : Scope) (st : List Str) : Ss → List Stmt → Bool
  | .nil, l => l.isEmpty
  | .cons a r, l => match l with
    | a' :: r' => chkS sc st a a' && chkSs sc st r r'
    | [] => false
end
end
theorem aug_any {op : Operator} (h : isAug op = true) : ∃ x y w, augV op x y = some w := by
  cases op <;> first | exact absurd h (by decide) | exact ⟨.int 0, .int 0, .int 0, by simp [augV, mulOk]⟩
section
variable {B : Base} {F : List Addr} {E' : XK} {X : Cx} {sc : Scope} {N st : List Str} {C : Ctx} {nm : Nat → Option Str} {k : Nat}
theorem cel_read {m : VS → VH → R Cell} {σ : L2.St} {H : Hp} {Q : VK} (q : tE B F E' (fun s h => (m s h).bind fun c h1 => .ok (.ref h1.length) (h1 ++ [c])) σ H Q) : tM B F E' m σ H Q := by
  obtain ⟨p, s, h1, S, rs, o⟩ := q
  refine ⟨p, s, h1, S, rs, Outc.bind o fun c h2 p2 H2 ob A2 S2 r2 o2 => fun a ha => ?_⟩
  refine o2 (p2 ++ [a]) _ _ (After.cell ha) (S2.cell ha (r2.after (After.cell ha))) ?_
  simp only [RW]
  exact ⟨a, rfl, by rw [← S2.len]; simp⟩
theorem frz_read {m : VS → VH → R Cell} {σ : L2.St} {H : Hp} {Q : VK} (q : tE B F E' (fun s h => (m s h).bind fun c h1 => .of (cellW c) h1) σ H Q) : tM B F E' m σ H Q := by
  obtain ⟨p, s, h1, S, rs, o⟩ := q
  refine ⟨p, s, h1, S, rs, Outc.bind o fun c h2 p2 H2 ob A2 S2 r2 o2 => fun a ha => ?_⟩
  obtain ⟨w, e, o2⟩ := Outc.of_ o2
  refine o2 p2 _ _ (After.laid ha) (S2.laid ha) ?_
  cases c with
  | lst xs =>
    cases e
    obtain ⟨vs, rfl, r⟩ := r2
    exact new_lst S2 r ha
  | dk kvs =>
    cases e
    obtain ⟨ws, rfl, r⟩ := r2
    exact new_dct S2 r ha
  | _ => cases e
/-- name = [..], stored by the block's end -/
theorem s_setC (hC : Sound B C nm k) (G : Good B sc N st E' k X) {i : Nat} {v : Str} {pp pos vp : Pos} {elt : Expr} {gens : List Comprehension} {s : Scope} {m : Mk} (hx : chkNm sc N st v i = true) (hsw : swC sc v pp (.ListComp elt gens s vp) = true) (h : chkM nm N sc st m (.ListComp elt gens s vp) = true) :
    PS X (.Assign [.Name v pp] (.ListComp elt gens s vp) pos) (fun D σ H => tM B F E' (evm C m) σ H fun x H1 => D.nx (σ.set i (some x)) H1) := by
  simp only [chkNm, Bool.and_eq_true, decide_eq_true_eq] at hx
  have hloc : X.env.scope.names.lookup v = some .local := by
    rw [G.hs]
    simp only [swC, Bool.and_eq_true, beq_iff_eq] at hsw
    exact hsw.1.1.2
  have hsw2 : ∀ l, swapsWith (.ListComp elt gens s vp) (some (.Name v pp)) l X.env = pure true := fun l => by rw [swaps_of G.hs, hsw]
  cases m with
  | lc own tg it ifs elt0 =>
    unfold chkM at h
    split at h
    · rename_i heq
      cases heq
      simp only [Bool.and_eq_true] at h
      obtain ⟨⟨⟨⟨⟨⟨⟨h1, h2⟩, h3⟩, h4⟩, h5⟩, h6⟩, h7⟩, h8⟩ := h
      have e0 : evm C (.lc own tg it ifs elt0) = lcRun tg own (evi C it) (evc C ifs) (ev C elt0).1 := by funext s h; rw [evm]
      rw [e0]
      refine PS_imp (ps_setLc (i := i) (own := ownP N own) G.calm (by rw [G.hN]; exact G.nd) (by rw [G.hN]; exact hx.1.1) hloc (hsw2 _) (sI hC it (F := F) G h1) (by rw [G.hN, G.hs]; exact blkOk_by h3) (fun s H Cc cl fp => pg_tg (G.blk h5) h6)
        (fun s H Cc cl fp => PTs_ex fun D => sC hC ifs (F := D :: F) (G.blk h5) h7) (fun s H Cc cl fp => PE_ex fun D => (sE hC elt0 (F := D :: F) (G.blk h5) h8).1) (fold_none h2)) fun D σ H q => ?_
      rw [ownP_snd]
      exact lc_read (evi_ok C it) (fun i hi => of_decide_eq_true (List.all_eq_true.mp h4 i hi)) q
    · cases h
  | lc2 own tg it tg1 it1 elt0 =>
    unfold chkM at h
    split at h
    · rename_i heq
      cases heq
      simp only [Bool.and_eq_true] at h
      obtain ⟨⟨⟨⟨⟨⟨⟨⟨⟨⟨h1, h2⟩, h2'⟩, h3⟩, h4⟩, h4'⟩, h5⟩, h6⟩, h6'⟩, h7⟩, h8⟩ := h
      have e0 : evm C (.lc2 own tg it tg1 it1 elt0) = lcRun2 tg tg1 own (evi C it) (evi C it1) (ev C elt0).1 := by funext s h; rw [evm]
      rw [e0]
      refine PS_imp (ps_setLc2 (i := i) (own := ownP N own) (vs1 := tg1.slots) G.calm (by rw [G.hN]; exact G.nd) (by rw [G.hN]; exact hx.1.1) hloc (hsw2 _) (sI hC it (F := F) G h1) (by rw [G.hN, G.hs]; exact blkOk_by h3) (fun i hi => by rw [ownP_snd]; exact of_decide_eq_true (List.all_eq_true.mp h4' i hi))
        (fun s H Cc cl fp => pg_tg (G.blk h5) h6) (fun s H Cc cl fp => pts_nil)
        (fun s H Cc cl fp => PI_ex fun D => sI hC it1 (F := D :: F) (G.blk h5) h7) (fun s H Cc cl fp => pg_tg (G.blk h5) h6') (fun s H Cc cl fp => pts_nil)
        (fun s H Cc cl fp => PE_ex fun D => (sE hC elt0 (F := D :: F) (G.blk h5) h8).1) (fold_none h2) (fun env => fold_none h2')) fun D σ H q => ?_
      rw [ownP_snd]
      exact lc2_read (evi_ok C it) (evi_ok C it1) (fun i hi => of_decide_eq_true (List.all_eq_true.mp h4 i hi)) q
    · cases h
  | _ => unfold chkM at h; simp at h
def exAsg (C : Ctx) (t : Tg) (e : E) : VS → VH → RS := fun s h => ((ev C e).1 s h).thn fun w h1 => match tgSet t w s with
  | some s1 => .nx s1 h1
  | none => .bad
theorem s_asgV (hC : Sound B C nm k) (G : Good B sc N st E' k X) {i : Nat} {v : Str} {pp pos : Pos} {y : Expr} {e : E} (hx : chkNm sc N st v i = true) (h : chkE nm N sc st e y = true) (hn : (notComp y || isLC y) = true) :
    PS X (.Assign [.Name v pp] y pos) (tS B F E' (exAsg C (.v i) e)) := by
  by_cases hc : notComp y = true
  · exact s_asgN G hx (swaps_none hc) (sE hC e G h).1
  · cases y <;> first | exact absurd rfl hc | skip
    · rename_i elt gens s vp
      cases hsw : swC sc v pp (.ListComp elt gens s vp) with
      | false => exact s_asgN G hx (by rw [swaps_of G.hs, hsw]) (sE hC e G h).1
      | true =>
        cases e <;> first | (unfold chkE at h; simp at h; done) | skip
        · rename_i m
          unfold chkE at h
          refine PS_imp (s_setC (F := F) hC G hx hsw h) fun D σ H q => ?_
          have z : tAsg (tE B F E' (ev C (.frz m)).1) (gName i) D σ H := tAsg_read (t := .v i) q
          have e0 : (ev C (.frz m)).1 = fun s h => (evm C m s h).bind fun c h1 => .of (cellW c) h1 := by rw [ev]; rfl
          rw [e0] at z
          exact frz_read z
        · rename_i m
          unfold chkE at h
          refine PS_imp (s_setC (F := F) hC G hx hsw h) fun D σ H q => ?_
          have z : tAsg (tE B F E' (ev C (.cel m)).1) (gName i) D σ H := tAsg_read (t := .v i) q
          have e0 : (ev C (.cel m)).1 = fun s h => (evm C m s h).bind fun c h1 => .ok (.ref h1.length) (h1 ++ [c]) := by rw [ev]; rfl
          rw [e0] at z
          exact cel_read z
    all_goals simp [notComp, isLC] at hn
end
section
variable {B : Base} {C : Ctx} {nm : Nat → Option Str} {N : List Str} {k : Nat}
theorem exs_nil : exs C .nil = fun s h => .nx s h := by funext s h; rw [exs]
theorem exs_cons {a : S} {r : Ss} : exs C (.cons a r) = fun s h => (ex C a s h).bind fun s1 h1 => exs C r s1 h1 := by funext s h; rw [exs]
mutual
theorem sS (hC : Sound B C nm k) : ∀ (a : S) {x : Stmt} {F : List Addr} {E' : XK} {X : Cx} {sc : Scope} {st : List Str}, Good B sc N st E' k X → chkS nm N sc st a x = true → PS X x (tS B F E' (ex C a))
  | .ret e, x, F, E', X, sc, st, G, h => by
    unfold chkS at h
    split at h
    · have e0 : ex C (.ret e) = fun s h => ((ev C e).1 s h).thn fun w h1 => .rt w h1 := by
        funext s h
        rw [ex]
        try rfl
      rw [e0]; exact s_ret (sE hC e G h).1
    · cases h
  | .retN, x, F, E', X, sc, st, G, h => by
    unfold chkS at h
    split at h
    · have e0 : ex C .retN = fun _ h => .rt .non h := by
        funext s h
        rw [ex]
        try rfl
      rw [e0]; exact s_retN
    · cases h
  | .expr e, x, F, E', X, sc, st, G, h => by
    unfold chkS at h
    split at h
    · simp only [Bool.and_eq_true] at h
      have e0 : ex C (.expr e) = fun s h => ((ev C e).1 s h).thn fun _ h1 => .nx s h1 := by
        funext s h
        rw [ex]
        try rfl
      rw [e0]; exact s_expr h.1 (sE hC e G h.2).1
    · cases h
  | .asg (.v i) e, x, F, E', X, sc, st, G, h => by
    unfold chkS at h
    split at h
    · simp only [Bool.and_eq_true] at h
      have e0 : ex C (.asg (.v i) e) = exAsg C (.v i) e := by funext s h; rw [ex]; rfl
      rw [e0]; exact s_asgV hC G h.1.1 h.1.2 h.2
    · cases h
  | .asg (.t ts) e, x, F, E', X, sc, st, G, h => by
    unfold chkS at h
    split at h
    · simp only [Bool.and_eq_true] at h
      have e0 : ex C (.asg (.t ts) e) = exAsg C (.t ts) e := by funext s h; rw [ex]; rfl
      rw [e0]; exact s_asgT G h.1.1 h.1.2 (sE hC e G h.2).1
    · cases h
  | .put o i e, x, F, E', X, sc, st, G, h => by
    unfold chkS at h
    split at h
    · simp only [Bool.and_eq_true] at h
      have e0 : ex C (.put o i e) = fun s h => ((ev C e).1 s h).thn fun w h1 => ((ev C o).1 s h1).thn fun x h2 => ((ev C i).1 s h2).thn fun y h3 => match putW h3 x y w with
        | some h4 => .nx s h4
        | none => .bad := by
        funext s h
        rw [ex]
        try rfl
      rw [e0]; exact s_asgS G h.1.1.1 (sE hC o G h.1.1.2).1 (sE hC i G h.1.2).1 (sE hC e G h.2).1
    · cases h
  | .par _ _ _ _, x, F, E', X, sc, st, G, h => by simp [chkS] at h
  | .augN i op e, x, F, E', X, sc, st, G, h => by
    unfold chkS at h
    split at h
    · simp only [Bool.and_eq_true, decide_eq_true_eq] at h
      obtain ⟨⟨⟨h1, rfl⟩, h2⟩, h3⟩ := h
      have e0 : ex C (.augN i op e) = fun s h => match (s[i]?).bind id with
        | some x => ((ev C e).1 s h).thn fun y h1 => match augV op x y with
          | some w => .nx (s.set i (some w)) h1
          | none => .bad
        | none => .bad := by
        funext s h
        rw [ex]
        try rfl
      rw [e0]; exact s_augN G h1 (sE hC e G h3).1 (aug_any h2)
    · cases h
  | .augS o i op e, x, F, E', X, sc, st, G, h => by
    unfold chkS at h
    split at h
    · simp only [Bool.and_eq_true, decide_eq_true_eq] at h
      obtain ⟨⟨⟨⟨⟨h1, rfl⟩, h2⟩, h3⟩, h4⟩, h5⟩ := h
      have e0 : ex C (.augS o i op e) = fun s h => ((ev C o).1 s h).thn fun x h1 => ((ev C i).1 s h1).thn fun y h2 => match ixM h2 x y with
        | some z => ((ev C e).1 s h2).thn fun w h3 => match (augV op z w).bind fun r => putW h3 x y r with
          | some h4 => .nx s h4
          | none => .bad
        | none => .bad := by
        funext s h
        rw [ex]
        try rfl
      rw [e0]; exact s_augS G h1 (sE hC o G h3).1 (sE hC i G h4).1 (sE hC e G h5).1 (aug_any h2)
    · cases h
  | .del o i, x, F, E', X, sc, st, G, h => by
    unfold chkS at h
    split at h
    · simp only [Bool.and_eq_true] at h
      have e0 : ex C (.del o i) = fun s h => ((ev C o).1 s h).thn fun x h1 => ((ev C i).1 s h1).thn fun y h2 => match delW h2 x y with
        | some h3 => .nx s h3
        | none => .bad := by
        funext s h
        rw [ex]
        try rfl
      rw [e0]; exact s_del (sE hC o G h.1).1 (sE hC i G h.2).1
    · cases h
  | .iff c a b, x, F, E', X, sc, st, G, h => by
    unfold chkS at h
    split at h
    · simp only [Bool.and_eq_true] at h
      have e0 : ex C (.iff c a b) = fun s h => ((ev C c).2 s h).thn fun k h1 => if k then exs C a s h1 else exs C b s h1 := by
        funext s h
        rw [ex]
        try rfl
      rw [e0]; exact s_if (sE hC c G h.1.1).2 (sSs hC a G h.1.2) (sSs hC b G h.2)
    · cases h
  | .fr tg it b, x, F, E', X, sc, st, G, h => by
    unfold chkS at h
    split at h
    · simp only [Bool.and_eq_true] at h
      have e0 : ex C (.fr tg it b) = fun s h => (evi C it s h).thn fun iv h1 => forLoop iv.ok (fun x s1 h2 => match tgSet tg x s1 with
        | some s2 => exs C b s2 h2
        | none => .bad) iv.items s h1 := by
        funext s h
        rw [ex]
        try rfl
      rw [e0]; exact s_for G (evi_ok C it) (sI hC it G h.1.1.2) (pg_tg G h.1.1.1) (sSs hC b G h.2) (fold_none h.1.2)
    · cases h
  | .wh c b, x, F, E', X, sc, st, G, h => by
    unfold chkS at h
    split at h
    · simp only [Bool.and_eq_true] at h
      have e0 : ex C (.wh c b) = fun s h => whLoop (ev C c).2 (exs C b) C.fuel s h := by
        funext s h
        rw [ex]
        try rfl
      rw [e0]; exact s_wh G (sE hC c G h.1).2 (sSs hC b G h.2)
    · cases h
  | .pass, x, F, E', X, sc, st, G, h => by
    unfold chkS at h
    split at h
    · have e0 : ex C .pass = fun s h => .nx s h := by
        funext s h
        rw [ex]
        try rfl
      rw [e0]; exact s_pass
    · cases h
theorem sSs (hC : Sound B C nm k) : ∀ (a : Ss) {x : List Stmt} {F : List Addr} {E' : XK} {X : Cx} {sc : Scope} {st : List Str}, Good B sc N st E' k X → chkSs nm N sc st a x = true → PSs X x (tS B F E' (exs C a))
  | .nil, x, F, E', X, sc, st, G, h => by
    unfold chkSs at h
    rw [List.isEmpty_iff] at h
    subst h
    rw [exs_nil]; exact ss_nil
  | .cons a r, x, F, E', X, sc, st, G, h => by
    unfold chkSs at h
    split at h
    · simp only [Bool.and_eq_true] at h
      rw [exs_cons]; exact ss_cons (sS hC a G h.1) (sSs hC r G h.2)
    · cases h
end
end
end Vm

/-! VmTop: the defs: what the interpreter's calls compute, the model's calls do. -/
namespace Vm
open PySem PySem.Spec PyProof.Rows L2

section
variable {B : Base} {F F1 p p1 : List Addr} {H H1 : Hp} {h h1 : VH} {E : XK}
mutual
/-- a value without cells does not know where the cells are -/
theorem RW.free (k : ∀ a, a ∉ F1 → a ∉ p1 → a ∉ F ∧ a ∉ p) : ∀ {x : W} {v : V}, W.noRef x = true → RW B F1 p1 H x v → RW B F p H x v
  | .non, v, n, r => by simp only [RW] at r ⊢; exact r
  | .bl _, v, n, r => by simp only [RW] at r ⊢; exact r
  | .int _, v, n, r => by simp only [RW] at r ⊢; exact r
  | .str _, v, n, r => by simp only [RW] at r ⊢; exact r
  | .tup xs, v, n, r => by
    simp only [W.noRef] at n
    simp only [RW] at r ⊢
    obtain ⟨a, vs, e, n1, n2, g1, g2⟩ := r
    exact ⟨a, vs, e, (k a n1 n2).1, (k a n1 n2).2, g1, RWs.free k n g2⟩
  | .lst xs, v, n, r => by
    simp only [W.noRef] at n
    simp only [RW] at r ⊢
    obtain ⟨a, vs, e, n1, n2, g1, g2⟩ := r
    exact ⟨a, vs, e, (k a n1 n2).1, (k a n1 n2).2, g1, RWs.free k n g2⟩
  | .dct ks xs, v, n, r => by
    simp only [W.noRef] at n
    simp only [RW] at r ⊢
    obtain ⟨a, vs, e, n1, n2, g1, g2, g3⟩ := r
    exact ⟨a, vs, e, (k a n1 n2).1, (k a n1 n2).2, g1, g2, RWs.free k n g3⟩
  | .ref m, v, n, r => by simp [W.noRef] at n
  | .glb _, v, n, r => by simp only [RW] at r ⊢; exact r
  | .ty _, v, n, r => by simp only [RW] at r ⊢; exact r
  | .exc _ _ _, v, n, r => by simp only [RW] at r
  | .scr xs, v, n, r => by simp [W.noRef] at n
theorem RWs.free (k : ∀ a, a ∉ F1 → a ∉ p1 → a ∉ F ∧ a ∉ p) : ∀ {xs : List W} {vs : List V}, W.noRefs xs = true → RWs B F1 p1 H xs vs → RWs B F p H xs vs
  | [], vs, n, r => by simp only [RWs] at r ⊢; exact r
  | x :: xs, vs, n, r => by
    simp only [W.noRefs, Bool.and_eq_true] at n
    simp only [RWs] at r ⊢
    obtain ⟨v, us, e, g1, g2⟩ := r
    exact ⟨v, us, e, RW.free k n.1 g1, RWs.free k n.2 g2⟩
end
theorem notin2 : ∀ a, a ∉ F ++ p → a ∉ F ∧ a ∉ p := fun a n => ⟨fun z => n (List.mem_append_left _ z), fun z => n (List.mem_append_right _ z)⟩
mutual
theorem frz_rel (S : Sim B (F ++ p) p1 h1 H1) : ∀ {w w' : W} {v : V}, frz h1 w = some w' → RW B (F ++ p) p1 H1 w v → RW B F p H1 w' v
  | .non, w', v, e, r => by simp only [frz, Option.some.injEq] at e; subst e; simp only [RW] at r ⊢; exact r
  | .bl _, w', v, e, r => by simp only [frz, Option.some.injEq] at e; subst e; simp only [RW] at r ⊢; exact r
  | .int _, w', v, e, r => by simp only [frz, Option.some.injEq] at e; subst e; simp only [RW] at r ⊢; exact r
  | .str _, w', v, e, r => by simp only [frz, Option.some.injEq] at e; subst e; simp only [RW] at r ⊢; exact r
  | .tup xs, w', v, e, r => by
    simp only [frz, Option.map_eq_some_iff] at e
    obtain ⟨ys, e1, rfl⟩ := e
    simp only [RW] at r ⊢
    obtain ⟨a, vs, e, n1, n2, g1, g2⟩ := r
    exact ⟨a, vs, e, (notin2 a n1).1, (notin2 a n1).2, g1, frzs_rel S e1 g2⟩
  | .lst xs, w', v, e, r => by
    simp only [frz, Option.map_eq_some_iff] at e
    obtain ⟨ys, e1, rfl⟩ := e
    simp only [RW] at r ⊢
    obtain ⟨a, vs, e, n1, n2, g1, g2⟩ := r
    exact ⟨a, vs, e, (notin2 a n1).1, (notin2 a n1).2, g1, frzs_rel S e1 g2⟩
  | .dct ks xs, w', v, e, r => by
    simp only [frz, Option.map_eq_some_iff] at e
    obtain ⟨ys, e1, rfl⟩ := e
    simp only [RW] at r ⊢
    obtain ⟨a, vs, e, n1, n2, g1, g2, g3⟩ := r
    exact ⟨a, vs, e, (notin2 a n1).1, (notin2 a n1).2, g1, g2, frzs_rel S e1 g3⟩
  | .ref m, w', v, e, r => by
    simp only [frz] at e
    simp only [RW] at r
    obtain ⟨a, rfl, ha⟩ := r
    have hm : a ∉ F ++ p := S.dj a (List.mem_of_getElem? ha)
    split at e
    · rename_i xs hc
      obtain ⟨e1, rfl⟩ := ite_some_ e
      obtain ⟨ob, ho, vs, rfl, r⟩ := S.cel _ _ a hc ha
      simp only [RW]
      exact ⟨a, vs, rfl, (notin2 a hm).1, (notin2 a hm).2, ho, r.free (fun a n _ => notin2 a n) e1⟩
    · rename_i kvs hc
      obtain ⟨e1, rfl⟩ := ite_some_ e
      obtain ⟨ob, ho, ws, rfl, r⟩ := S.cel _ _ a hc ha
      simp only [RW]
      exact ⟨a, ws, rfl, (notin2 a hm).1, (notin2 a hm).2, ho, r.1, r.2.free (fun a n _ => notin2 a n) e1⟩
    · cases e
  | .glb _, w', v, e, r => by simp only [frz, Option.some.injEq] at e; subst e; simp only [RW] at r ⊢; exact r
  | .ty _, w', v, e, r => by simp only [frz, Option.some.injEq] at e; subst e; simp only [RW] at r ⊢; exact r
  | .exc _ _ _, w', v, e, r => by simp only [RW] at r
  | .scr xs, w', v, e, r => by
    simp only [frz] at e
    obtain ⟨e1, rfl⟩ := ite_some_ e
    simp only [RW] at r ⊢
    obtain ⟨a, vs, e, s, g2⟩ := r
    exact ⟨a, vs, e, s.imp fun o n1 n2 g1 => ⟨(notin2 a n1).1, (notin2 a n1).2, g1⟩, g2.free (fun a n _ => notin2 a n) e1⟩
theorem frzs_rel (S : Sim B (F ++ p) p1 h1 H1) : ∀ {xs ys : List W} {vs : List V}, frzs h1 xs = some ys → RWs B (F ++ p) p1 H1 xs vs → RWs B F p H1 ys vs
  | [], ys, vs, e, r => by simp only [frzs, Option.some.injEq] at e; subst e; simp only [RWs] at r ⊢; exact r
  | x :: xs, ys, vs, e, r => by
    simp only [frzs] at e
    split at e
    · rename_i y zs e1 e2
      cases e
      simp only [RWs] at r ⊢
      obtain ⟨v, us, e, g1, g2⟩ := r
      exact ⟨v, us, e, frz_rel S e1 g1, frzs_rel S e2 g2⟩
    · cases e
end
theorem frzX_rel (S : Sim B (F ++ p) p1 h1 H1) {w w' : W} {cls : Value} {d : Option Addr} (e : frz h1 w = some w') (r : RX B (F ++ p) p1 H1 w cls d) : RX B F p H1 w' cls d := by
  cases w with
  | exc c fs vs =>
    simp only [frz, Option.map_eq_some_iff] at e
    obtain ⟨ys, e1, rfl⟩ := e
    obtain ⟨C, g1, g2, us, r, hl, g3⟩ := r
    refine ⟨C, g1, g2, us, frzs_rel S e1 r, hl, ?_⟩
    rcases g3 with g3 | ⟨dd, ws, e, n1, n2, q1, q2⟩
    · exact .inl g3
    · exact .inr ⟨dd, ws, e, (notin2 dd n1).1, (notin2 dd n1).2, q1, q2⟩
  | _ => exact (r : False).elim
/-- a call that leaves the caller's cells alone -/
theorem pure_out {C : Ctx} {d : Def} {ws : List W} {vs : List V} {Q : VK} (S : Sim B F p h H) (r : RWs B F p H ws vs) (o : Outc B F (RWr B F) E p H (pureRun C d ws h) Q) :
    Sim B (F ++ p) [] [] H ∧ RWs B (F ++ p) [] H ws vs ∧ Outc B (F ++ p) (RWr B (F ++ p)) E [] H (bodyRun C d ws []) Q := by
  unfold pureRun at o
  by_cases hn : W.noRefs ws = true
  · rw [if_pos hn] at o
    have stay : ∀ {p1 : List Addr} {H1 : Hp}, After [] H p1 H1 → After p H p H1 ∧ Sim B F p h H1 := fun {p1 H1} A => by
      have A' : After p H p H1 := ⟨⟨[], by simp, by simp⟩, fun a o e _ => A.keep a o e (by simp), A.trk⟩
      refine ⟨A', S.len, S.nd, S.dj, fun n c a e1 e2 => ?_, fun a ha => ?_⟩
      · obtain ⟨ob, ho, rc⟩ := S.cel n c a e1 e2
        exact ⟨ob, A.keep a _ ho (by simp), rc.after A'⟩
      · obtain ⟨ob, ho⟩ := S.fr a ha
        exact ⟨ob, A.keep a _ ho (by simp)⟩
    refine ⟨⟨rfl, List.nodup_nil, by simp, fun n c a e1 e2 => by simp at e2, fun a ha => ?_⟩, ?_, ?_⟩
    · rcases List.mem_append.mp ha with z | z
      · exact S.fr a z
      · exact S.there a z
    · -- the arguments
      exact r.free (fun a n1 n2 => ⟨fun z => (List.mem_append.mp z).elim n1 n2, by simp⟩) hn
    · cases eb : bodyRun C d ws [] with
      | bad => rw [eb] at o; exact (o : False).elim
      | ok w h1 =>
        rw [eb] at o
        intro p1 H1 v A S1 rv
        obtain ⟨A', S'⟩ := stay A
        obtain ⟨w', ew, o⟩ := Outc.of_ (rel := RWr B F) o
        exact o p H1 v A' S' (frz_rel S1 ew rv)
      | exc x h1 =>
        rw [eb] at o
        dsimp only at o
        intro p1 H1 cls dd A S1 rv
        obtain ⟨A', S'⟩ := stay A
        cases ex : frz h1 x with
        | none => rw [ex] at o; exact (o : False).elim
        | some y =>
          rw [ex] at o
          exact o p H1 cls dd A' S' (frzX_rel S1 ex rv)
  · rw [if_neg hn] at o
    exact (o : False).elim

/-- the values at a def's entry -/
theorem start_rel {N : List Str} {ws : List W} {vs : List V} (r : RWs B F p H ws vs) : RL B F p H (Vm.start N ws) (L2.start N vs) := by
  have hl := r.length
  unfold Vm.start L2.start
  refine ⟨by simp [hl], fun i w e => ?_⟩
  by_cases hi : i < ws.length
  · rw [List.getElem?_append_left (by simpa using hi), List.getElem?_map] at e
    obtain ⟨x, e1, e2⟩ := Option.map_eq_some_iff.mp e
    cases e2
    obtain ⟨v, hv, rv⟩ := r.get e1
    exact ⟨v, by rw [List.getElem?_append_left (by simpa [← hl] using hi), List.getElem?_map, hv]; rfl, rv⟩
  · rw [List.getElem?_append_right (by simpa using hi), List.getElem?_replicate] at e
    split at e <;> cases e
theorem body_out {C : Ctx} {d : Def} {ws : List W} {vs : List V} {Q : VK} (S : Sim B F p h H) (r : RWs B F p H ws vs) (o : Outc B F (RWr B F) E p H (bodyRun C d ws h) Q) :
    tS B F E (exs C d.body) { nx := fun _ H' => Q .non H', rt := Q } (L2.start d.N vs) H := by
  refine ⟨p, Vm.start d.N ws, h, S, start_rel r, ?_⟩
  unfold bodyRun at o
  by_cases hl : ws.length = d.par.length
  · rw [if_pos hl] at o
    cases ee : exs C d.body (Vm.start d.N ws) h with
    | bad => rw [ee] at o; exact (o : False).elim
    | exc x h1 => rw [ee] at o; exact o
    | rt w h1 => rw [ee] at o; exact o
    | nx s h1 =>
      rw [ee] at o
      exact fun p' H' σ A S' rs => o p' H' .non A S' (by simp [RW])
  · rw [if_neg hl] at o
    exact (o : False).elim
theorem body_len {C : Ctx} {d : Def} {ws : List W} {h : VH} (hl : ws.length ≠ d.par.length) : bodyRun C d ws h = .bad := by
  unfold bodyRun
  rw [if_neg hl]
theorem call_len {P : Prog} {gv : Str → Option W} {n f : Nat} {d : Def} (hd : P[f]? = some d) {ws : List W} {h : VH} (hl : ws.length ≠ d.par.length) : callN P gv n f ws h = .bad := by
  cases n with
  | zero => rfl
  | succ n =>
    unfold callN
    rw [hd]
    dsimp only
    split
    · unfold pureRun
      rw [body_len hl]
      split <;> rfl
    · exact body_len hl
end

/-! ### the rule for a def -/
theorem fnG_of {B : Base} {k : Nat} {f : Addr} {name qual : Str} {params : Arguments} {body : List Stmt} {scope : Scope} {dV kV doc pm cdv ct oc : Value} {an od : Option Addr} {osl : Array (Option Value)} {N ps : List Str} {sp : Sp}
    (lk : B.K.lookup f = some ⟨oc, od, .func (PySem.W.fnOf name qual params body scope dV kV doc pm an cdv ct), osl⟩) (hcd : PySem.W.codeIn B.K cdv qual = true) (S : FnScope N ps scope) (len : ∀ vs H Q E, sp vs H Q E → vs.length = ps.length)
    (hbody : ∀ (A : Around) (outer : List Env) (s : Shared) (H : Hp) (vs : List V) (Q : VK) (E : XK), Room k (A.deeper (envOfC qual scope s.heap.objs.size f cdv)) → A.guards = some [] → sp vs H Q E →
      ∃ t, PSs (cxOf (CX B.P B.w) B.P B.w B.K B.mg B.base N qual scope f cdv A outer s H E) body t ∧ t { nx := fun _ H' => Q .non H', rt := Q } (L2.start N vs) H) :
    FnG B (k + 1) f (PySem.W.fnOf name qual params body scope dV kV doc pm an cdv ct) ps sp := by
  refine ⟨len, fun A outer s H args us vs Q E room gd e0 bd rel want => ?_⟩
  have size := len _ _ _ _ want
  have there : ∀ b o, B.base.get? b = some o → s.heap.get? b = some o := fun b o e => (e0.bs b o e).1
  have inK : B.K.In s.heap := e0.mod.kin.keeps there
  have places : ∀ y ∈ ps.zip us, scope.names.lookup y.1 = some .local ∨ (scope.names.lookup y.1 = some .cell ∧ ((cellsFrom (s.heap.objs.size + 1) scope.names []).lookup y.1).isSome = true) := by
    rintro ⟨n, v⟩ hy
    cases S.par n (List.of_mem_zip hy).1 with
    | inl q => exact .inl q
    | inr q => exact .inr ⟨q, PySem.W.cellsFrom_some _ _ _ (.inl q)⟩
  refine codeAny_call_function room.depth (inK _ _ lk) rfl S.co S.gen rfl (PySem.W.codeRec_of inK hcd) (bd _ _ _ _ (wpAny_newFunctionEnv_cells S.kind places fun env he s1 x => ?_))
  subst he
  refine ⟨(e0.mod.nolimit.keeps there).keeps x.toInCall.keep, codeAny_func ?_⟩
  obtain ⟨t, ht, hq⟩ := hbody A outer s H vs Q E (room.deeper _) gd want
  have start := inv_start (CX := CX B.P B.w) (E := E) S room.hd e0 size rel x
  refine wpAny_mono (ht.run [] s1 _ H _ start hq) (fun fl s' hs => ?_) fun _ _ hs => hs
  cases fl with
  | ret u => exact let ⟨v, _, H', J, rv, q⟩ := hs; ⟨v, H', J.os, J.bare, J.base, J.hok, rv, q⟩
  | next => exact let ⟨_, H', J, q⟩ := hs; ⟨V.non, H', J.os, J.bare, J.base, J.hok, rfl, q⟩
  | brk => exact (let ⟨_, _, _, q⟩ := hs; q : False).elim
  | cont => exact (let ⟨_, _, _, q⟩ := hs; q : False).elim

/-- a def of the text, as the interpreter has it -/
structure DefOk (B : Base) (nm : Nat → Option Str) (d : Def) : Prop where
  ex : ∃ (f : Addr) (fd : FuncData) (params : Arguments) (body : List Stmt) (scope : Scope), FunD B.K d.name d.qual params body scope [] [] f fd ∧ Bnd B d.name f fd d.par ∧ FnScope d.N d.par scope ∧ chkSs nm d.N scope d.N d.body body = true
theorem good_body {B : Base} {N ps : List Str} {qual : Str} {scope : Scope} {f : Addr} {cd : Value} {A : Around} {outer : List Env} {s : Shared} {H : Hp} {E : XK} {k : Nat} {st : List Str} (S : FnScope N ps scope) (r : Room k (A.deeper (envOfC qual scope s.heap.objs.size f cd))) (gd : A.guards = some []) :
    Good B scope N st E k (cxOf (CX B.P B.w) B.P B.w B.K B.mg B.base N qual scope f cd A outer s H E) :=
  ⟨rfl, rfl, rfl, rfl, rfl, rfl, S.nd, rfl, rfl, r, gd, passes_of rfl, passes_call (takes_of rfl rfl rfl rfl) fun _ _ _ _ z => z, fun _ _ => .inl rfl⟩
theorem spR_len {B : Base} {ps : List Str} {run : List W → VH → R W} {vs : List V} {H : Hp} {Q : VK} {E : XK} (q : spR B ps run vs H Q E) : vs.length = ps.length := by
  obtain ⟨F, p, h, ws, S, r, hl, _⟩ := q
  rw [← r.length]; exact hl
/-- THE LAYER: every def, at every depth of calls -/
theorem all_ok {B : Base} {P : Prog} {gv : Str → Option W} {nm : Nat → Option Str} (hgv : GvOk B gv) (hfr : Free B) (hnm : ∀ f x, nm f = some x → ∃ d, P[f]? = some d ∧ d.name = x) (hP : ∀ (f : Nat) (d : Def), P[f]? = some d → DefOk B nm d) :
    ∀ (n f : Nat) (d : Def), P[f]? = some d → ∃ a fd, Bnd B d.name a fd d.par ∧ FnG B n a fd d.par (spR B d.par (callN P gv n f))
  | 0, f, d, hd => by
    obtain ⟨a, fd, _, _, _, _, bn, _, _⟩ := (hP f d hd).ex
    exact ⟨a, fd, bn, fun vs H Q E q => spR_len q, fun A outer s H args us vs Q E _ _ _ _ _ q => by
      obtain ⟨F, p, h, ws, S, r, hl, o⟩ := q
      exact (o : False).elim⟩
  | n + 1, f, d, hd => by
    have ih := all_ok hgv hfr hnm hP n
    obtain ⟨a, fd, params, body, scope, Fd, bn, S, ck⟩ := (hP f d hd).ex
    have hC : Sound B ⟨callN P gv n, gv, fuelC⟩ nm n := ⟨hgv, hfr, fun g x hx => by
      obtain ⟨d2, h1, h2⟩ := hnm g x hx
      subst h2
      obtain ⟨a2, fd2, bn2, ok2⟩ := ih g d2 h1
      exact ⟨a2, fd2, d2.par, ok2, bn2, fun ws h hl => call_len h1 hl⟩⟩
    refine ⟨a, fd, bn, ?_⟩
    obtain ⟨oc, od, dV, kV, doc, pm, an, cdv, ct, osl, rfl, lk, hcd, _, _⟩ := Fd.ex
    refine fnG_of lk hcd S (fun vs H Q E q => spR_len q) fun A outer s H vs Q E room gd q => ?_
    obtain ⟨F, p, h, ws, S1, r, hl, o⟩ := q
    unfold callN at o
    rw [hd] at o
    dsimp only at o
    by_cases hp : d.pure = true
    · rw [if_pos hp] at o
      obtain ⟨S2, r2, o2⟩ := pure_out S1 r o
      exact ⟨_, sSs hC d.body (F := F ++ p) (good_body S room gd) ck, body_out S2 r2 o2⟩
    · rw [if_neg hp] at o
      exact ⟨_, sSs hC d.body (F := F) (good_body S room gd) ck, body_out S1 r o⟩
end Vm

/-! VmEnd: the end of a law: the interpreter's run of the law answers for the model's. -/
namespace Vm
open PySem PySem.Spec PyProof.Rows L2

/-- the law's call, where the script may be read -/
theorem law_at {P : Program} {w : World} {K : PySem.W.Frag} {mg mb : Str → Option Value} {k : Nat} {fa a : Addr} {x : Str} {run : List W → VH → R W} {s₁ : Shared} {vs : List Value} {ns : List Int} {H : Hp}
    (inK : K.In s₁.heap) (gl : s₁.heap.Ns mainGlobals mg) (bl : s₁.heap.Ns builtinsNs mb) (bb : ∀ x : Str, x ≠ "__name__" → mb x = bootBuiltins x) (lim : s₁.heap.NoLimit) (gens : s₁.gens = #[])
    (obj : s₁.heap.get? a = some { cls := .type "list", data := .seq vs.toArray }) (room : Room k callerA)
    (F : ∀ base : Heap, K.In base → base.Ns mainGlobals mg → ∃ fd, Binds K fd [x] [] ∧ FnG ⟨P, w, K, mg, base⟩ k fa fd [x] (spR ⟨P, w, K, mg, base⟩ [x] run))
    (hrun : ∃ h', run [.scr (ns.map W.int)] [] = .ok (.bl true) h')
    (only : ∀ b, H b = none ∨ (b = a ∧ ∃ o, H b = some (.frz o (.lst (ns.map V.int))))) (at_ : (H a = none ∧ KLst K a (ns.map V.int)) ∨ (K.lookup a = none ∧ ∃ o, H a = some (.frz o (.lst (ns.map V.int))))) (hok : HOk P w H s₁.heap) :
    codeAny (model P w) callerA (.call (.ref fa) ⟨[.ref a], []⟩) (fun r s' => r = .ok (.ret (.bool true)) ∧ OldK s₁.heap s'.heap ∧ s'.os = s₁.os ∧ AllBare s'.gens) s₁ := by
  have isList : ∀ {b : Addr} {o : Obj}, s₁.heap.get? b = some o → (∀ es ep, o.data ≠ .dict es ep) ∨ H b = none := fun {b o} e => by
    rcases only b with z | ⟨rfl, _⟩
    · exact .inr z
    · rw [obj] at e; cases e
      exact .inl fun es ep z => by cases z
  have nsB : ∀ {b : Addr} {m : Str → Option Value}, s₁.heap.Ns b m → (hidT s₁.heap H).Ns b m := fun {b m} ⟨o, es, ep, e, d, r⟩ => ⟨o, es, ep, hidT_get e ((isList e).resolve_left fun z => z es ep d), d, r⟩
  have inB : K.In (hidT s₁.heap H) := fun b o e => hidT_get (inK b o e) (by
    rcases only b with z | ⟨rfl, q⟩
    · exact z
    · rcases at_ with ⟨z, _⟩ | ⟨z, _⟩
      · exact z
      · rw [z] at e; cases e)
  have md : Mod K mg (hidT s₁.heap H) := ⟨inB, nsB gl, ⟨mb, nsB bl, bb⟩, let ⟨mc, h1, h2⟩ := lim; ⟨mc, nsB h1, h2⟩⟩
  have e0 : Env0 P w K mg (hidT s₁.heap H) callerA [] s₁ H := ⟨rfl, md, fun b o e => of_hidT e, Nat.le_of_eq (hidT_size _ _), trivial, fun b hb => absurd (show b ∈ ([] : List Addr) from hb) (by simp), hok, .of_eq gens⟩
  obtain ⟨fd, bd, Fn⟩ := F _ inB (nsB gl)
  obtain ⟨h', er⟩ := hrun
  have sim : Sim ⟨P, w, K, mg, hidT s₁.heap H⟩ [] [] [] H := ⟨rfl, List.nodup_nil, by simp, fun n c a e1 e2 => by simp at e2, by simp⟩
  have intR : ∀ l : List Int, RWs ⟨P, w, K, mg, hidT s₁.heap H⟩ [] [] H (l.map W.int) (l.map V.int) := fun l => by
    induction l with
    | nil => exact RWs.nil
    | cons i l ih => exact RWs.cons (by simp [RW]) ih
  have arg : RWs ⟨P, w, K, mg, hidT s₁.heap H⟩ [] [] H [.scr (ns.map W.int)] [.ref a] := by
    refine RWs.cons ?_ RWs.nil
    simp only [RW]
    refine ⟨a, _, rfl, ?_, intR _⟩
    rcases at_ with ⟨_, z⟩ | ⟨_, o, z⟩
    · exact .inr z
    · exact .inl ⟨by simp, by simp, o, z⟩
  have want : spR ⟨P, w, K, mg, hidT s₁.heap H⟩ [x] run [.ref a] H (fun v _ => v = .bl true) (fun _ _ _ => False) := ⟨[], [], [], _, sim, arg, rfl, by
    rw [er]
    exact fun p' H' v A S' r => r.bl_⟩
  have bd1 := bd s₁ [.ref a] inK rfl
  refine codeAny_mono (Fn.run callerA [] s₁ H ⟨[.ref a], []⟩ [.ref a] [.ref a] _ _ room rfl e0 bd1 (.cons rfl .nil) want) fun r s' h => ?_
  cases r with
  | error e =>
    obtain ⟨_, _, _, _, _, _, _, _, _, _, _, _, z⟩ := h
    exact z.elim
  | ok fl =>
    cases fl with
    | next => exact False.elim h
    | brk => exact False.elim h
    | cont => exact False.elim h
    | ret u =>
      obtain ⟨v, H', os, bare, un, hok', r', q⟩ := h
      have q : v = .bl true := q
      subst q
      have r' : u = Value.bool true := r'
      subst r'
      refine ⟨rfl, OldK.of_keep fun b o e => ?_, os, bare⟩
      rcases only b with z | ⟨_, ob, z⟩
      · exact un.keep b o e z (fun y => absurd (show b ∈ ([] : List Addr) from y) (by simp)) (by simp)
      · obtain ⟨e1, _⟩ := hok b _ z
        obtain ⟨e2, _⟩ := hok' b _ (un.frzs b ob _ z)
        rw [e] at e1; cases e1
        exact e2
theorem law_end {P : Program} {w : World} {K : PySem.W.Frag} {mg mb : Str → Option Value} {k : Nat} {fa a : Addr} {x : Str} {run : List W → VH → R W} {s₁ : Shared} {vs : List Value} {ns : List Int}
    (inK : K.In s₁.heap) (gl : s₁.heap.Ns mainGlobals mg) (bl : s₁.heap.Ns builtinsNs mb) (bb : ∀ x : Str, x ≠ "__name__" → mb x = bootBuiltins x) (lim : s₁.heap.NoLimit) (gens : s₁.gens = #[])
    (obj : s₁.heap.get? a = some { cls := .type "list", data := .seq vs.toArray }) (hi : IntsAre vs ns) (hl : ns.length ≤ sizeLine) (room : Room k callerA)
    (F : ∀ base : Heap, K.In base → base.Ns mainGlobals mg → ∃ fd, Binds K fd [x] [] ∧ FnG ⟨P, w, K, mg, base⟩ k fa fd [x] (spR ⟨P, w, K, mg, base⟩ [x] run))
    (hrun : ∃ h', run [.scr (ns.map W.int)] [] = .ok (.bl true) h') :
    codeAny (model P w) callerA (.call (.ref fa) ⟨[.ref a], []⟩) (fun r s' => r = .ok (.ret (.bool true)) ∧ OldK s₁.heap s'.heap ∧ s'.os = s₁.os ∧ AllBare s'.gens) s₁ := by
  have rv := vals_ints hi
  have len := hi.length
  cases hk : K.lookup a with
  | some o =>
    have e := inK a o hk
    rw [obj] at e
    cases e
    exact law_at (H := fun _ => none) inK gl bl bb lim gens obj room F hrun (fun _ => .inl rfl) (.inl ⟨rfl, _, vs.toArray, _, hk, rfl, rfl, rfl, by rw [List.size_toArray, len]; exact hl, by simpa using rv⟩) (fun b u z => by cases z)
  | none =>
    let ob : Obj := { cls := .type "list", data := .seq vs.toArray }
    refine law_at (H := upd (fun _ => none) a (.frz ob (.lst (ns.map V.int)))) inK gl bl bb lim gens obj room F hrun (fun b => ?_) (.inr ⟨hk, ob, upd_same⟩) (fun b u z => ?_)
    · by_cases q : b = a
      · subst q; exact .inr ⟨rfl, ob, upd_same⟩
      · exact .inl (by rw [upd_ne q])
    · by_cases q : b = a
      · subst q
        rw [upd_same] at z
        cases z
        exact ⟨obj, by rw [List.length_map]; exact hl, vs, _, rv, obj⟩
      · rw [upd_ne q] at z
        cases z
/-- the goal that the head leaves -/
theorem walk_end {l : PySem.W.OpenLaw} {n k : Nat} {q : Program} {loose : List Str} {XP : (Str → Option Value) → Heap → Prop} {YP : World → Heap → Prop} {d : DefRec} {x : Str} {run : List W → VH → R W}
    (hn : l.most = some n) (hn2 : n ≤ sizeLine) (hdf : d.params.defaults = []) (room : Room k callerA)
    (F : ∀ (w : World) (mg : Str → Option Value) (fa : Addr) (h : Heap), YP w h → h.Ns mainGlobals mg → mg d.name = some (.ref fa) →
      ∃ K : PySem.W.Frag, K.In h ∧ ∀ base : Heap, K.In base → base.Ns mainGlobals mg → ∃ fd, Binds K fd [x] [] ∧ FnG ⟨l.prog, w, K, mg, base⟩ k fa fd [x] (spR ⟨l.prog, w, K, mg, base⟩ [x] run))
    (hrun : ∀ ns : List Int, ns.length ≤ n → (∀ z ∈ ns, Builtin.Int.intBits z ≤ 1048576) → ∃ h', run [.scr (ns.map W.int)] [] = .ok (.bl true) h') :
    PySem.W.WalkO q loose XP YP l.row.toRowW d [] (fun f vs => PySem.call f vs) := by
  refine Att.attach_callB hn hdf fun w s₀ s₁ mg mb fa o pm cd doc a vs ns G Y ho hd hcd hmg hobj hints hlen hbits hg => ?_
  obtain ⟨K, KX, hF⟩ := F w mg fa _ Y G.T.g hmg
  exact law_end KX G.T.g G.T.b G.T.builtins G.T.nolimit hg hobj hints (Nat.le_trans hlen hn2) room hF (hrun ns hlen hbits)
end Vm

/-! VmDeck: the laws' deck and their draws, as the interpreter runs them. -/
namespace Vm
open PySem L2
def deckD : Vm.Def := { name := "_law_deck", qual := "_law_deck", par := ["script"], N := ["script"], pure := false, body := (.cons (.ret (.cel (.dk (.cons (.str "cells") (.cons (.cel (.list (.slc (.var 0) .none (.some (.int 63))))) (.cons (.str "left") (.cons (.int 0) (.cons (.str "made") (.cons (.int 0) (.cons (.str "total") (.cons (.bin .Mod (.blt .sum (.cons (.slc (.var 0) .none (.some (.int 63))) .nil)) (.int 2147483629)) .nil))))))))))) .nil) }
def drawD : Vm.Def := { name := "_law_draw", qual := "_law_draw", par := ["deck", "many"], N := ["deck", "many", "cell", "mixed", "digit"], pure := false, body := (.cons (.put (.var 0) (.str "made") (.bin .Add (.ix (.var 0) (.str "made")) (.int 1))) (.cons (.iff (.cmp .Gt (.ix (.var 0) (.str "left")) (.int 0)) (.cons (.asg (.v 4) (.bin .Mod (.ix (.var 0) (.str "left")) (.var 1))) (.cons (.put (.var 0) (.str "left") (.bin .FloorDiv (.ix (.var 0) (.str "left")) (.var 1))) (.cons (.ret (.var 4)) .nil))) .nil) (.cons (.asg (.v 2) (.ix (.var 0) (.str "total"))) (.cons (.iff (.cmp .NotEq (.ix (.var 0) (.str "cells")) (.frz (.lst .nil))) (.cons (.asg (.v 2) (.mth .pop (.ix (.var 0) (.str "cells")) (.cons (.int 0) .nil))) .nil) .nil) (.cons (.iff (.cmp .GtE (.blt .abs (.cons (.var 2) .nil)) (.bin .Pow (.int 10) (.int 18))) (.cons (.put (.var 0) (.str "left") (.bin .FloorDiv (.blt .abs (.cons (.var 2) .nil)) (.var 1))) (.cons (.ret (.bin .Mod (.blt .abs (.cons (.var 2) .nil)) (.var 1))) .nil)) .nil) (.cons (.asg (.v 3) (.bin .Mod (.bin .Pow (.bin .Add (.bin .Add (.bin .Mod (.var 2) (.int 2147483587)) (.bin .Mult (.int 69621) (.ix (.var 0) (.str "made")))) (.int 7919)) (.int 3)) (.int 2147483629))) (.cons (.asg (.v 3) (.bin .Mod (.bin .Pow (.bin .Add (.bin .Add (.var 3) (.bin .Mult (.bin .Mult (.int 31) (.ix (.var 0) (.str "made"))) (.ix (.var 0) (.str "made")))) (.int 17)) (.int 2)) (.int 2147483563))) (.cons (.ret (.bin .Mod (.bin .FloorDiv (.var 3) (.int 32)) (.var 1))) .nil)))))))) }
def deckC (j : Nat) (l m t : Int) : Cell := .dk [(.inr "cells", .ref j), (.inr "left", .int l), (.inr "made", .int m), (.inr "total", .int t)]
section
variable {h : VH} {i j : Nat} {l m t : Int} {xs : List Int}
theorem ix_made (hi : h[i]? = some (deckC j l m t)) : ixW h (.ref i) (.str "made") = some (.int m) := by
  unfold ixW isDict dget
  simp only [hi]
  rfl
theorem ix_left (hi : h[i]? = some (deckC j l m t)) : ixW h (.ref i) (.str "left") = some (.int l) := by
  unfold ixW isDict dget
  simp only [hi]
  rfl
theorem ix_cells (hi : h[i]? = some (deckC j l m t)) : ixW h (.ref i) (.str "cells") = some (.ref j) := by
  unfold ixW isDict dget
  simp only [hi]
  rfl
theorem ix_total (hi : h[i]? = some (deckC j l m t)) : ixW h (.ref i) (.str "total") = some (.int t) := by
  unfold ixW isDict dget
  simp only [hi]
  rfl
theorem put_made (hi : h[i]? = some (deckC j l m t)) (v : Int) : putW h (.ref i) (.str "made") (.int v) = some (h.set i (deckC j l v t)) := by
  unfold putW
  simp only [hi]
  rfl
theorem put_left (hi : h[i]? = some (deckC j l m t)) (v : Int) : putW h (.ref i) (.str "left") (.int v) = some (h.set i (deckC j v m t)) := by
  unfold putW
  simp only [hi]
  rfl
theorem set_at {c d : Cell} (hi : h[i]? = some c) : (h.set i d)[i]? = some d := by
  have hl := (List.getElem?_eq_some_iff.mp hi).1
  rw [List.getElem?_set_self hl]
theorem datas_ints : ∀ xs : List Int, W.datas (xs.map W.int) = some (xs.map PyData.int)
  | [] => rfl
  | x :: xs => by simp [W.datas, W.data, datas_ints xs]

/-- the deck at i, its numbers at j -/
structure DeckAt (h : VH) (i j : Nat) (xs : List Int) (l m t : Int) : Prop where
  dk : h[i]? = some (deckC j l m t)
  ls : h[j]? = some (.lst (xs.map W.int))
  ne : i ≠ j
theorem lay_ints : ∀ xs : List Int, PyData.canLayAll0 (xs.map PyData.int) = true
  | [] => rfl
  | x :: xs => by simp [PyData.canLayAll0, PyData.canLay0, lay_ints xs]
theorem depth_ints : ∀ xs : List Int, PyData.depthAll (xs.map PyData.int) ≤ 1
  | [] => by simp [PyData.depthAll]
  | x :: xs => by
    have := depth_ints xs
    simp [PyData.depthAll, PyData.depth]
    omega
theorem shaped_ints (xs : List Int) : SeqAt.shaped (.list (xs.map PyData.int)) = true := by
  have := depth_ints xs
  simp [SeqAt.shaped, PyData.canLay0, PyData.depth, lay_ints xs]
  omega
theorem eqv_ints (xs : List Int) : PyData.eqv (.list (xs.map PyData.int)) (.list []) = decide (xs = []) := by
  cases xs <;> simp [PyData.eqv, PyData.eqvAll]
theorem ne_cells (D : DeckAt h i j xs l m t) : cmpW .NotEq h (.ref j) (.lst []) = some (decide (xs ≠ [])) := by
  have e1 : W.dataH h (.ref j) = some (.list (xs.map PyData.int)) := by
    simp only [W.dataH, D.ls, datas_ints]; rfl
  have e2 : W.dataH h (.lst []) = some (.list []) := rfl
  simp only [cmpW, eqW, scalE, dataE, e1, e2, shaped_ints]
  have e3 : SeqAt.shaped (.list []) = true := shaped_ints []
  rw [e3, eqv_ints]
  cases xs <;> rfl

theorem DeckAt.made (D : DeckAt h i j xs l m t) (v : Int) : DeckAt (h.set i (deckC j l v t)) i j xs l v t :=
  ⟨set_at D.dk, by rw [List.getElem?_set_ne D.ne]; exact D.ls, D.ne⟩
theorem DeckAt.left (D : DeckAt h i j xs l m t) (v : Int) : DeckAt (h.set i (deckC j v m t)) i j xs v m t :=
  ⟨set_at D.dk, by rw [List.getElem?_set_ne D.ne]; exact D.ls, D.ne⟩
theorem DeckAt.pop {x : Int} (D : DeckAt h i j (x :: xs) l m t) : DeckAt (h.set j (.lst (xs.map W.int))) i j xs l m t :=
  ⟨by rw [List.getElem?_set_ne (Ne.symm D.ne)]; exact D.dk, set_at D.ls, D.ne⟩
theorem pop_cells {x : Int} (D : DeckAt h i j (x :: xs) l m t) : popF h (.ref j) [.int 0] = some (.int x, h.set j (.lst (xs.map W.int))) := by
  have e : seqIndex? 0 ((x :: xs).map W.int).length = some 0 := by simp [seqIndex?]
  have e2 : (-(2 ^ 63) ≤ (0 : Int) ∧ (0 : Int) < 2 ^ 63) := by decide
  simp only [popF, D.ls, e, e2, and_self, if_true, Option.bind_some]
  rfl
/-- the state behind a draw -/
def Drawn (h : VH) (i j : Nat) (t n m : Int) (r : R W) : Prop := ∃ k xs' l' h', r = .ok (.int k) h' ∧ 0 ≤ k ∧ k < n ∧ DeckAt h' i j xs' l' m t ∧ (∀ q, q ≠ i → q ≠ j → h'[q]? = h[q]?) ∧ h'.length = h.length
def drawB : Ss := drawD.body
def Ss.tl : Ss → Ss
  | .cons _ r => r
  | .nil => .nil
def Ss.hd : Ss → S
  | .cons a _ => a
  | .nil => .pass
section
variable {C : Ctx} {n : Int} {ns : List Int}
abbrev dst (i : Nat) (n : Int) (a b c : Option W) : VS := [some (.ref i), some (.int n), a, b, c]
theorem draw1 (D : DeckAt h i j xs l m t) {a b c : Option W} : ex C drawB.hd (dst i n a b c) h = .nx (dst i n a b c) (h.set i (deckC j l (m + 1) t)) := by
  show ex C (.put (.var 0) (.str "made") (.bin .Add (.ix (.var 0) (.str "made")) (.int 1))) _ _ = _
  rw [ex]
  simp [ev, mkDn, ix_made D.dk, binW, addW, put_made D.dk]
theorem fdivW (a : Int) (hn : 0 < n ∧ n < 1073741824) : binW .FloorDiv h (.int a) (.int n) = some (.int (a / n)) := by
  simp [binW, asInt, hn]
theorem modW (a : Int) (hn : 0 < n) : binW .Mod h (.int a) (.int n) = some (.int (a % n)) := by
  simp [binW, asInt, hn]
/-- the number is mixed out of a cell -/
def mixOf (x m n : Int) : Int := ((((x % 2147483587 + 69621 * m + 7919) ^ 3 % 2147483629 + 31 * m * m + 17) ^ 2 % 2147483563) / 32) % n
theorem m_bounds {m y : Int} (hm : 0 ≤ m ∧ m < 16777216) (hy : 0 ≤ y ∧ y < 2147483629) : (y + 31 * m * m + 17).natAbs < 2 ^ 64 := by
  have h1 : 31 * m * m ≤ 31 * 16777216 * 16777216 := by
    have a1 : 31 * m ≤ 31 * 16777216 := by omega
    have a2 : 31 * m * m ≤ 31 * 16777216 * m := Int.mul_le_mul_of_nonneg_right a1 hm.1
    have a3 : 31 * 16777216 * m ≤ 31 * 16777216 * 16777216 := Int.mul_le_mul_of_nonneg_left (by omega) (by omega)
    omega
  have h2 : 0 ≤ 31 * m * m := Int.mul_nonneg (by omega) hm.1
  omega
theorem mix_run {b : Option W} {x : Int} (D : DeckAt h i j xs l m t) (hn : 0 < n ∧ n < 1073741824) (hm : 0 ≤ m ∧ m < 16777216) :
    exs C drawB.tl.tl.tl.tl.tl (dst i n (some (.int x)) b none) h = .rt (.int (mixOf x m n)) h := by
  show exs C (.cons (.asg (.v 3) (.bin .Mod (.bin .Pow (.bin .Add (.bin .Add (.bin .Mod (.var 2) (.int 2147483587)) (.bin .Mult (.int 69621) (.ix (.var 0) (.str "made")))) (.int 7919)) (.int 3)) (.int 2147483629))) (.cons (.asg (.v 3) (.bin .Mod (.bin .Pow (.bin .Add (.bin .Add (.var 3) (.bin .Mult (.bin .Mult (.int 31) (.ix (.var 0) (.str "made"))) (.ix (.var 0) (.str "made")))) (.int 17)) (.int 2)) (.int 2147483563))) (.cons (.ret (.bin .Mod (.bin .FloorDiv (.var 3) (.int 32)) (.var 1))) .nil))) _ _ = _
  have p1 : (x % 2147483587 + 69621 * m + 7919).natAbs < 18446744073709551616 := by
    have := Int.emod_nonneg x (show (2147483587 : Int) ≠ 0 by decide)
    have := Int.emod_lt_of_pos x (show (0 : Int) < 2147483587 by decide)
    omega
  have p2 : ((x % 2147483587 + 69621 * m + 7919) ^ 3 % 2147483629 + 31 * m * m + 17).natAbs < 18446744073709551616 :=
    m_bounds hm ⟨Int.emod_nonneg _ (by decide), Int.emod_lt_of_pos _ (by decide)⟩
  have q1 : mulOk 69621 m = true := by simp [mulOk]
  have q2 : mulOk 31 m = true := by simp [mulOk]
  have q3 : mulOk (31 * m) m = true := by
    simp [mulOk]
    omega
  rw [exs, ex]
  simp [ev, mkDn, ix_made D.dk, binW, asInt, addW, mulW, q1, p1, Tg.set]
  rw [exs, ex]
  simp [ev, mkDn, ix_made D.dk, binW, asInt, addW, mulW, q2, q3, p2, Tg.set]
  rw [exs, ex]
  simp [ev, mkDn, binW, asInt, hn, mixOf]
theorem big_run {b : Option W} {x : Int} (D : DeckAt h i j xs l m t) (hn : 0 < n ∧ n < 1073741824) (hm : 0 ≤ m ∧ m < 16777216) :
    Drawn h i j t n m (match exs C drawB.tl.tl.tl.tl (dst i n (some (.int x)) b none) h with
      | .nx _ h1 => .ok .non h1
      | .rt w h1 => .ok w h1
      | .exc x h1 => .exc x h1
      | .bad => .bad) := by
  have e0 : exs C drawB.tl.tl.tl.tl (dst i n (some (.int x)) b none) h = (ex C (.iff (.cmp .GtE (.blt .abs (.cons (.var 2) .nil)) (.bin .Pow (.int 10) (.int 18))) (.cons (.put (.var 0) (.str "left") (.bin .FloorDiv (.blt .abs (.cons (.var 2) .nil)) (.var 1))) (.cons (.ret (.bin .Mod (.blt .abs (.cons (.var 2) .nil)) (.var 1))) .nil)) .nil) (dst i n (some (.int x)) b none) h).bind
      fun s1 h1 => exs C drawB.tl.tl.tl.tl.tl s1 h1 := by
    show exs C (.cons _ _) _ _ = _
    rw [exs]
    rfl
  rw [e0]
  by_cases hb : (10 : Int) ^ 18 ≤ (if x < 0 then -x else x)
  · have e1 : ex C (.iff (.cmp .GtE (.blt .abs (.cons (.var 2) .nil)) (.bin .Pow (.int 10) (.int 18))) (.cons (.put (.var 0) (.str "left") (.bin .FloorDiv (.blt .abs (.cons (.var 2) .nil)) (.var 1))) (.cons (.ret (.bin .Mod (.blt .abs (.cons (.var 2) .nil)) (.var 1))) .nil)) .nil) (dst i n (some (.int x)) b none) h
        = .rt (.int ((if x < 0 then -x else x) % n)) (h.set i (deckC j ((if x < 0 then -x else x) / n) m t)) := by
      rw [ex]
      have hb' : (1000000000000000000 : Int) ≤ (if x < 0 then -x else x) := hb
      simp [ev, evs, exs, ex, mkDn, mkBl, bltW, absF, binW, asInt, cmpW, hb', put_left D.dk, hn]
    rw [e1]
    refine ⟨_, xs, _, _, rfl, Int.emod_nonneg _ (by omega), Int.emod_lt_of_pos _ hn.1, D.left _, fun q h1 h2 => ?_, by simp⟩
    rw [List.getElem?_set_ne (Ne.symm h1)]
  · have e1 : ex C (.iff (.cmp .GtE (.blt .abs (.cons (.var 2) .nil)) (.bin .Pow (.int 10) (.int 18))) (.cons (.put (.var 0) (.str "left") (.bin .FloorDiv (.blt .abs (.cons (.var 2) .nil)) (.var 1))) (.cons (.ret (.bin .Mod (.blt .abs (.cons (.var 2) .nil)) (.var 1))) .nil)) .nil) (dst i n (some (.int x)) b none) h
        = .nx (dst i n (some (.int x)) b none) h := by
      rw [ex]
      have hb' : ¬ (1000000000000000000 : Int) ≤ (if x < 0 then -x else x) := hb
      simp [ev, evs, exs, ex, mkDn, mkBl, bltW, absF, binW, asInt, cmpW, hb']
    rw [e1, RS.bind_nx, mix_run D hn hm]
    exact ⟨_, xs, _, _, rfl, Int.emod_nonneg _ (by omega), Int.emod_lt_of_pos _ hn.1, D, fun q h1 h2 => rfl, rfl⟩
theorem Drawn.from_ {h' : VH} {r : R W} (d : Drawn h' i j t n m r) (hq : ∀ q, q ≠ i → q ≠ j → h'[q]? = h[q]?) (hl : h'.length = h.length) : Drawn h i j t n m r := by
  obtain ⟨k, xs', l', h2, e, k1, k2, D, q, ql⟩ := d
  exact ⟨k, xs', l', h2, e, k1, k2, D, fun z h1 h2 => (q z h1 h2).trans (hq z h1 h2), ql.trans hl⟩
/-- A DRAW: a number below n; the deck stays one -/
theorem draw_ok (D : DeckAt h i j xs l m t) (hn : 0 < n ∧ n < 1073741824) (hm : 0 ≤ m ∧ m < 16777215) : Drawn h i j t n (m + 1) (bodyRun C drawD [.ref i, .int n] h) := by
  have e0 : bodyRun C drawD [.ref i, .int n] h = match exs C drawB (dst i n none none none) h with
      | .nx _ h1 => .ok .non h1
      | .rt w h1 => .ok w h1
      | .exc x h1 => .exc x h1
      | .bad => .bad := by
    unfold bodyRun
    rw [if_pos (by rfl)]
    rfl
  have e1 : exs C drawB (dst i n none none none) h = exs C drawB.tl (dst i n none none none) (h.set i (deckC j l (m + 1) t)) := by
    show exs C (.cons drawB.hd drawB.tl) _ _ = _
    rw [exs, draw1 D, RS.bind_nx]
  rw [e0, e1]
  have D1 := D.made (m + 1)
  refine Drawn.from_ (h' := h.set i (deckC j l (m + 1) t)) ?_ (fun q h1 h2 => by rw [List.getElem?_set_ne (Ne.symm h1)]) (by simp)
  generalize h.set i (deckC j l (m + 1) t) = g at D1 ⊢
  clear D e0 e1
  have hm1 : 0 ≤ m + 1 ∧ m + 1 < 16777216 := by omega
  -- what is left of a large number
  have e2 : exs C drawB.tl (dst i n none none none) g = (ex C (.iff (.cmp .Gt (.ix (.var 0) (.str "left")) (.int 0)) (.cons (.asg (.v 4) (.bin .Mod (.ix (.var 0) (.str "left")) (.var 1))) (.cons (.put (.var 0) (.str "left") (.bin .FloorDiv (.ix (.var 0) (.str "left")) (.var 1))) (.cons (.ret (.var 4)) .nil))) .nil) (dst i n none none none) g).bind
      fun s1 h1 => exs C drawB.tl.tl s1 h1 := by
    show exs C (.cons _ _) _ _ = _
    rw [exs]
    rfl
  rw [e2]
  by_cases hl : 0 < l
  · have e3 : ex C (.iff (.cmp .Gt (.ix (.var 0) (.str "left")) (.int 0)) (.cons (.asg (.v 4) (.bin .Mod (.ix (.var 0) (.str "left")) (.var 1))) (.cons (.put (.var 0) (.str "left") (.bin .FloorDiv (.ix (.var 0) (.str "left")) (.var 1))) (.cons (.ret (.var 4)) .nil))) .nil) (dst i n none none none) g
        = .rt (.int (l % n)) (g.set i (deckC j (l / n) (m + 1) t)) := by
      rw [ex]
      simp [ev, evs, exs, ex, mkDn, mkBl, ix_left D1.dk, binW, asInt, cmpW, hl, put_left D1.dk, hn, Tg.set]
    rw [e3]
    refine ⟨_, xs, _, _, rfl, Int.emod_nonneg _ (by omega), Int.emod_lt_of_pos _ hn.1, D1.left _, fun q h1 h2 => ?_, by simp⟩
    rw [List.getElem?_set_ne (Ne.symm h1)]
  · have e3 : ex C (.iff (.cmp .Gt (.ix (.var 0) (.str "left")) (.int 0)) (.cons (.asg (.v 4) (.bin .Mod (.ix (.var 0) (.str "left")) (.var 1))) (.cons (.put (.var 0) (.str "left") (.bin .FloorDiv (.ix (.var 0) (.str "left")) (.var 1))) (.cons (.ret (.var 4)) .nil))) .nil) (dst i n none none none) g
        = .nx (dst i n none none none) g := by
      rw [ex]
      simp [ev, evs, exs, ex, mkDn, mkBl, ix_left D1.dk, binW, asInt, cmpW, hl]
    rw [e3, RS.bind_nx]
    -- the cell
    have e4 : exs C drawB.tl.tl (dst i n none none none) g = exs C drawB.tl.tl.tl (dst i n (some (.int t)) none none) g := by
      show exs C (.cons (.asg (.v 2) (.ix (.var 0) (.str "total"))) _) _ _ = _
      rw [exs, ex]
      simp [ev, mkDn, ix_total D1.dk, Tg.set]
      rfl
    have e5 : ∀ x : Option W, exs C drawB.tl.tl.tl (dst i n x none none) g = (ex C (.iff (.cmp .NotEq (.ix (.var 0) (.str "cells")) (.frz (.lst .nil))) (.cons (.asg (.v 2) (.mth .pop (.ix (.var 0) (.str "cells")) (.cons (.int 0) .nil))) .nil) .nil) (dst i n x none none) g).bind
        fun s1 h1 => exs C drawB.tl.tl.tl.tl s1 h1 := fun x => by
      show exs C (.cons _ _) _ _ = _
      rw [exs]
      rfl
    rw [e4, e5]
    cases xs with
    | nil =>
      have e6 : ex C (.iff (.cmp .NotEq (.ix (.var 0) (.str "cells")) (.frz (.lst .nil))) (.cons (.asg (.v 2) (.mth .pop (.ix (.var 0) (.str "cells")) (.cons (.int 0) .nil))) .nil) .nil) (dst i n (some (.int t)) none none) g = .nx (dst i n (some (.int t)) none none) g := by
        rw [ex]
        have z := ne_cells D1
        simp [ev, evs, evm, exs, ex, mkDn, mkBl, ix_cells D1.dk, cellW, z]
      rw [e6, RS.bind_nx]
      exact big_run D1 hn hm1
    | cons x xs =>
      have e6 : ex C (.iff (.cmp .NotEq (.ix (.var 0) (.str "cells")) (.frz (.lst .nil))) (.cons (.asg (.v 2) (.mth .pop (.ix (.var 0) (.str "cells")) (.cons (.int 0) .nil))) .nil) .nil) (dst i n (some (.int t)) none none) g = .nx (dst i n (some (.int x)) none none) (g.set j (.lst (xs.map W.int))) := by
        rw [ex]
        have z := ne_cells D1
        have z2 : (asLst g (.ref j)).isSome = true := by simp [asLst, D1.ls]
        simp [ev, evs, evm, exs, ex, mkDn, mkBl, mthRun, mthOk, mthW, ix_cells D1.dk, cellW, z, z2, pop_cells D1, Tg.set]
      rw [e6, RS.bind_nx]
      refine Drawn.from_ (big_run D1.pop hn hm1) (fun q h1 h2 => ?_) (by simp)
      rw [List.getElem?_set_ne (Ne.symm h2)]
theorem cut63 {α : Type} {l : List α} (hl : l.length ≤ 63) : cutL l none (some 63) = l := by
  have e : HT.sIx l.length l.length (some 63) = l.length := by
    simp [HT.sIx]
    omega
  unfold cutL
  rw [e]
  simp [HT.sIx]
theorem allInt_map (ns : List Int) : allInt (ns.map W.int) = some ns := by
  induction ns with
  | nil => rfl
  | cons n ns ih => simp [allInt, ih]
/-- the deck that is made -/
theorem deck_ok (hl : ns.length ≤ 63) : ∃ t, bodyRun C deckD [.scr (ns.map W.int)] h = .ok (.ref (h.length + 1)) (h ++ [.lst (ns.map W.int), deckC h.length 0 0 t]) := by
  refine ⟨ns.sum % 2147483629, ?_⟩
  have c1 : cutL (ns.map W.int) none (some 63) = ns.map W.int := cut63 (by simpa using hl)
  have e1 : kvsOf [.str "cells", .ref h.length, .str "left", .int 0, .str "made", .int 0, .str "total", .int (ns.sum % 2147483629)] = some [(.inr "cells", .ref h.length), (.inr "left", .int 0), (.inr "made", .int 0), (.inr "total", .int (ns.sum % 2147483629))] := rfl
  unfold bodyRun
  rw [if_pos (by rfl)]
  have e2 : exs C deckD.body (Vm.start deckD.N [.scr (ns.map W.int)]) h = .rt (.ref (h.length + 1)) (h ++ [.lst (ns.map W.int), deckC h.length 0 0 (ns.sum % 2147483629)]) := by
    show exs C (.cons (.ret _) .nil) [some (.scr (ns.map W.int))] h = _
    rw [exs, ex]
    simp [ev, evm, evs, evo, mkDn, slcW, asSeq, asTup, asLst, c1, asInt, bltW, sumF, allInt_map, binW, deckC, e1]
  rw [e2]
end
end

/-! ### calls that leave the heap alone -/
theorem pure_heap {P : Prog} {gv : Str → Option W} {n f : Nat} {d : Def} {ws : List W} {w : W} {h h' : VH} (hd : P[f]? = some d) (hp : d.pure = true) (e : callN P gv n f ws [] = .ok w h') : callN P gv n f ws h = .ok w h := by
  cases n with
  | zero => cases e
  | succ n =>
    unfold callN at e ⊢
    rw [hd] at e ⊢
    dsimp only at e ⊢
    rw [if_pos hp] at e ⊢
    unfold pureRun at e ⊢
    split at e
    · rename_i hn
      rw [if_pos hn]
      split at e
      · rename_i x h1 eb
        obtain ⟨e1, _⟩ := of_ok e
        rw [e1]; rfl
      · split at e <;> cases e
      · cases e
    · cases e
mutual
theorem dataH_any (h : VH) : ∀ {x : W} {d : PyData}, W.dataH [] x = some d → W.dataH h x = some d
  | .non, d, e => by simpa [W.dataH] using e
  | .bl _, d, e => by simpa [W.dataH] using e
  | .int _, d, e => by simpa [W.dataH] using e
  | .str _, d, e => by simpa [W.dataH] using e
  | .tup xs, d, e => by
    simp only [W.dataH, Option.map_eq_some_iff] at e ⊢
    obtain ⟨ds, e1, e2⟩ := e
    exact ⟨ds, datasH_any h e1, e2⟩
  | .lst xs, d, e => by
    simp only [W.dataH, Option.map_eq_some_iff] at e ⊢
    obtain ⟨ds, e1, e2⟩ := e
    exact ⟨ds, datasH_any h e1, e2⟩
  | .ref n, d, e => by simp [W.dataH] at e
  | .dct _ _, d, e => by simp [W.dataH] at e
  | .glb _, d, e => by simp [W.dataH] at e
  | .ty _, d, e => by simp [W.dataH] at e
  | .exc _ _ _, d, e => by simp [W.dataH] at e
  | .scr _, d, e => by simp [W.dataH] at e
theorem datasH_any (h : VH) : ∀ {xs : List W} {ds : List PyData}, W.datasH [] xs = some ds → W.datasH h xs = some ds
  | [], ds, e => by simpa [W.datasH] using e
  | x :: xs, ds, e => by
    simp only [W.datasH] at e ⊢
    split at e
    · rename_i d ds' e1 e2
      cases e
      rw [dataH_any h e1, datasH_any h e2]
    · cases e
end
theorem repr_any (h : VH) {x : W} {y : W} (e : reprF [] [x] = some y) : reprF h [x] = some y := by
  simp only [reprF] at e ⊢
  obtain ⟨d, e1, e2⟩ := bind_some_ e
  rw [dataH_any h e1]
  exact e2
theorem pop_at {h : VH} {i : Nat} {ps : List Int} {k : Int} {p : Int} (hi : h[i]? = some (.lst (ps.map W.int))) (h0 : 0 ≤ k) (hp : ps[k.toNat]? = some p) (hl : ps.length < 1000) : popF h (.ref i) [.int k] = some (.int p, h.set i (.lst ((ps.eraseIdx k.toNat).map W.int))) := by
  have hk := (List.getElem?_eq_some_iff.mp hp).1
  have e : seqIndex? k (ps.map W.int).length = some k.toNat := by
    simp [seqIndex?]
    omega
  have e2 : (-(2 ^ 63) ≤ k ∧ k < 2 ^ 63) := by omega
  have e3 : (ps.map W.int)[k.toNat]? = some (.int p) := by rw [List.getElem?_map, hp]; rfl
  have e4 : (ps.map W.int).eraseIdx k.toNat = (ps.eraseIdx k.toNat).map W.int := by
    rw [List.eraseIdx_eq_take_drop_succ, List.eraseIdx_eq_take_drop_succ, List.map_append, List.map_take, List.map_drop]
  simp only [popF, hi, e, e2, and_self, if_true, Option.bind_some, e3, Option.map_some, e4]
end Vm

/-! VmMono: a run with other calls, where those know less. -/
namespace Vm
open PySem L2

def Le {α : Type} (r r' : R α) : Prop := r = .bad ∨ r = r'
def LeS (r r' : RS) : Prop := r = .bad ∨ r = r'
theorem Le.refl {α : Type} (r : R α) : Le r r := .inr rfl
theorem Le.bad {α : Type} {r : R α} : Le .bad r := .inl rfl
theorem LeS.refl (r : RS) : LeS r r := .inr rfl
theorem Le.bind {α β : Type} {r r' : R α} {f f' : α → VH → R β} (h : Le r r') (k : ∀ a h, Le (f a h) (f' a h)) : Le (r.bind f) (r'.bind f') := by
  rcases h with rfl | rfl
  · exact .inl rfl
  · cases r with
    | ok a h => exact k a h
    | exc x h => exact .inr rfl
    | bad => exact .inl rfl
theorem Le.thn {α : Type} {r r' : R α} {f f' : α → VH → RS} (h : Le r r') (k : ∀ a h, LeS (f a h) (f' a h)) : LeS (r.thn f) (r'.thn f') := by
  rcases h with rfl | rfl
  · exact .inl rfl
  · cases r with
    | ok a h => exact k a h
    | exc x h => exact .inr rfl
    | bad => exact .inl rfl
theorem LeS.bind {r r' : RS} {f f' : VS → VH → RS} (h : LeS r r') (k : ∀ s h, LeS (f s h) (f' s h)) : LeS (r.bind f) (r'.bind f') := by
  rcases h with rfl | rfl
  · exact .inl rfl
  · cases r with
    | nx s h => exact k s h
    | rt w h => exact .inr rfl
    | exc x h => exact .inr rfl
    | bad => exact .inl rfl
theorem Le.noExc {α : Type} {r r' : R α} (h : Le r r') : Le (noExc r) (Vm.noExc r') := by
  rcases h with rfl | rfl
  · exact .inl rfl
  · exact .inr rfl
theorem le_lcLoop {ok : VH → Bool} {f f' : W → VH → R (List W)} (k : ∀ x h, Le (f x h) (f' x h)) : ∀ (xs acc : List W) (h : VH), Le (lcLoop ok f xs acc h) (lcLoop ok f' xs acc h)
  | [], acc, h => .inr rfl
  | x :: xs, acc, h => by
    unfold lcLoop
    refine (k x h).bind fun ys h1 => ?_
    split
    · exact le_lcLoop k xs _ h1
    · exact .inl rfl
theorem le_forLoop {ok : VH → Bool} {f f' : W → VS → VH → RS} (k : ∀ x s h, LeS (f x s h) (f' x s h)) : ∀ (xs : List W) (s : VS) (h : VH), LeS (forLoop ok f xs s h) (forLoop ok f' xs s h)
  | [], s, h => .inr rfl
  | x :: xs, s, h => by
    rw [forLoop_cons, forLoop_cons]
    refine (k x s h).bind fun s1 h1 => ?_
    split
    · exact le_forLoop k xs s1 h1
    · exact .inl rfl
theorem le_whLoop {t t' : VS → VH → R Bool} {f f' : VS → VH → RS} (kt : ∀ s h, Le (t s h) (t' s h)) (k : ∀ s h, LeS (f s h) (f' s h)) : ∀ (n : Nat) (s : VS) (h : VH), LeS (whLoop t f n s h) (whLoop t' f' n s h)
  | 0, s, h => .inr rfl
  | n + 1, s, h => by
    unfold whLoop
    refine (kt s h).thn fun b h1 => ?_
    split
    · exact (k s h1).bind fun s2 h2 => le_whLoop kt k n s2 h2
    · exact .inr rfl
def LeD (d d' : Dn) : Prop := (∀ s h, Le (d.1 s h) (d'.1 s h)) ∧ ∀ s h, Le (d.2 s h) (d'.2 s h)
theorem le_mkDn {m m' : VS → VH → R W} (k : ∀ s h, Le (m s h) (m' s h)) : LeD (mkDn m) (mkDn m') :=
  ⟨k, fun s h => (k s h).bind fun w h1 => Le.refl _⟩
theorem le_mkBl {m m' : VS → VH → R Bool} (k : ∀ s h, Le (m s h) (m' s h)) : LeD (mkBl m) (mkBl m') :=
  ⟨fun s h => (k s h).bind fun w h1 => Le.refl _, k⟩
theorem le_lcRun {t : Tg} {own : List Nat} {mi mi' : VS → VH → R Itv} {mt mt' : VS → VH → R Bool} {me me' : VS → VH → R W} (ki : ∀ s h, Le (mi s h) (mi' s h)) (kt : ∀ s h, Le (mt s h) (mt' s h)) (ke : ∀ s h, Le (me s h) (me' s h)) (s : VS) (h : VH) :
    Le (lcRun t own mi mt me s h) (lcRun t own mi' mt' me' s h) := by
  unfold lcRun
  refine (ki s h).bind fun iv h1 => Le.noExc ((le_lcLoop (fun x h2 => ?_) _ _ _).bind fun xs h5 => Le.refl _)
  unfold lcStep
  split
  · refine (kt _ _).bind fun b h3 => ?_
    split
    · exact (ke _ _).bind fun y h4 => Le.refl _
    · exact Le.refl _
  · exact Le.refl _
theorem le_lcRun2 {t t1 : Tg} {own : List Nat} {mi mi' mj mj' : VS → VH → R Itv} {me me' : VS → VH → R W} (ki : ∀ s h, Le (mi s h) (mi' s h)) (kj : ∀ s h, Le (mj s h) (mj' s h)) (ke : ∀ s h, Le (me s h) (me' s h)) (s : VS) (h : VH) :
    Le (lcRun2 t t1 own mi mj me s h) (lcRun2 t t1 own mi' mj' me' s h) := by
  unfold lcRun2
  refine (ki s h).bind fun iv h1 => Le.noExc ((le_lcLoop (fun x h2 => ?_) _ _ _).bind fun xs h5 => Le.refl _)
  unfold lcStep2
  split
  · refine (kj _ _).bind fun iv1 h3 => le_lcLoop (fun y h4 => ?_) _ _ _
    unfold lcStep1
    split
    · exact (ke _ _).bind fun y h4 => Le.refl _
    · exact Le.refl _
  · exact Le.refl _
theorem le_mthRun {m : Mth} {mo mo' : VS → VH → R W} {ms ms' : VS → VH → R (List W)} (ko : ∀ s h, Le (mo s h) (mo' s h)) (ks : ∀ s h, Le (ms s h) (ms' s h)) (s : VS) (h : VH) : Le (mthRun m mo ms s h) (mthRun m mo' ms' s h) := by
  unfold mthRun
  refine (ko s h).bind fun x h1 => ?_
  split
  · exact (ks s h1).bind fun ws h2 => Le.refl _
  · exact Le.refl _
section
variable {call call' : Nat → List W → VH → R W} {gv : Str → Option W} {fuel : Nat}
mutual
theorem le_ev (hc : ∀ f ws h, Le (call f ws h) (call' f ws h)) : ∀ e : E, LeD (ev ⟨call, gv, fuel⟩ e) (ev ⟨call', gv, fuel⟩ e)
  | .non => by rw [ev, ev]; exact le_mkDn fun _ _ => Le.refl _
  | .bl _ => by rw [ev, ev]; exact le_mkDn fun _ _ => Le.refl _
  | .int _ => by rw [ev, ev]; exact le_mkDn fun _ _ => Le.refl _
  | .str _ => by rw [ev, ev]; exact le_mkDn fun _ _ => Le.refl _
  | .var _ => by rw [ev, ev]; exact le_mkDn fun _ _ => Le.refl _
  | .glb _ => by rw [ev, ev]; exact le_mkDn fun _ _ => Le.refl _
  | .bin op a b => by rw [ev, ev]; exact le_mkDn fun s h => ((le_ev hc a).1 s h).bind fun _ h1 => ((le_ev hc b).1 s h1).bind fun _ _ => Le.refl _
  | .neg a => by rw [ev, ev]; exact le_mkDn fun s h => ((le_ev hc a).1 s h).bind fun _ h1 => Le.refl _
  | .cmp op a b => by rw [ev, ev]; exact le_mkBl fun s h => ((le_ev hc a).1 s h).bind fun _ h1 => ((le_ev hc b).1 s h1).bind fun _ _ => Le.refl _
  | .chn o p a b c => by
    rw [ev, ev]
    refine le_mkBl fun s h => ((le_ev hc a).1 s h).bind fun _ h1 => ((le_ev hc b).1 s h1).bind fun _ _ => (Le.refl _).bind fun k h3 => ?_
    split
    · exact ((le_ev hc c).1 s h3).bind fun _ _ => Le.refl _
    · exact Le.refl _
  | .bop con es => by rw [ev, ev]; exact le_evb hc con es
  | .not a => by rw [ev, ev]; exact ⟨fun s h => ((le_ev hc a).1 s h).bind fun _ _ => Le.refl _, fun s h => ((le_ev hc a).2 s h).bind fun _ _ => Le.refl _⟩
  | .ite c a b => by
    rw [ev, ev]
    refine ⟨fun s h => ((le_ev hc c).2 s h).bind fun k h1 => ?_, fun _ _ => Le.refl _⟩
    split
    · exact (le_ev hc a).1 s h1
    · exact (le_ev hc b).1 s h1
  | .tup es => by rw [ev, ev]; exact le_mkDn fun s h => (le_evs hc es s h).bind fun _ _ => Le.refl _
  | .frz m => by rw [ev, ev]; exact le_mkDn fun s h => (le_evm hc m s h).bind fun _ _ => Le.refl _
  | .cel m => by rw [ev, ev]; exact le_mkDn fun s h => (le_evm hc m s h).bind fun _ _ => Le.refl _
  | .ix a i => by rw [ev, ev]; exact le_mkDn fun s h => ((le_ev hc a).1 s h).bind fun _ h1 => ((le_ev hc i).1 s h1).bind fun _ _ => Le.refl _
  | .slc a lo hi => by rw [ev, ev]; exact le_mkDn fun s h => ((le_ev hc a).1 s h).bind fun _ h1 => (le_evo hc lo s h1).bind fun _ h2 => (le_evo hc hi s h2).bind fun _ _ => Le.refl _
  | .call f es => by rw [ev, ev]; exact le_mkDn fun s h => (le_evs hc es s h).bind fun ws h1 => hc f ws h1
  | .blt b es => by rw [ev, ev]; exact le_mkDn fun s h => (le_evs hc es s h).bind fun _ _ => Le.refl _
  | .mth m o es => by rw [ev, ev]; exact le_mkDn fun s h => le_mthRun (fun s h => (le_ev hc o).1 s h) (fun s h => le_evs hc es s h) s h
theorem le_evb (hc : ∀ f ws h, Le (call f ws h) (call' f ws h)) : ∀ (con : Bool) (es : Es), LeD (evb ⟨call, gv, fuel⟩ con es) (evb ⟨call', gv, fuel⟩ con es)
  | con, .nil => by rw [evb, evb]; exact le_mkDn fun _ _ => Le.refl _
  | con, .cons e .nil => by rw [evb, evb]; exact le_ev hc e
  | con, .cons e (.cons e2 r) => by
    have z := le_evb hc con (.cons e2 r)
    have y := le_ev hc e
    simp only [evb]
    refine ⟨fun s h => (y.1 s h).bind fun x h1 => ?_, fun s h => (y.2 s h).bind fun b h1 => ?_⟩
    · split
      · split
        · exact z.1 s h1
        · exact Le.refl _
      · exact Le.refl _
    · split
      · exact z.2 s h1
      · exact Le.refl _
theorem le_evs (hc : ∀ f ws h, Le (call f ws h) (call' f ws h)) : ∀ (es : Es) (s : VS) (h : VH), Le (evs ⟨call, gv, fuel⟩ es s h) (evs ⟨call', gv, fuel⟩ es s h)
  | .nil, s, h => by rw [evs, evs]; exact Le.refl _
  | .cons e r, s, h => by rw [evs, evs]; exact ((le_ev hc e).1 s h).bind fun _ h1 => (le_evs hc r s h1).bind fun _ _ => Le.refl _
theorem le_evo (hc : ∀ f ws h, Le (call f ws h) (call' f ws h)) : ∀ (e : Eo) (s : VS) (h : VH), Le (evo ⟨call, gv, fuel⟩ e s h) (evo ⟨call', gv, fuel⟩ e s h)
  | .none, s, h => by rw [evo, evo]; exact Le.refl _
  | .some e, s, h => by rw [evo, evo]; exact ((le_ev hc e).1 s h).bind fun _ h1 => Le.refl _
theorem le_evm (hc : ∀ f ws h, Le (call f ws h) (call' f ws h)) : ∀ (m : Mk) (s : VS) (h : VH), Le (evm ⟨call, gv, fuel⟩ m s h) (evm ⟨call', gv, fuel⟩ m s h)
  | .lst es, s, h => by rw [evm, evm]; exact (le_evs hc es s h).bind fun _ _ => Le.refl _
  | .lc own tg it ifs elt, s, h => by rw [evm, evm]; exact le_lcRun (fun s h => le_evi hc it s h) (fun s h => le_evc hc ifs s h) (fun s h => (le_ev hc elt).1 s h) s h
  | .lc2 own tg it tg1 it1 elt, s, h => by rw [evm, evm]; exact le_lcRun2 (fun s h => le_evi hc it s h) (fun s h => le_evi hc it1 s h) (fun s h => (le_ev hc elt).1 s h) s h
  | .list e, s, h => by rw [evm, evm]; exact ((le_ev hc e).1 s h).bind fun _ _ => Le.refl _
  | .rng a, s, h => by rw [evm, evm]; exact ((le_ev hc a).1 s h).bind fun _ _ => Le.refl _
  | .rng2 a b, s, h => by rw [evm, evm]; exact ((le_ev hc a).1 s h).bind fun _ h1 => ((le_ev hc b).1 s h1).bind fun _ _ => Le.refl _
  | .slc a lo hi, s, h => by rw [evm, evm]; exact ((le_ev hc a).1 s h).bind fun _ h1 => (le_evo hc lo s h1).bind fun _ h2 => (le_evo hc hi s h2).bind fun _ _ => Le.refl _
  | .cat a b, s, h => by rw [evm, evm]; exact ((le_ev hc a).1 s h).bind fun _ h1 => ((le_ev hc b).1 s h1).bind fun _ _ => Le.refl _
  | .rep a b, s, h => by rw [evm, evm]; exact ((le_ev hc a).1 s h).bind fun _ h1 => ((le_ev hc b).1 s h1).bind fun _ _ => Le.refl _
  | .dk es, s, h => by rw [evm, evm]; exact (le_evs hc es s h).bind fun _ _ => Le.refl _
  | .dt es, s, h => by rw [evm, evm]; exact (le_evs hc es s h).bind fun _ _ => Le.refl _
theorem le_evi (hc : ∀ f ws h, Le (call f ws h) (call' f ws h)) : ∀ (it : It) (s : VS) (h : VH), Le (evi ⟨call, gv, fuel⟩ it s h) (evi ⟨call', gv, fuel⟩ it s h)
  | .of e, s, h => by rw [evi, evi]; exact ((le_ev hc e).1 s h).bind fun _ _ => Le.refl _
  | .rng a, s, h => by rw [evi, evi]; exact ((le_ev hc a).1 s h).bind fun _ _ => Le.refl _
  | .rng2 a b, s, h => by rw [evi, evi]; exact ((le_ev hc a).1 s h).bind fun _ h1 => ((le_ev hc b).1 s h1).bind fun _ _ => Le.refl _
  | .enum e, s, h => by rw [evi, evi]; exact ((le_ev hc e).1 s h).bind fun _ _ => Le.refl _
theorem le_evc (hc : ∀ f ws h, Le (call f ws h) (call' f ws h)) : ∀ (e : Eo) (s : VS) (h : VH), Le (evc ⟨call, gv, fuel⟩ e s h) (evc ⟨call', gv, fuel⟩ e s h)
  | .none, s, h => by rw [evc, evc]; exact Le.refl _
  | .some e, s, h => by rw [evc, evc]; exact (le_ev hc e).2 s h
end
mutual
theorem le_ex (hc : ∀ f ws h, Le (call f ws h) (call' f ws h)) : ∀ (a : S) (s : VS) (h : VH), LeS (ex ⟨call, gv, fuel⟩ a s h) (ex ⟨call', gv, fuel⟩ a s h)
  | .ret e, s, h => by rw [ex, ex]; exact ((le_ev hc e).1 s h).thn fun _ _ => LeS.refl _
  | .retN, s, h => by rw [ex, ex]; exact LeS.refl _
  | .expr e, s, h => by rw [ex, ex]; exact ((le_ev hc e).1 s h).thn fun _ _ => LeS.refl _
  | .asg t e, s, h => by rw [ex, ex]; exact ((le_ev hc e).1 s h).thn fun _ _ => LeS.refl _
  | .put o i e, s, h => by rw [ex, ex]; exact ((le_ev hc e).1 s h).thn fun _ h1 => ((le_ev hc o).1 s h1).thn fun _ h2 => ((le_ev hc i).1 s h2).thn fun _ _ => LeS.refl _
  | .par i j a b, s, h => by rw [ex, ex]; exact ((le_ev hc a).1 s h).thn fun _ h1 => ((le_ev hc b).1 s h1).thn fun _ _ => LeS.refl _
  | .augN i op e, s, h => by
    rw [ex, ex]
    split
    · exact ((le_ev hc e).1 s h).thn fun _ _ => LeS.refl _
    · exact LeS.refl _
  | .augS o i op e, s, h => by
    rw [ex, ex]
    refine ((le_ev hc o).1 s h).thn fun _ h1 => ((le_ev hc i).1 s h1).thn fun _ h2 => ?_
    split
    · exact ((le_ev hc e).1 s h2).thn fun _ _ => LeS.refl _
    · exact LeS.refl _
  | .del o i, s, h => by rw [ex, ex]; exact ((le_ev hc o).1 s h).thn fun _ h1 => ((le_ev hc i).1 s h1).thn fun _ _ => LeS.refl _
  | .iff c a b, s, h => by
    rw [ex, ex]
    refine ((le_ev hc c).2 s h).thn fun k h1 => ?_
    split
    · exact le_exs hc a s h1
    · exact le_exs hc b s h1
  | .fr tg it b, s, h => by
    rw [ex, ex]
    refine (le_evi hc it s h).thn fun iv h1 => le_forLoop (fun x s1 h2 => ?_) _ _ _
    split
    · exact le_exs hc b _ h2
    · exact LeS.refl _
  | .wh c b, s, h => by rw [ex, ex]; exact le_whLoop (fun s h => (le_ev hc c).2 s h) (fun s h => le_exs hc b s h) fuel s h
  | .pass, s, h => by rw [ex, ex]; exact LeS.refl _
theorem le_exs (hc : ∀ f ws h, Le (call f ws h) (call' f ws h)) : ∀ (a : Ss) (s : VS) (h : VH), LeS (exs ⟨call, gv, fuel⟩ a s h) (exs ⟨call', gv, fuel⟩ a s h)
  | .nil, s, h => by rw [exs, exs]; exact LeS.refl _
  | .cons a r, s, h => by rw [exs, exs]; exact (le_ex hc a s h).bind fun s1 h1 => le_exs hc r s1 h1
end
theorem le_body (hc : ∀ f ws h, Le (call f ws h) (call' f ws h)) (d : Def) (ws : List W) (h : VH) : Le (bodyRun ⟨call, gv, fuel⟩ d ws h) (bodyRun ⟨call', gv, fuel⟩ d ws h) := by
  unfold bodyRun
  split
  · rcases le_exs (gv := gv) (fuel := fuel) hc d.body (start d.N ws) h with e | e
    · rw [e]; exact .inl rfl
    · rw [e]; exact .inr rfl
  · exact .inl rfl
theorem le_pure (hc : ∀ f ws h, Le (call f ws h) (call' f ws h)) (d : Def) (ws : List W) (h : VH) : Le (pureRun ⟨call, gv, fuel⟩ d ws h) (pureRun ⟨call', gv, fuel⟩ d ws h) := by
  unfold pureRun
  split
  · rcases le_body (gv := gv) (fuel := fuel) hc d ws [] with e | e
    · rw [e]; exact .inl rfl
    · rw [e]; exact .inr rfl
  · exact .inl rfl
end
/-- a call by a run with other calls -/
def stepN (call : Nat → List W → VH → R W) (P : Prog) (gv : Str → Option W) (f : Nat) (ws : List W) (h : VH) : R W := match P[f]? with
  | some d => if d.pure then pureRun ⟨call, gv, fuelC⟩ d ws h else bodyRun ⟨call, gv, fuelC⟩ d ws h
  | none => .bad
theorem callN_succ (P : Prog) (gv : Str → Option W) (n : Nat) : callN P gv (n + 1) = stepN (callN P gv n) P gv := by
  funext f ws h
  rw [callN]
  rfl
theorem le_step {call call' : Nat → List W → VH → R W} (hc : ∀ f ws h, Le (call f ws h) (call' f ws h)) (P : Prog) (gv : Str → Option W) (f : Nat) (ws : List W) (h : VH) : Le (stepN call P gv f ws h) (stepN call' P gv f ws h) := by
  unfold stepN
  split
  · split
    · exact le_pure hc _ _ _
    · exact le_body hc _ _ _
  · exact .inl rfl
/-- more depth knows no less -/
theorem le_callN (P : Prog) (gv : Str → Option W) : ∀ n f ws h, Le (callN P gv n f ws h) (callN P gv (n + 1) f ws h)
  | 0, f, ws, h => .inl rfl
  | n + 1, f, ws, h => by
    rw [callN_succ P gv n, callN_succ P gv (n + 1)]
    exact le_step (le_callN P gv n) P gv f ws h
theorem Le.ok {α : Type} {r r' : R α} {a : α} {h : VH} (l : Le r r') (e : r = .ok a h) : r' = .ok a h := by
  rcases l with q | q
  · rw [q] at e; cases e
  · rw [← q]; exact e
end Vm

namespace K67
open PySem PySem.Spec PyProof.Rows L2 Vm
def d_farthest : Vm.Def := { name := "farthest", qual := "farthest", par := ["persons"], N := ["persons"], pure := true, body := (.cons (.iff (.cmp .Eq (.var 0) (.int 2)) (.cons (.ret (.int 1)) .nil) .nil) (.cons (.ret (.bin .Add (.var 0) (.bin .FloorDiv (.bin .Sub (.var 0) (.int 1)) (.int 2)))) .nil)) }
def d_choices : Vm.Def := { name := "choices", qual := "choices", par := ["many", "chosen"], N := ["many", "chosen", "found", "step"], pure := true, body := (.cons (.asg (.v 2) (.int 1)) (.cons (.fr (.v 3) (.rng (.var 1)) (.cons (.asg (.v 2) (.bin .FloorDiv (.bin .Mult (.var 2) (.bin .Sub (.var 0) (.var 3))) (.bin .Add (.var 3) (.int 1)))) .nil)) (.cons (.ret (.var 2)) .nil))) }
def d_power : Vm.Def := { name := "power", qual := "power", par := ["base", "exponent"], N := ["base", "exponent", "found", "step"], pure := true, body := (.cons (.asg (.v 2) (.int 1)) (.cons (.fr (.v 3) (.rng (.var 1)) (.cons (.augN 2 .Mult (.var 0)) .nil)) (.cons (.ret (.var 2)) .nil))) }
def d_loop_arrangements : Vm.Def := { name := "loop_arrangements", qual := "loop_arrangements", par := ["persons"], N := ["persons", "table", "members", "rings", "longer"], pure := false, body := (.cons (.asg (.v 1) (.cel (.dt (.cons (.tup (.cons (.int 0) (.cons (.int 0) .nil))) (.cons (.int 1) .nil))))) (.cons (.fr (.v 2) (.rng2 (.int 1) (.bin .Add (.var 0) (.int 1))) (.cons (.fr (.v 3) (.rng (.bin .Add (.bin .FloorDiv (.var 2) (.int 2)) (.int 1))) (.cons (.asg (.v 4) (.mth .get (.var 1) (.cons (.tup (.cons (.bin .Sub (.var 2) (.int 1)) (.cons (.var 3) .nil))) (.cons (.int 0) .nil)))) (.cons (.put (.var 1) (.tup (.cons (.var 2) (.cons (.var 3) .nil))) (.bin .Mult (.bin .Sub (.var 2) (.int 1)) (.bin .Add (.var 4) (.mth .get (.var 1) (.cons (.tup (.cons (.bin .Sub (.var 2) (.int 2)) (.cons (.bin .Sub (.var 3) (.int 1)) .nil))) (.cons (.int 0) .nil)))))) .nil))) .nil)) (.cons (.ret (.var 1)) .nil))) }
def d_with_home : Vm.Def := { name := "with_home", qual := "with_home", par := ["members", "at_home"], N := ["members", "at_home"], pure := true, body := (.cons (.iff (.cmp .Gt (.var 1) (.var 0)) (.cons (.ret (.int 0)) .nil) .nil) (.cons (.ret (.bin .Mult (.call 1 (.cons (.var 0) (.cons (.var 1) .nil))) (.call 2 (.cons (.bin .Sub (.var 0) (.int 1)) (.cons (.bin .Sub (.var 0) (.var 1)) .nil))))) .nil)) }
def d_without_loops : Vm.Def := { name := "without_loops", qual := "without_loops", par := ["members", "at_home"], N := ["members", "at_home", "found", "inside"], pure := true, body := (.cons (.asg (.v 2) (.int 0)) (.cons (.fr (.v 3) (.rng (.bin .Add (.var 0) (.int 1))) (.cons (.augN 2 .Add (.bin .Mult (.bin .Mult (.call 1 (.cons (.var 0) (.cons (.var 3) .nil))) (.bin .Sub (.int 1) (.var 3))) (.call 4 (.cons (.bin .Sub (.var 0) (.var 3)) (.cons (.var 1) .nil))))) .nil)) (.cons (.ret (.var 2)) .nil))) }
def d_with_loops : Vm.Def := { name := "with_loops", qual := "with_loops", par := ["table", "persons", "at_home", "rings"], N := ["table", "persons", "at_home", "rings", "found", "inside", "outside"], pure := false, body := (.cons (.asg (.v 4) (.int 0)) (.cons (.fr (.v 5) (.rng2 (.bin .Mult (.int 2) (.var 3)) (.bin .Add (.bin .Sub (.var 1) (.var 2)) (.int 1))) (.cons (.iff (.cmp .In (.tup (.cons (.var 5) (.cons (.var 3) .nil))) (.var 0)) (.cons (.asg (.v 6) (.call 5 (.cons (.bin .Sub (.var 1) (.var 5)) (.cons (.var 2) .nil)))) (.cons (.augN 4 .Add (.bin .Mult (.bin .Mult (.call 1 (.cons (.var 1) (.cons (.var 5) .nil))) (.ix (.var 0) (.tup (.cons (.var 5) (.cons (.var 3) .nil))))) (.var 6))) .nil)) .nil) .nil)) (.cons (.ret (.var 4)) .nil))) }
def d_unshared : Vm.Def := { name := "unshared", qual := "unshared", par := ["table", "persons", "at_home", "rings"], N := ["table", "persons", "at_home", "rings"], pure := false, body := (.cons (.ret (.bin .Mult (.call 1 (.cons (.var 1) (.cons (.var 2) .nil))) (.ix (.var 0) (.tup (.cons (.bin .Sub (.var 1) (.var 2)) (.cons (.var 3) .nil)))))) .nil) }
def d_locked_count : Vm.Def := { name := "locked_count", qual := "locked_count", par := ["persons"], N := ["persons", "table", "rings"], pure := true, body := (.cons (.asg (.v 1) (.call 3 (.cons (.var 0) .nil))) (.cons (.ret (.blt .sum (.cons (.frz (.lc [2] (.v 2) (.rng (.bin .Add (.bin .FloorDiv (.var 0) (.int 2)) (.int 1))) .none (.call 7 (.cons (.var 1) (.cons (.var 0) (.cons (.int 0) (.cons (.var 2) .nil))))))) .nil))) .nil)) }
def d_counts : Vm.Def := { name := "counts", qual := "counts", par := ["persons"], N := ["persons", "table", "found", "at_home", "rings", "direct", "alone"], pure := true, body := (.cons (.asg (.v 1) (.call 3 (.cons (.var 0) .nil))) (.cons (.asg (.v 2) (.cel (.rep (.frz (.lst (.cons (.int 0) .nil))) (.bin .Add (.bin .Mult (.int 2) (.var 0)) (.int 2))))) (.cons (.fr (.v 3) (.rng (.bin .Add (.var 0) (.int 1))) (.cons (.fr (.v 4) (.rng (.bin .Add (.bin .FloorDiv (.bin .Sub (.var 0) (.var 3)) (.int 2)) (.int 1))) (.cons (.asg (.v 5) (.bin .Add (.bin .Sub (.var 0) (.var 3)) (.var 4))) (.cons (.asg (.v 6) (.call 7 (.cons (.var 1) (.cons (.var 0) (.cons (.var 3) (.cons (.var 4) .nil)))))) (.cons (.augS (.var 2) (.var 5) .Add (.bin .Sub (.call 6 (.cons (.var 1) (.cons (.var 0) (.cons (.var 3) (.cons (.var 4) .nil))))) (.var 6))) (.cons (.iff (.cmp .Gt (.var 3) (.int 0)) (.cons (.augS (.var 2) (.bin .Add (.var 5) (.blt .int (.cons (.cmp .Gt (.var 4) (.int 0)) .nil))) .Add (.var 6)) .nil) .nil) .nil))))) .nil)) (.cons (.ret (.blt .tuple (.cons (.slc (.var 2) .none (.some (.bin .Add (.call 0 (.cons (.var 0) .nil)) (.int 1)))) .nil))) .nil)))) }
def d_law_deck : Vm.Def := { name := "_law_deck", qual := "_law_deck", par := ["script"], N := ["script"], pure := false, body := (.cons (.ret (.cel (.dk (.cons (.str "cells") (.cons (.cel (.list (.slc (.var 0) .none (.some (.int 63))))) (.cons (.str "left") (.cons (.int 0) (.cons (.str "made") (.cons (.int 0) (.cons (.str "total") (.cons (.bin .Mod (.blt .sum (.cons (.slc (.var 0) .none (.some (.int 63))) .nil)) (.int 2147483629)) .nil))))))))))) .nil) }
def d_law_draw : Vm.Def := { name := "_law_draw", qual := "_law_draw", par := ["deck", "many"], N := ["deck", "many", "cell", "mixed", "digit"], pure := false, body := (.cons (.put (.var 0) (.str "made") (.bin .Add (.ix (.var 0) (.str "made")) (.int 1))) (.cons (.iff (.cmp .Gt (.ix (.var 0) (.str "left")) (.int 0)) (.cons (.asg (.v 4) (.bin .Mod (.ix (.var 0) (.str "left")) (.var 1))) (.cons (.put (.var 0) (.str "left") (.bin .FloorDiv (.ix (.var 0) (.str "left")) (.var 1))) (.cons (.ret (.var 4)) .nil))) .nil) (.cons (.asg (.v 2) (.ix (.var 0) (.str "total"))) (.cons (.iff (.cmp .NotEq (.ix (.var 0) (.str "cells")) (.frz (.lst .nil))) (.cons (.asg (.v 2) (.mth .pop (.ix (.var 0) (.str "cells")) (.cons (.int 0) .nil))) .nil) .nil) (.cons (.iff (.cmp .GtE (.blt .abs (.cons (.var 2) .nil)) (.bin .Pow (.int 10) (.int 18))) (.cons (.put (.var 0) (.str "left") (.bin .FloorDiv (.blt .abs (.cons (.var 2) .nil)) (.var 1))) (.cons (.ret (.bin .Mod (.blt .abs (.cons (.var 2) .nil)) (.var 1))) .nil)) .nil) (.cons (.asg (.v 3) (.bin .Mod (.bin .Pow (.bin .Add (.bin .Add (.bin .Mod (.var 2) (.int 2147483587)) (.bin .Mult (.int 69621) (.ix (.var 0) (.str "made")))) (.int 7919)) (.int 3)) (.int 2147483629))) (.cons (.asg (.v 3) (.bin .Mod (.bin .Pow (.bin .Add (.bin .Add (.var 3) (.bin .Mult (.bin .Mult (.int 31) (.ix (.var 0) (.str "made"))) (.ix (.var 0) (.str "made")))) (.int 17)) (.int 2)) (.int 2147483563))) (.cons (.ret (.bin .Mod (.bin .FloorDiv (.var 3) (.int 32)) (.var 1))) .nil)))))))) }
def d_law_choices : Vm.Def := { name := "_law_choices", qual := "_law_choices", par := ["many", "chosen"], N := ["many", "chosen", "found", "step"], pure := true, body := (.cons (.asg (.v 2) (.int 1)) (.cons (.fr (.v 3) (.rng (.var 1)) (.cons (.asg (.v 2) (.bin .FloorDiv (.bin .Mult (.var 2) (.bin .Sub (.var 0) (.var 3))) (.bin .Add (.var 3) (.int 1)))) .nil)) (.cons (.ret (.var 2)) .nil))) }
def d_law_ringed : Vm.Def := { name := "_law_ringed", qual := "_law_ringed", par := ["people"], N := ["people", "table", "members", "rings", "found", "ways", "size", "chosen"], pure := false, body := (.cons (.asg (.v 1) (.cel (.dt (.cons (.tup (.cons (.int 0) (.cons (.int 0) .nil))) (.cons (.int 1) .nil))))) (.cons (.fr (.v 2) (.rng2 (.int 1) (.bin .Add (.var 0) (.int 1))) (.cons (.fr (.v 3) (.rng2 (.int 1) (.bin .Add (.bin .FloorDiv (.var 2) (.int 2)) (.int 1))) (.cons (.asg (.v 4) (.int 0)) (.cons (.asg (.v 5) (.int 1)) (.cons (.fr (.v 6) (.rng2 (.int 2) (.bin .Add (.var 2) (.int 1))) (.cons (.asg (.v 5) (.bin .Mult (.var 5) (.bin .Sub (.var 6) (.int 1)))) (.cons (.asg (.v 7) (.bin .Mult (.call 12 (.cons (.bin .Sub (.var 2) (.int 1)) (.cons (.bin .Sub (.var 6) (.int 1)) .nil))) (.var 5))) (.cons (.asg (.v 4) (.bin .Add (.var 4) (.bin .Mult (.var 7) (.mth .get (.var 1) (.cons (.tup (.cons (.bin .Sub (.var 2) (.var 6)) (.cons (.bin .Sub (.var 3) (.int 1)) .nil))) (.cons (.int 0) .nil)))))) .nil)))) (.cons (.put (.var 1) (.tup (.cons (.var 2) (.cons (.var 3) .nil))) (.var 4)) .nil))))) .nil)) (.cons (.ret (.var 1)) .nil))) }
def d_law_free : Vm.Def := { name := "_law_free", qual := "_law_free", par := ["members", "here"], N := ["members", "here", "found", "step"], pure := true, body := (.cons (.iff (.cmp .Gt (.var 1) (.var 0)) (.cons (.ret (.int 0)) .nil) .nil) (.cons (.asg (.v 2) (.call 12 (.cons (.var 0) (.cons (.var 1) .nil)))) (.cons (.fr (.v 3) (.rng (.bin .Sub (.var 0) (.var 1))) (.cons (.asg (.v 2) (.bin .Mult (.var 2) (.bin .Sub (.var 0) (.int 1)))) .nil)) (.cons (.ret (.var 2)) .nil)))) }
def d_law_just : Vm.Def := { name := "_law_just", qual := "_law_just", par := ["table", "persons", "here", "rings"], N := ["table", "persons", "here", "rings", "found", "chosen", "pairs", "members", "ways"], pure := false, body := (.cons (.asg (.v 4) (.int 0)) (.cons (.fr (.v 5) (.rng2 (.var 3) (.bin .Add (.bin .FloorDiv (.bin .Sub (.var 1) (.var 2)) (.int 2)) (.int 1))) (.cons (.asg (.v 6) (.int 0)) (.cons (.fr (.v 7) (.rng2 (.bin .Mult (.int 2) (.var 5)) (.bin .Add (.bin .Sub (.var 1) (.var 2)) (.int 1))) (.cons (.asg (.v 8) (.bin .Mult (.call 12 (.cons (.var 1) (.cons (.var 7) .nil))) (.mth .get (.var 0) (.cons (.tup (.cons (.var 7) (.cons (.var 5) .nil))) (.cons (.int 0) .nil))))) (.cons (.asg (.v 6) (.bin .Add (.var 6) (.bin .Mult (.var 8) (.call 14 (.cons (.bin .Sub (.var 1) (.var 7)) (.cons (.var 2) .nil)))))) .nil))) (.cons (.asg (.v 4) (.bin .Add (.var 4) (.bin .Mult (.bin .Mult (.bin .Sub (.int 1) (.bin .Mult (.int 2) (.bin .Mod (.bin .Sub (.var 5) (.var 3)) (.int 2)))) (.call 12 (.cons (.var 5) (.cons (.var 3) .nil)))) (.var 6)))) .nil)))) (.cons (.ret (.var 4)) .nil))) }
def d_law_due : Vm.Def := { name := "_law_due", qual := "_law_due", par := ["persons"], N := ["persons", "table", "numbers", "locked", "here", "rings", "alone", "steps"], pure := true, body := (.cons (.asg (.v 1) (.call 13 (.cons (.var 0) .nil))) (.cons (.asg (.v 2) (.cel (.rep (.frz (.lst (.cons (.int 0) .nil))) (.bin .Add (.bin .Mult (.int 2) (.var 0)) (.int 2))))) (.cons (.asg (.v 3) (.int 0)) (.cons (.fr (.v 4) (.rng (.bin .Add (.var 0) (.int 1))) (.cons (.fr (.v 5) (.rng (.bin .Add (.bin .FloorDiv (.bin .Sub (.var 0) (.var 4)) (.int 2)) (.int 1))) (.cons (.asg (.v 6) (.bin .Mult (.call 12 (.cons (.var 0) (.cons (.var 4) .nil))) (.mth .get (.var 1) (.cons (.tup (.cons (.bin .Sub (.var 0) (.var 4)) (.cons (.var 5) .nil))) (.cons (.int 0) .nil))))) (.cons (.asg (.v 7) (.bin .Add (.bin .Sub (.var 0) (.var 4)) (.var 5))) (.cons (.put (.var 2) (.var 7) (.bin .Sub (.bin .Add (.ix (.var 2) (.var 7)) (.call 15 (.cons (.var 1) (.cons (.var 0) (.cons (.var 4) (.cons (.var 5) .nil)))))) (.var 6))) (.cons (.iff (.cmp .Eq (.var 4) (.int 0)) (.cons (.asg (.v 3) (.bin .Add (.var 3) (.var 6))) .nil) (.cons (.asg (.v 7) (.bin .Add (.var 7) (.blt .int (.cons (.cmp .Gt (.var 5) (.int 0)) .nil)))) (.cons (.put (.var 2) (.var 7) (.bin .Add (.ix (.var 2) (.var 7)) (.var 6))) .nil))) .nil))))) .nil)) (.cons (.wh (.cmp .Eq (.ix (.var 2) (.neg (.int 1))) (.int 0)) (.cons (.expr (.mth .pop (.var 2) .nil)) .nil)) (.cons (.ret (.frz (.lst (.cons (.blt .tuple (.cons (.var 2) .nil)) (.cons (.var 3) .nil))))) .nil)))))) }
def d_law : Vm.Def := { name := "law", qual := "law", par := ["script"], N := ["script", "deck", "rest", "turn", "persons"], pure := false, body := (.cons (.asg (.v 1) (.call 10 (.cons (.var 0) .nil))) (.cons (.asg (.v 2) (.cel (.rng2 (.int 2) (.int 13)))) (.cons (.fr (.v 3) (.rng (.int 5)) (.cons (.asg (.v 4) (.mth .pop (.var 2) (.cons (.call 11 (.cons (.var 1) (.cons (.blt .len (.cons (.var 2) .nil)) .nil))) .nil))) (.cons (.iff (.cmp .NotEq (.blt .repr (.cons (.frz (.lst (.cons (.call 9 (.cons (.var 4) .nil)) (.cons (.call 8 (.cons (.var 4) .nil)) .nil)))) .nil)) (.blt .repr (.cons (.call 16 (.cons (.var 4) .nil)) .nil))) (.cons (.ret (.bl false)) .nil) .nil) .nil))) (.cons (.ret (.bl true)) .nil)))) }
def prog : Prog := [d_farthest, d_choices, d_power, d_loop_arrangements, d_with_home, d_without_loops, d_with_loops, d_unshared, d_locked_count, d_counts, d_law_deck, d_law_draw, d_law_choices, d_law_ringed, d_law_free, d_law_just, d_law_due, d_law]
def gv : Str → Option W := fun _ => none
def nm : Nat → Option Str := fun f => (prog[f]?).map (·.name)
abbrev text : Program := PySem.Challenge.pw_latchfolk_k67_whole_numbers_by_another_s
def top (i : Nat) : Stmt := text.main.body.getD i (.Pass ⟨0, 0, 0, 0⟩)
def td_farthest : He.DefD := ⟨("farthest", none), "farthest", "farthest", defArgs (top 1), defBody (top 1), defScope (top 1), [], []⟩
def td_choices : He.DefD := ⟨("choices", none), "choices", "choices", defArgs (top 3), defBody (top 3), defScope (top 3), [], []⟩
def td_power : He.DefD := ⟨("power", none), "power", "power", defArgs (top 4), defBody (top 4), defScope (top 4), [], []⟩
def td_loop_arrangements : He.DefD := ⟨("loop_arrangements", none), "loop_arrangements", "loop_arrangements", defArgs (top 5), defBody (top 5), defScope (top 5), [], []⟩
def td_with_home : He.DefD := ⟨("with_home", none), "with_home", "with_home", defArgs (top 6), defBody (top 6), defScope (top 6), [], []⟩
def td_without_loops : He.DefD := ⟨("without_loops", none), "without_loops", "without_loops", defArgs (top 7), defBody (top 7), defScope (top 7), [], []⟩
def td_with_loops : He.DefD := ⟨("with_loops", none), "with_loops", "with_loops", defArgs (top 8), defBody (top 8), defScope (top 8), [], []⟩
def td_unshared : He.DefD := ⟨("unshared", none), "unshared", "unshared", defArgs (top 9), defBody (top 9), defScope (top 9), [], []⟩
def td_locked_count : He.DefD := ⟨("locked_count", none), "locked_count", "locked_count", defArgs (top 10), defBody (top 10), defScope (top 10), [], []⟩
def td_counts : He.DefD := ⟨("counts", none), "counts", "counts", defArgs (top 11), defBody (top 11), defScope (top 11), [], []⟩
def td_law_deck : He.DefD := ⟨("_law_deck", none), "_law_deck", "_law_deck", defArgs (top 13), defBody (top 13), defScope (top 13), [], []⟩
def td_law_draw : He.DefD := ⟨("_law_draw", none), "_law_draw", "_law_draw", defArgs (top 14), defBody (top 14), defScope (top 14), [], []⟩
def td_law_choices : He.DefD := ⟨("_law_choices", none), "_law_choices", "_law_choices", defArgs (top 15), defBody (top 15), defScope (top 15), [], []⟩
def td_law_ringed : He.DefD := ⟨("_law_ringed", none), "_law_ringed", "_law_ringed", defArgs (top 16), defBody (top 16), defScope (top 16), [], []⟩
def td_law_free : He.DefD := ⟨("_law_free", none), "_law_free", "_law_free", defArgs (top 17), defBody (top 17), defScope (top 17), [], []⟩
def td_law_just : He.DefD := ⟨("_law_just", none), "_law_just", "_law_just", defArgs (top 18), defBody (top 18), defScope (top 18), [], []⟩
def td_law_due : He.DefD := ⟨("_law_due", none), "_law_due", "_law_due", defArgs (top 19), defBody (top 19), defScope (top 19), [], []⟩
def td_law : He.DefD := ⟨("law", none), "law", "law", defArgs (top 20), defBody (top 20), defScope (top 20), [], []⟩
def fn : List He.DefD := [td_farthest, td_choices, td_power, td_loop_arrangements, td_with_home, td_without_loops, td_with_loops, td_unshared, td_locked_count, td_counts, td_law_deck, td_law_draw, td_law_choices, td_law_ringed, td_law_free, td_law_just, td_law_due, td_law]
def fa : List He.Fa := [.glo "farthest", .glo "choices", .glo "power", .glo "loop_arrangements", .glo "with_home", .glo "without_loops", .glo "with_loops", .glo "unshared", .glo "locked_count", .glo "counts", .glo "_law_deck", .glo "_law_draw", .glo "_law_choices", .glo "_law_ringed", .glo "_law_free", .glo "_law_just", .glo "_law_due", .glo "law", .free "list", .free "range", .free "enumerate", .free "zip", .free "len", .free "abs", .free "int", .free "sum", .free "all", .free "any", .free "tuple", .free "repr"]
abbrev hk : PySem.W.Hook := He.hookD 4 fa fn
def ob (s : PySem.W.SharedT) : He.AlD := He.obsDG 4 fa fn (HandSHeadRun.getT s)
theorem ob_eq (s : PySem.W.SharedT) : ob s = hk.obs s.abs := He.obsDG_eq (HandSHeadRun.getT_eq s)
def loose : List Str := ["farthest", "choices", "power", "loop_arrangements", "with_home", "without_loops", "with_loops", "unshared", "locked_count", "counts", "_law_deck", "_law_draw", "_law_choices", "_law_ringed", "_law_free", "_law_just", "_law_due"]
abbrev row : PySem.W.OpenRow := PySem.W.OpenLaw.row PySem.Challenge.rw_latchfolk_k67_whole_numbers_by_another_s
theorem run (w : World) : HandSHeadRun.RunEq row (PySem.W.view row.prog [20]) hk ob 1000 loose w := by
  intro os
  kernel_rfl
section
variable {w : World} {K : PySem.W.Frag} {h : Heap} {mg : Str → Option Value} {base : Heap}
theorem ok0 (X : K.In h) (G : h.Ns mainGlobals mg) (c : He.SaysD fa fn K) : DefOk ⟨text, w, K, mg, base⟩ nm d_farthest := by
  obtain ⟨fd, F⟩ := c.def_ 0 (d := td_farthest) rfl
  exact ⟨_, fd, _, _, _, F, ⟨He.glo_ok X G (c.fact 0 (f := .glo "farthest") rfl), F.kp, FunD.bindsN (ps := ["persons"]) F (fun _ _ _ _ _ _ us hl => match us, hl with | [_], _ => rfl), by decide⟩, C8.fnScope_by (by decide +kernel), by decide +kernel⟩
theorem ok1 (X : K.In h) (G : h.Ns mainGlobals mg) (c : He.SaysD fa fn K) : DefOk ⟨text, w, K, mg, base⟩ nm d_choices := by
  obtain ⟨fd, F⟩ := c.def_ 1 (d := td_choices) rfl
  exact ⟨_, fd, _, _, _, F, ⟨He.glo_ok X G (c.fact 1 (f := .glo "choices") rfl), F.kp, FunD.bindsN (ps := ["many", "chosen"]) F (fun _ _ _ _ _ _ us hl => match us, hl with | [_, _], _ => rfl), by decide⟩, C8.fnScope_by (by decide +kernel), by decide +kernel⟩
theorem ok2 (X : K.In h) (G : h.Ns mainGlobals mg) (c : He.SaysD fa fn K) : DefOk ⟨text, w, K, mg, base⟩ nm d_power := by
  obtain ⟨fd, F⟩ := c.def_ 2 (d := td_power) rfl
  exact ⟨_, fd, _, _, _, F, ⟨He.glo_ok X G (c.fact 2 (f := .glo "power") rfl), F.kp, FunD.bindsN (ps := ["base", "exponent"]) F (fun _ _ _ _ _ _ us hl => match us, hl with | [_, _], _ => rfl), by decide⟩, C8.fnScope_by (by decide +kernel), by decide +kernel⟩
theorem ok3 (X : K.In h) (G : h.Ns mainGlobals mg) (c : He.SaysD fa fn K) : DefOk ⟨text, w, K, mg, base⟩ nm d_loop_arrangements := by
  obtain ⟨fd, F⟩ := c.def_ 3 (d := td_loop_arrangements) rfl
  exact ⟨_, fd, _, _, _, F, ⟨He.glo_ok X G (c.fact 3 (f := .glo "loop_arrangements") rfl), F.kp, FunD.bindsN (ps := ["persons"]) F (fun _ _ _ _ _ _ us hl => match us, hl with | [_], _ => rfl), by decide⟩, C8.fnScope_by (by decide +kernel), by decide +kernel⟩
theorem ok4 (X : K.In h) (G : h.Ns mainGlobals mg) (c : He.SaysD fa fn K) : DefOk ⟨text, w, K, mg, base⟩ nm d_with_home := by
  obtain ⟨fd, F⟩ := c.def_ 4 (d := td_with_home) rfl
  exact ⟨_, fd, _, _, _, F, ⟨He.glo_ok X G (c.fact 4 (f := .glo "with_home") rfl), F.kp, FunD.bindsN (ps := ["members", "at_home"]) F (fun _ _ _ _ _ _ us hl => match us, hl with | [_, _], _ => rfl), by decide⟩, C8.fnScope_by (by decide +kernel), by decide +kernel⟩
theorem ok5 (X : K.In h) (G : h.Ns mainGlobals mg) (c : He.SaysD fa fn K) : DefOk ⟨text, w, K, mg, base⟩ nm d_without_loops := by
  obtain ⟨fd, F⟩ := c.def_ 5 (d := td_without_loops) rfl
  exact ⟨_, fd, _, _, _, F, ⟨He.glo_ok X G (c.fact 5 (f := .glo "without_loops") rfl), F.kp, FunD.bindsN (ps := ["members", "at_home"]) F (fun _ _ _ _ _ _ us hl => match us, hl with | [_, _], _ => rfl), by decide⟩, C8.fnScope_by (by decide +kernel), by decide +kernel⟩
theorem ok6 (X : K.In h) (G : h.Ns mainGlobals mg) (c : He.SaysD fa fn K) : DefOk ⟨text, w, K, mg, base⟩ nm d_with_loops := by
  obtain ⟨fd, F⟩ := c.def_ 6 (d := td_with_loops) rfl
  exact ⟨_, fd, _, _, _, F, ⟨He.glo_ok X G (c.fact 6 (f := .glo "with_loops") rfl), F.kp, FunD.bindsN (ps := ["table", "persons", "at_home", "rings"]) F (fun _ _ _ _ _ _ us hl => match us, hl with | [_, _, _, _], _ => rfl), by decide⟩, C8.fnScope_by (by decide +kernel), by decide +kernel⟩
theorem ok7 (X : K.In h) (G : h.Ns mainGlobals mg) (c : He.SaysD fa fn K) : DefOk ⟨text, w, K, mg, base⟩ nm d_unshared := by
  obtain ⟨fd, F⟩ := c.def_ 7 (d := td_unshared) rfl
  exact ⟨_, fd, _, _, _, F, ⟨He.glo_ok X G (c.fact 7 (f := .glo "unshared") rfl), F.kp, FunD.bindsN (ps := ["table", "persons", "at_home", "rings"]) F (fun _ _ _ _ _ _ us hl => match us, hl with | [_, _, _, _], _ => rfl), by decide⟩, C8.fnScope_by (by decide +kernel), by decide +kernel⟩
theorem ok8 (X : K.In h) (G : h.Ns mainGlobals mg) (c : He.SaysD fa fn K) : DefOk ⟨text, w, K, mg, base⟩ nm d_locked_count := by
  obtain ⟨fd, F⟩ := c.def_ 8 (d := td_locked_count) rfl
  exact ⟨_, fd, _, _, _, F, ⟨He.glo_ok X G (c.fact 8 (f := .glo "locked_count") rfl), F.kp, FunD.bindsN (ps := ["persons"]) F (fun _ _ _ _ _ _ us hl => match us, hl with | [_], _ => rfl), by decide⟩, C8.fnScope_by (by decide +kernel), by decide +kernel⟩
theorem ok9 (X : K.In h) (G : h.Ns mainGlobals mg) (c : He.SaysD fa fn K) : DefOk ⟨text, w, K, mg, base⟩ nm d_counts := by
  obtain ⟨fd, F⟩ := c.def_ 9 (d := td_counts) rfl
  exact ⟨_, fd, _, _, _, F, ⟨He.glo_ok X G (c.fact 9 (f := .glo "counts") rfl), F.kp, FunD.bindsN (ps := ["persons"]) F (fun _ _ _ _ _ _ us hl => match us, hl with | [_], _ => rfl), by decide⟩, C8.fnScope_by (by decide +kernel), by decide +kernel⟩
theorem ok10 (X : K.In h) (G : h.Ns mainGlobals mg) (c : He.SaysD fa fn K) : DefOk ⟨text, w, K, mg, base⟩ nm d_law_deck := by
  obtain ⟨fd, F⟩ := c.def_ 10 (d := td_law_deck) rfl
  exact ⟨_, fd, _, _, _, F, ⟨He.glo_ok X G (c.fact 10 (f := .glo "_law_deck") rfl), F.kp, FunD.bindsN (ps := ["script"]) F (fun _ _ _ _ _ _ us hl => match us, hl with | [_], _ => rfl), by decide⟩, C8.fnScope_by (by decide +kernel), by decide +kernel⟩
theorem ok11 (X : K.In h) (G : h.Ns mainGlobals mg) (c : He.SaysD fa fn K) : DefOk ⟨text, w, K, mg, base⟩ nm d_law_draw := by
  obtain ⟨fd, F⟩ := c.def_ 11 (d := td_law_draw) rfl
  exact ⟨_, fd, _, _, _, F, ⟨He.glo_ok X G (c.fact 11 (f := .glo "_law_draw") rfl), F.kp, FunD.bindsN (ps := ["deck", "many"]) F (fun _ _ _ _ _ _ us hl => match us, hl with | [_, _], _ => rfl), by decide⟩, C8.fnScope_by (by decide +kernel), by decide +kernel⟩
theorem ok12 (X : K.In h) (G : h.Ns mainGlobals mg) (c : He.SaysD fa fn K) : DefOk ⟨text, w, K, mg, base⟩ nm d_law_choices := by
  obtain ⟨fd, F⟩ := c.def_ 12 (d := td_law_choices) rfl
  exact ⟨_, fd, _, _, _, F, ⟨He.glo_ok X G (c.fact 12 (f := .glo "_law_choices") rfl), F.kp, FunD.bindsN (ps := ["many", "chosen"]) F (fun _ _ _ _ _ _ us hl => match us, hl with | [_, _], _ => rfl), by decide⟩, C8.fnScope_by (by decide +kernel), by decide +kernel⟩
theorem ok13 (X : K.In h) (G : h.Ns mainGlobals mg) (c : He.SaysD fa fn K) : DefOk ⟨text, w, K, mg, base⟩ nm d_law_ringed := by
  obtain ⟨fd, F⟩ := c.def_ 13 (d := td_law_ringed) rfl
  exact ⟨_, fd, _, _, _, F, ⟨He.glo_ok X G (c.fact 13 (f := .glo "_law_ringed") rfl), F.kp, FunD.bindsN (ps := ["people"]) F (fun _ _ _ _ _ _ us hl => match us, hl with | [_], _ => rfl), by decide⟩, C8.fnScope_by (by decide +kernel), by decide +kernel⟩
theorem ok14 (X : K.In h) (G : h.Ns mainGlobals mg) (c : He.SaysD fa fn K) : DefOk ⟨text, w, K, mg, base⟩ nm d_law_free := by
  obtain ⟨fd, F⟩ := c.def_ 14 (d := td_law_free) rfl
  exact ⟨_, fd, _, _, _, F, ⟨He.glo_ok X G (c.fact 14 (f := .glo "_law_free") rfl), F.kp, FunD.bindsN (ps := ["members", "here"]) F (fun _ _ _ _ _ _ us hl => match us, hl with | [_, _], _ => rfl), by decide⟩, C8.fnScope_by (by decide +kernel), by decide +kernel⟩
theorem ok15 (X : K.In h) (G : h.Ns mainGlobals mg) (c : He.SaysD fa fn K) : DefOk ⟨text, w, K, mg, base⟩ nm d_law_just := by
  obtain ⟨fd, F⟩ := c.def_ 15 (d := td_law_just) rfl
  exact ⟨_, fd, _, _, _, F, ⟨He.glo_ok X G (c.fact 15 (f := .glo "_law_just") rfl), F.kp, FunD.bindsN (ps := ["table", "persons", "here", "rings"]) F (fun _ _ _ _ _ _ us hl => match us, hl with | [_, _, _, _], _ => rfl), by decide⟩, C8.fnScope_by (by decide +kernel), by decide +kernel⟩
theorem ok16 (X : K.In h) (G : h.Ns mainGlobals mg) (c : He.SaysD fa fn K) : DefOk ⟨text, w, K, mg, base⟩ nm d_law_due := by
  obtain ⟨fd, F⟩ := c.def_ 16 (d := td_law_due) rfl
  exact ⟨_, fd, _, _, _, F, ⟨He.glo_ok X G (c.fact 16 (f := .glo "_law_due") rfl), F.kp, FunD.bindsN (ps := ["persons"]) F (fun _ _ _ _ _ _ us hl => match us, hl with | [_], _ => rfl), by decide⟩, C8.fnScope_by (by decide +kernel), by decide +kernel⟩
theorem ok17 (X : K.In h) (G : h.Ns mainGlobals mg) (c : He.SaysD fa fn K) : DefOk ⟨text, w, K, mg, base⟩ nm d_law := by
  obtain ⟨fd, F⟩ := c.def_ 17 (d := td_law) rfl
  exact ⟨_, fd, _, _, _, F, ⟨He.glo_ok X G (c.fact 17 (f := .glo "law") rfl), F.kp, FunD.bindsN (ps := ["script"]) F (fun _ _ _ _ _ _ us hl => match us, hl with | [_], _ => rfl), by decide⟩, C8.fnScope_by (by decide +kernel), by decide +kernel⟩
theorem free (X : K.In h) (G : h.Ns mainGlobals mg) (c : He.SaysD fa fn K) : Vm.Free ⟨text, w, K, mg, base⟩ :=
  ⟨He.free_ok X G (c.fact 18 (f := .free "list") rfl), He.free_ok X G (c.fact 19 (f := .free "range") rfl), He.free_ok X G (c.fact 20 (f := .free "enumerate") rfl), He.free_ok X G (c.fact 21 (f := .free "zip") rfl), fun b => by
    cases b
    · exact He.free_ok X G (c.fact 22 (f := .free "len") rfl)
    · exact He.free_ok X G (c.fact 23 (f := .free "abs") rfl)
    · exact He.free_ok X G (c.fact 24 (f := .free "int") rfl)
    · exact He.free_ok X G (c.fact 25 (f := .free "sum") rfl)
    · exact He.free_ok X G (c.fact 26 (f := .free "all") rfl)
    · exact He.free_ok X G (c.fact 27 (f := .free "any") rfl)
    · exact He.free_ok X G (c.fact 28 (f := .free "tuple") rfl)
    · exact He.free_ok X G (c.fact 29 (f := .free "repr") rfl)⟩
theorem oks (X : K.In h) (G : h.Ns mainGlobals mg) (c : He.SaysD fa fn K) : ∀ d ∈ prog, DefOk ⟨text, w, K, mg, base⟩ nm d :=
  List.forall_mem_cons.mpr ⟨ok0 X G c, List.forall_mem_cons.mpr ⟨ok1 X G c, List.forall_mem_cons.mpr ⟨ok2 X G c, List.forall_mem_cons.mpr ⟨ok3 X G c, List.forall_mem_cons.mpr ⟨ok4 X G c, List.forall_mem_cons.mpr ⟨ok5 X G c, List.forall_mem_cons.mpr ⟨ok6 X G c, List.forall_mem_cons.mpr ⟨ok7 X G c, List.forall_mem_cons.mpr ⟨ok8 X G c, List.forall_mem_cons.mpr ⟨ok9 X G c, List.forall_mem_cons.mpr ⟨ok10 X G c, List.forall_mem_cons.mpr ⟨ok11 X G c, List.forall_mem_cons.mpr ⟨ok12 X G c, List.forall_mem_cons.mpr ⟨ok13 X G c, List.forall_mem_cons.mpr ⟨ok14 X G c, List.forall_mem_cons.mpr ⟨ok15 X G c, List.forall_mem_cons.mpr ⟨ok16 X G c, List.forall_mem_cons.mpr ⟨ok17 X G c, fun d hd => nomatch hd⟩⟩⟩⟩⟩⟩⟩⟩⟩⟩⟩⟩⟩⟩⟩⟩⟩⟩
theorem facts (X : K.In h) (G : h.Ns mainGlobals mg) (c : He.SaysD fa fn K) {f : Addr} (hf : mg ("law" : Str) = some (.ref f)) :
    ∃ fd, L2.Binds K fd ["script"] [] ∧ FnG ⟨text, w, K, mg, base⟩ 12 f fd ["script"] (spR ⟨text, w, K, mg, base⟩ ["script"] (callN prog gv 12 17)) := by
  obtain ⟨a, fd, bn, F⟩ := all_ok (B := ⟨text, w, K, mg, base⟩) (P := prog) (gv := gv) (nm := nm) (fun _ _ z => nomatch z) (free X G c) (fun f x e => by
    obtain ⟨d, e1, e2⟩ := Option.map_eq_some_iff.mp e
    exact ⟨d, e1, e2⟩) (fun f d e => oks X G c d (List.mem_of_getElem? e)) 12 17 d_law rfl
  have e : a = f := by
    have q := bn.mg.symm.trans hf
    simpa using q
  subst e
  exact ⟨fd, bn.bd, F⟩
end
/-- the law, from the run of the interpreter -/
theorem holds (hrun : ∀ ns : List Int, ns.length ≤ 63 → (∀ z ∈ ns, Builtin.Int.intBits z ≤ 1048576) → ∃ h', callN prog gv 12 17 [.scr (ns.map W.int)] [] = .ok (.bl true) h') : PySem.Challenge.rw_latchfolk_k67_whole_numbers_by_another_s.Holds := by
  w_on; o_law
  refine HandSHeadRun.head_any (r := row) (q := PySem.W.view row.prog [20]) (H := hk) (ob := ob) (M := 1000) (loose := loose) (d := HandSHeadRun.topDef row.prog 20) (kwd := []) ob_eq
    (by kernel_rfl) (fun s => by kernel_rfl) run (by kernel_rfl) (by kernel_rfl) (by kernel_rfl) (by rfl) (by first | assumption | decide +kernel) (by decide +kernel) ⟨rfl, rfl, rfl, rfl, rfl, by decide +kernel⟩ ?hw ?hc
  case hw => w_witness2
  case hc =>
    refine walk_end (l := PySem.Challenge.rw_latchfolk_k67_whole_numbers_by_another_s) (n := 63) (k := 12) (x := "script") rfl (by decide) (by kernel_rfl) ⟨rfl, by decide, by decide⟩ ?F hrun
    intro w mg fa h Y G hmg0
    obtain ⟨K, KX, c⟩ := Y
    have hmg : mg ("law" : PySem.Str) = some (.ref fa) := by
      have e : (HandSHeadRun.topDef row.prog 20).name = ("law" : PySem.Str) := by kernel_rfl
      rw [← e]
      exact hmg0
    exact ⟨K, KX, fun base _ _ => facts KX G c hmg⟩
end K67

namespace K67
open PySem L2 Vm
/-! ### the numbers, person by person -/
/-! the numbers that the defs return, as functions -/
def ch (n k : Int) : Int := (List.range k.toNat).foldl (fun a s => a * (n - (s : Nat)) / ((s : Nat) + 1)) 1
def pw (b e : Int) : Int := b ^ e.toNat
def wh (m a : Int) : Int := if a > m then 0 else ch m a * pw (m - 1) (m - a)
def wl (m a : Int) : Int := (List.range (m + 1).toNat).foldl (fun s i => s + ch m (i : Nat) * (1 - (i : Nat)) * wh (m - (i : Nat)) a) 0
def inR (n k : Int) : Bool := decide (0 ≤ n) && decide (n ≤ 12) && decide (0 ≤ k) && decide (k ≤ 12)
def inB (n k : Int) : Bool := decide (-1 ≤ n) && decide (n ≤ 11) && decide (0 ≤ k) && decide (k ≤ 12)
abbrev Calls := Nat → List W → VH → R W
def two (c : Int → Int → Bool) (g : Int → Int → Int) (ws : List W) (h : VH) : R W := match ws with
  | [.int n, .int k] => if c n k then .ok (.int (g n k)) h else .bad
  | _ => .bad
def orcA : Calls := fun f ws h => match f with
  | 1 => two inR ch ws h
  | 2 => two inB pw ws h
  | 12 => two inR ch ws h
  | _ => .bad
def orcB : Calls := fun f ws h => match f with
  | 4 => two inR wh ws h
  | 14 => two inR wh ws h
  | f => orcA f ws h
def orcC : Calls := fun f ws h => match f with
  | 5 => two inR wl ws h
  | f => orcB f ws h
def isVal (r : R W) (v : Int) : Bool := match r with
  | .ok (.int x) [] => decide (x = v)
  | _ => false
theorem isVal_ok {r : R W} {v : Int} (h : isVal r v = true) : r = .ok (.int v) [] := by
  unfold isVal at h
  split at h
  · rw [of_decide_eq_true h]
  · cases h
def grid (lo : Int) (c : Calls) (f : Nat) (g : Int → Int → Int) : Bool := (List.range 13).all fun n => (List.range 13).all fun k => isVal (c f [.int (lo + (n : Nat)), .int (k : Nat)] []) (g (lo + (n : Nat)) (k : Nat))
theorem grid_ok {lo : Int} {c : Calls} {f : Nat} {g : Int → Int → Int} (h : grid lo c f g = true) {n k : Int} (hn : lo ≤ n ∧ n ≤ lo + 12) (hk : 0 ≤ k ∧ k ≤ 12) : c f [.int n, .int k] [] = .ok (.int (g n k)) [] := by
  unfold grid at h
  have h1 := List.all_eq_true.mp h (n - lo).toNat (List.mem_range.mpr (by omega))
  have h2 := List.all_eq_true.mp h1 k.toNat (List.mem_range.mpr (by omega))
  have e1 : lo + ((n - lo).toNat : Nat) = n := by omega
  have e2 : ((k.toNat : Nat) : Int) = k := by omega
  rw [e1, e2] at h2
  exact isVal_ok h2
theorem le_two {c : Int → Int → Bool} {g : Int → Int → Int} {r : List W → VH → R W} (k : ∀ n k h, c n k = true → r [.int n, .int k] h = .ok (.int (g n k)) h) (ws : List W) (h : VH) : Le (two c g ws h) (r ws h) := by
  unfold two
  split
  · rename_i n m
    split
    · rename_i hc
      exact .inr (k n m h hc).symm
    · exact .inl rfl
  · exact .inl rfl
theorem inR_ok {n k : Int} (h : inR n k = true) : ((0 : Int) ≤ n ∧ n ≤ 0 + 12) ∧ 0 ≤ k ∧ k ≤ 12 := by
  simp only [inR, Bool.and_eq_true, decide_eq_true_eq] at h
  omega
theorem inB_ok {n k : Int} (h : inB n k = true) : ((-1 : Int) ≤ n ∧ n ≤ -1 + 12) ∧ 0 ≤ k ∧ k ≤ 12 := by
  simp only [inB, Bool.and_eq_true, decide_eq_true_eq] at h
  omega
theorem grid1 : grid 0 (callN prog gv 1) 1 ch = true := by decide +kernel
theorem grid2 : grid (-1) (callN prog gv 1) 2 pw = true := by decide +kernel
theorem grid12 : grid 0 (callN prog gv 1) 12 ch = true := by decide +kernel
theorem leA (f : Nat) (ws : List W) (h : VH) : Le (orcA f ws h) (callN prog gv 1 f ws h) := by
  unfold orcA
  split
  · exact le_two (fun n k h hc => pure_heap (show prog[1]? = some d_choices from rfl) rfl (grid_ok grid1 (inR_ok hc).1 (inR_ok hc).2)) ws h
  · exact le_two (fun n k h hc => pure_heap (show prog[2]? = some d_power from rfl) rfl (grid_ok grid2 (inB_ok hc).1 (inB_ok hc).2)) ws h
  · exact le_two (fun n k h hc => pure_heap (show prog[12]? = some d_law_choices from rfl) rfl (grid_ok grid12 (inR_ok hc).1 (inR_ok hc).2)) ws h
  · exact .inl rfl
theorem grid4 : grid 0 (stepN orcA prog gv) 4 wh = true := by decide +kernel
theorem grid14 : grid 0 (stepN orcA prog gv) 14 wh = true := by decide +kernel
theorem up {c : Calls} {n f : Nat} {ws : List W} {w : W} (hc : ∀ f ws h, Le (c f ws h) (callN prog gv n f ws h)) (e : stepN c prog gv f ws [] = .ok w []) : callN prog gv (n + 1) f ws [] = .ok w [] := by
  rw [callN_succ]
  exact (le_step hc prog gv f ws []).ok e
theorem Le.tr {α : Type} {a b c : R α} (x : Le a b) (y : Le b c) : Le a c := by
  rcases x with e | e
  · exact .inl e
  · rw [e]; exact y
theorem leB (f : Nat) (ws : List W) (h : VH) : Le (orcB f ws h) (callN prog gv 2 f ws h) := by
  unfold orcB
  split
  · exact le_two (fun n k h hc => pure_heap (show prog[4]? = some d_with_home from rfl) rfl (up leA (grid_ok grid4 (inR_ok hc).1 (inR_ok hc).2))) ws h
  · exact le_two (fun n k h hc => pure_heap (show prog[14]? = some d_law_free from rfl) rfl (up leA (grid_ok grid14 (inR_ok hc).1 (inR_ok hc).2))) ws h
  · exact Le.tr (leA _ ws h) (le_callN prog gv 1 _ ws h)
theorem grid5 : grid 0 (stepN orcB prog gv) 5 wl = true := by decide +kernel
theorem leC (f : Nat) (ws : List W) (h : VH) : Le (orcC f ws h) (callN prog gv 3 f ws h) := by
  unfold orcC
  split
  · exact le_two (fun n k h hc => pure_heap (show prog[5]? = some d_without_loops from rfl) rfl (up leB (grid_ok grid5 (inR_ok hc).1 (inR_ok hc).2))) ws h
  · exact Le.tr (leB _ ws h) (le_callN prog gv 2 _ ws h)
def orcD : Calls := fun f ws h => match orcC f ws h with
  | .bad => stepN orcC prog gv f ws h
  | r => r
theorem leD (f : Nat) (ws : List W) (h : VH) : Le (orcD f ws h) (callN prog gv 4 f ws h) := by
  unfold orcD
  split
  · rw [callN_succ]
    exact le_step leC prog gv f ws h
  · rename_i r _
    exact Le.tr (leC f ws h) (le_callN prog gv 3 f ws h)
theorem upN {f : Nat} {ws : List W} {w : W} (e : stepN orcD prog gv f ws [] = .ok w []) : callN prog gv 11 f ws [] = .ok w [] :=
  (le_callN prog gv 10 f ws []).ok ((le_callN prog gv 9 f ws []).ok ((le_callN prog gv 8 f ws []).ok ((le_callN prog gv 7 f ws []).ok ((le_callN prog gv 6 f ws []).ok ((le_callN prog gv 5 f ws []).ok (up leD e))))))
def isW (r : R W) (w : W) : Bool := match r with
  | .ok x [] => W.beq x w
  | _ => false
theorem isW_ok {r : R W} {w : W} (h : isW r w = true) : r = .ok w [] := by
  unfold isW at h
  split at h
  · rw [W.beq_eq h]
  · cases h
def both (v : List Int) (l : Int) : W := .lst [.tup (v.map W.int), .int l]
theorem repr_str {w : W} (h : (reprF [] [w]).isSome = true) : ∃ x, reprF [] [w] = some (.str x) := by
  obtain ⟨y, e⟩ := Option.isSome_iff_exists.mp h
  have e2 := e
  simp only [reprF] at e2
  obtain ⟨d, _, e3⟩ := bind_some_ e2
  obtain ⟨_, rfl⟩ := ite_some_ e3
  exact ⟨_, e⟩
/-- what the law asks of a number of persons -/
def Fine (p : Int) : Prop := ∃ a b c x, callN prog gv 11 9 [.int p] [] = .ok a [] ∧ callN prog gv 11 8 [.int p] [] = .ok b [] ∧ callN prog gv 11 16 [.int p] [] = .ok c [] ∧
    reprF [] [.lst [a, b]] = some (.str x) ∧ reprF [] [c] = some (.str x)
theorem fine {p : Int} {v : List Int} {l : Int} (h1 : isW (stepN orcD prog gv 9 [.int p] []) (.tup (v.map W.int)) = true) (h2 : isW (stepN orcD prog gv 8 [.int p] []) (.int l) = true)
    (h3 : isW (stepN orcD prog gv 16 [.int p] []) (both v l) = true) (h4 : (reprF [] [both v l]).isSome = true) : Fine p := by
  obtain ⟨x, e⟩ := repr_str h4
  exact ⟨_, _, _, x, upN (isW_ok h1), upN (isW_ok h2), upN (isW_ok h3), e, e⟩
def v2 : List Int := [1, 2]
theorem c2 : isW (stepN orcD prog gv 9 [.int 2] []) (.tup (v2.map W.int)) = true := by decide +kernel
theorem k2 : isW (stepN orcD prog gv 8 [.int 2] []) (.int 1) = true := by decide +kernel
theorem u2 : isW (stepN orcD prog gv 16 [.int 2] []) (both v2 1) = true := by decide +kernel
theorem s2 : (reprF [] [both v2 1]).isSome = true := by decide +kernel
def v3 : List Int := [1, 6, 9, 6, 3]
theorem c3 : isW (stepN orcD prog gv 9 [.int 3] []) (.tup (v3.map W.int)) = true := by decide +kernel
theorem k3 : isW (stepN orcD prog gv 8 [.int 3] []) (.int 2) = true := by decide +kernel
theorem u3 : isW (stepN orcD prog gv 16 [.int 3] []) (both v3 2) = true := by decide +kernel
theorem s3 : (reprF [] [both v3 2]).isSome = true := by decide +kernel
def v4 : List Int := [1, 12, 48, 88, 90, 8]
theorem c4 : isW (stepN orcD prog gv 9 [.int 4] []) (.tup (v4.map W.int)) = true := by decide +kernel
theorem k4 : isW (stepN orcD prog gv 8 [.int 4] []) (.int 9) = true := by decide +kernel
theorem u4 : isW (stepN orcD prog gv 16 [.int 4] []) (both v4 9) = true := by decide +kernel
theorem s4 : (reprF [] [both v4 9]).isSome = true := by decide +kernel
def v5 : List Int := [1, 20, 150, 560, 1175, 1070, 90, 15]
theorem c5 : isW (stepN orcD prog gv 9 [.int 5] []) (.tup (v5.map W.int)) = true := by decide +kernel
theorem k5 : isW (stepN orcD prog gv 8 [.int 5] []) (.int 44) = true := by decide +kernel
theorem u5 : isW (stepN orcD prog gv 16 [.int 5] []) (both v5 44) = true := by decide +kernel
theorem s5 : (reprF [] [both v5 44]).isSome = true := by decide +kernel
def v6 : List Int := [1, 30, 360, 2280, 8475, 17536, 15990, 1599, 120]
theorem c6 : isW (stepN orcD prog gv 9 [.int 6] []) (.tup (v6.map W.int)) = true := by decide +kernel
theorem k6 : isW (stepN orcD prog gv 8 [.int 6] []) (.int 265) = true := by decide +kernel
theorem u6 : isW (stepN orcD prog gv 16 [.int 6] []) (both v6 265) = true := by decide +kernel
theorem s6 : (reprF [] [both v6 265]).isSome = true := by decide +kernel
def v7 : List Int := [1, 42, 735, 7070, 41496, 149422, 307279, 285334, 28665, 1540, 105]
theorem c7 : isW (stepN orcD prog gv 9 [.int 7] []) (.tup (v7.map W.int)) = true := by decide +kernel
theorem k7 : isW (stepN orcD prog gv 8 [.int 7] []) (.int 1854) = true := by decide +kernel
theorem u7 : isW (stepN orcD prog gv 16 [.int 7] []) (both v7 1854) = true := by decide +kernel
theorem s7 : (reprF [] [both v7 1854]).isSome = true := by decide +kernel
def v8 : List Int := [1, 56, 1344, 18256, 155988, 862960, 3033268, 6221146, 5857488, 579704, 30492, 1680]
theorem c8 : isW (stepN orcD prog gv 9 [.int 8] []) (.tup (v8.map W.int)) = true := by decide +kernel
theorem k8 : isW (stepN orcD prog gv 8 [.int 8] []) (.int 14833) = true := by decide +kernel
theorem u8 : isW (stepN orcD prog gv 16 [.int 8] []) (both v8 14833) = true := by decide +kernel
theorem s8 : (reprF [] [both v8 14833]).isSome = true := by decide +kernel
def v9 : List Int := [1, 72, 2268, 41328, 485010, 3817212, 20231064, 69793614, 142896429, 136005456, 13290102, 694512, 28980, 945]
theorem c9 : isW (stepN orcD prog gv 9 [.int 9] []) (.tup (v9.map W.int)) = true := by decide +kernel
theorem k9 : isW (stepN orcD prog gv 8 [.int 9] []) (.int 133496) = true := by decide +kernel
theorem u9 : isW (stepN orcD prog gv 16 [.int 9] []) (both v9 133496) = true := by decide +kernel
theorem s9 : (reprF [] [both v9 133496]).isSome = true := by decide +kernel
def v10 : List Int := [1, 90, 3600, 84720, 1307925, 13885440, 103004580, 528243978, 1795628160, 3671812660, 3525585270, 340846500, 17580420, 656495, 25200]
theorem c10 : isW (stepN orcD prog gv 9 [.int 10] []) (.tup (v10.map W.int)) = true := by decide +kernel
theorem k10 : isW (stepN orcD prog gv 8 [.int 10] []) (.int 1334961) = true := by decide +kernel
theorem u10 : isW (stepN orcD prog gv 16 [.int 10] []) (both v10 1334961) = true := by decide +kernel
theorem s10 : (reprF [] [both v10 1334961]).isSome = true := by decide +kernel
def v11 : List Int := [1, 110, 5445, 160710, 3157825, 43481922, 429271590, 3043685568, 15207943575, 51084727430, 104362713301, 100941407963, 9670080090, 492117681, 17633385, 589050, 10395]
theorem c11 : isW (stepN orcD prog gv 9 [.int 11] []) (.tup (v11.map W.int)) = true := by decide +kernel
theorem k11 : isW (stepN orcD prog gv 8 [.int 11] []) (.int 14684570) = true := by decide +kernel
theorem u11 : isW (stepN orcD prog gv 16 [.int 11] []) (both v11 14684570) = true := by decide +kernel
theorem s11 : (reprF [] [both v11 14684570]).isSome = true := by decide +kernel
def v12 : List Int := [1, 132, 7920, 286440, 6979566, 120948344, 1531647018, 14302823733, 97848645840, 478709773080, 1592433135612, 3250842882684, 3163737411516, 300722077259, 15121715400, 529763520, 15719550, 415800]
theorem c12 : isW (stepN orcD prog gv 9 [.int 12] []) (.tup (v12.map W.int)) = true := by decide +kernel
theorem k12 : isW (stepN orcD prog gv 8 [.int 12] []) (.int 176214841) = true := by decide +kernel
theorem u12 : isW (stepN orcD prog gv 16 [.int 12] []) (both v12 176214841) = true := by decide +kernel
theorem s12 : (reprF [] [both v12 176214841]).isSome = true := by decide +kernel
theorem all_fine {p : Int} (h : 2 ≤ p ∧ p ≤ 12) : Fine p := by
  have : p = 2 ∨ p = 3 ∨ p = 4 ∨ p = 5 ∨ p = 6 ∨ p = 7 ∨ p = 8 ∨ p = 9 ∨ p = 10 ∨ p = 11 ∨ p = 12 := by omega
  rcases this with rfl | rfl | rfl | rfl | rfl | rfl | rfl | rfl | rfl | rfl | rfl
  · exact fine c2 k2 u2 s2
  · exact fine c3 k3 u3 s3
  · exact fine c4 k4 u4 s4
  · exact fine c5 k5 u5 s5
  · exact fine c6 k6 u6 s6
  · exact fine c7 k7 u7 s7
  · exact fine c8 k8 u8 s8
  · exact fine c9 k9 u9 s9
  · exact fine c10 k10 u10 s10
  · exact fine c11 k11 u11 s11
  · exact fine c12 k12 u12 s12
/-! ### the law's turns -/
abbrev C : Vm.Ctx := ⟨callN prog gv 11, gv, fuelC⟩
theorem call_draw {ws : List W} {h : VH} : callN prog gv 11 11 ws h = bodyRun ⟨callN prog gv 10, gv, fuelC⟩ drawD ws h := rfl
theorem call_deck {ws : List W} {h : VH} : callN prog gv 11 10 ws h = bodyRun ⟨callN prog gv 10, gv, fuelC⟩ deckD ws h := rfl
def turnB : Ss := .cons (.asg (.v 4) (.mth .pop (.var 2) (.cons (.call 11 (.cons (.var 1) (.cons (.blt .len (.cons (.var 2) .nil)) .nil))) .nil))) (.cons (.iff (.cmp .NotEq (.blt .repr (.cons (.frz (.lst (.cons (.call 9 (.cons (.var 4) .nil)) (.cons (.call 8 (.cons (.var 4) .nil)) .nil)))) .nil)) (.blt .repr (.cons (.call 16 (.cons (.var 4) .nil)) .nil))) (.cons (.ret (.bl false)) .nil) .nil) .nil)
structure Turn (n : Int) (s : VS) (h : VH) : Prop where
  ex : ∃ (w0 : Option W) (a b : Option W) (xs ps : List Int) (l t : Int), s = [w0, some (.ref 1), some (.ref 2), a, b] ∧ DeckAt h 1 0 xs l n t ∧ h[2]? = some (.lst (ps.map W.int)) ∧ (ps.length : Int) + n = 11 ∧ ∀ p ∈ ps, 2 ≤ p ∧ p ≤ 12
theorem check {p : Int} (hp : 2 ≤ p ∧ p ≤ 12) {w0 w1 w2 a : Option W} {h : VH} : ex C (.iff (.cmp .NotEq (.blt .repr (.cons (.frz (.lst (.cons (.call 9 (.cons (.var 4) .nil)) (.cons (.call 8 (.cons (.var 4) .nil)) .nil)))) .nil)) (.blt .repr (.cons (.call 16 (.cons (.var 4) .nil)) .nil))) (.cons (.ret (.bl false)) .nil) .nil) [w0, w1, w2, a, some (.int p)] h
    = .nx [w0, w1, w2, a, some (.int p)] h := by
  obtain ⟨x, y, z, r, e1, e2, e3, e4, e5⟩ := all_fine hp
  have c1 := pure_heap (h := h) (show prog[9]? = some d_counts from rfl) rfl e1
  have c2 := pure_heap (h := h) (show prog[8]? = some d_locked_count from rfl) rfl e2
  have c3 := pure_heap (h := h) (show prog[16]? = some d_law_due from rfl) rfl e3
  have c4 := repr_any h e4
  have c5 := repr_any h e5
  have sz : (2 : Nat) ≤ sizeLine := by rw [sizeLine_eq]; omega
  rw [ex]
  simp [ev, evs, evm, exs, mkDn, mkBl, C, c1, c2, c3, sz, cellW, bltW, c4, c5, cmpW, eqW, scalE]
theorem turn {n : Int} {s : VS} {h : VH} (T : Turn n s h) (hn : 0 ≤ n ∧ n < 5) (k : Nat) : ∃ s' h', exs C turnB (s.set 3 (some (.int k))) h = .nx s' h' ∧ Turn (n + 1) s' h' := by
  obtain ⟨w0, a, b, xs, ps, l, t, rfl, D, hr, hlen, hps⟩ := T.ex
  have hlen2 : 0 < (ps.length : Int) ∧ (ps.length : Int) < 1073741824 := by omega
  obtain ⟨q, xs', l', h1, e1, q0, q1, D1, keep, ll⟩ := draw_ok (C := ⟨callN prog gv 10, gv, fuelC⟩) D hlen2 ⟨hn.1, by omega⟩
  have hq : q.toNat < ps.length := by omega
  have hp : ps[q.toNat]? = some ps[q.toNat] := by simp [hq]
  have hr1 : h1[2]? = some (.lst (ps.map W.int)) := by rw [keep 2 (by decide) (by decide)]; exact hr
  have e2 := pop_at hr1 q0 hp (by omega)
  have lenF_ : lenF h [.ref 2] = some (.int ps.length) := by
    simp [lenF, lenW, hr, unlock]
  have isl : (asLst h (.ref 2)).isSome = true := by simp [asLst, hr]
  refine ⟨[w0, some (.ref 1), some (.ref 2), some (.int k), some (.int ps[q.toNat])], h1.set 2 (.lst ((ps.eraseIdx q.toNat).map W.int)), ?_, ⟨w0, _, _, xs', ps.eraseIdx q.toNat, l', t, rfl, ⟨?_, ?_, D1.ne⟩, ?_, ?_, fun p hp => hps p (List.mem_of_mem_eraseIdx hp)⟩⟩
  · have e0 : ex C (.asg (.v 4) (.mth .pop (.var 2) (.cons (.call 11 (.cons (.var 1) (.cons (.blt .len (.cons (.var 2) .nil)) .nil))) .nil))) [w0, some (.ref 1), some (.ref 2), some (.int k), b] h
        = .nx [w0, some (.ref 1), some (.ref 2), some (.int k), some (.int ps[q.toNat])] (h1.set 2 (.lst ((ps.eraseIdx q.toNat).map W.int))) := by
      rw [ex]
      simp [ev, evs, mkDn, mthRun, mthOk, mthW, isl, bltW, lenF_, C, call_draw, e1, e2, Tg.set]
    show exs C (.cons _ (.cons _ .nil)) [w0, some (.ref 1), some (.ref 2), some (.int k), b] h = _
    rw [exs, e0, RS.bind_nx, exs, check (hps _ (List.getElem_mem hq)), RS.bind_nx, exs]
  · rw [List.getElem?_set_ne (by decide)]; exact D1.dk
  · rw [List.getElem?_set_ne (by decide)]; exact D1.ls
  · rw [List.getElem?_set_self (by
      have := (List.getElem?_eq_some_iff.mp hr1).1
      exact this)]
  · rw [List.length_eraseIdx_of_lt hq]
    omega
theorem loop : ∀ (m : Nat) {n : Int} {s : VS} {h : VH}, Turn n s h → n + m = 5 → 0 ≤ n → ∀ is : List Nat, is.length = m →
    ∃ s' h', forLoop (fun _ => true) (fun x s1 h2 => match tgSet (.v 3) x s1 with
      | some s2 => exs C turnB s2 h2
      | none => .bad) (is.map fun i => W.int (i : Nat)) s h = .nx s' h'
  | 0, n, s, h, T, e, h0, is, hl => by
    have := List.length_eq_zero_iff.mp hl
    subst this
    exact ⟨s, h, rfl⟩
  | m + 1, n, s, h, T, e, h0, [], hl => by simp at hl
  | m + 1, n, s, h, T, e, h0, i :: is, hl => by
    obtain ⟨s1, h1, e1, T1⟩ := turn T ⟨h0, by omega⟩ i
    obtain ⟨s2, h2, e2⟩ := loop m T1 (by omega) (by omega) is (by simpa using hl)
    refine ⟨s2, h2, ?_⟩
    rw [List.map_cons, forLoop_cons]
    simp only [Tg.set]
    rw [e1, RS.bind_nx]
    exact e2
theorem law_run (ns : List Int) (hl : ns.length ≤ 63) : ∃ h', callN prog gv 12 17 [.scr (ns.map W.int)] [] = .ok (.bl true) h' := by
  obtain ⟨t, e1⟩ := deck_ok (C := ⟨callN prog gv 10, gv, fuelC⟩) (h := []) hl
  have hs : [some (W.scr (ns.map W.int)), some (.ref 1), some (.ref 2), none, none] = [some (W.scr (ns.map W.int)), some (.ref 1), some (.ref 2), none, none] := rfl
  have T0 : Turn 0 [some (W.scr (ns.map W.int)), some (.ref 1), some (.ref 2), none, none] [.lst (ns.map W.int), deckC 0 0 0 t, .lst (([2,3,4,5,6,7,8,9,10,11,12] : List Int).map W.int)] :=
    ⟨_, _, _, ns, [2,3,4,5,6,7,8,9,10,11,12], 0, t, rfl, ⟨rfl, rfl, by decide⟩, rfl, rfl, by decide⟩
  obtain ⟨s', h', e2⟩ := loop 5 T0 rfl (by decide) [0, 1, 2, 3, 4] rfl
  refine ⟨h', ?_⟩
  have e0 : callN prog gv 12 17 [.scr (ns.map W.int)] [] = bodyRun C d_law [.scr (ns.map W.int)] [] := rfl
  rw [e0]
  unfold bodyRun
  rw [if_pos (by rfl)]
  have e3 : exs C d_law.body (Vm.start d_law.N [.scr (ns.map W.int)]) [] = .rt (.bl true) h' := by
    show exs C (.cons (.asg (.v 1) (.call 10 (.cons (.var 0) .nil))) (.cons (.asg (.v 2) (.cel (.rng2 (.int 2) (.int 13)))) (.cons (.fr (.v 3) (.rng (.int 5)) turnB) (.cons (.ret (.bl true)) .nil)))) [some (.scr (ns.map W.int)), none, none, none, none] [] = _
    have s1 : ex C (.asg (.v 1) (.call 10 (.cons (.var 0) .nil))) [some (.scr (ns.map W.int)), none, none, none, none] [] = .nx [some (.scr (ns.map W.int)), some (.ref 1), none, none, none] [.lst (ns.map W.int), deckC 0 0 0 t] := by
      rw [ex]
      simp [ev, evs, mkDn, C, call_deck, e1, Tg.set]
    have s2 : ex C (.asg (.v 2) (.cel (.rng2 (.int 2) (.int 13)))) [some (.scr (ns.map W.int)), some (.ref 1), none, none, none] [.lst (ns.map W.int), deckC 0 0 0 t] = .nx [some (.scr (ns.map W.int)), some (.ref 1), some (.ref 2), none, none] [.lst (ns.map W.int), deckC 0 0 0 t, .lst (([2,3,4,5,6,7,8,9,10,11,12] : List Int).map W.int)] := by
      rw [ex]
      simp [ev, evm, mkDn, asInt, rgOk, Tg.set]
      rfl
    have s3 : ex C (.fr (.v 3) (.rng (.int 5)) turnB) [some (.scr (ns.map W.int)), some (.ref 1), some (.ref 2), none, none] [.lst (ns.map W.int), deckC 0 0 0 t, .lst (([2,3,4,5,6,7,8,9,10,11,12] : List Int).map W.int)] = .nx s' h' := by
      rw [ex, evi]
      have er : ((ev C (.int 5)).1 [some (.scr (ns.map W.int)), some (.ref 1), some (.ref 2), none, none] [.lst (ns.map W.int), deckC 0 0 0 t, .lst (([2,3,4,5,6,7,8,9,10,11,12] : List Int).map W.int)]) = .ok (.int 5) [.lst (ns.map W.int), deckC 0 0 0 t, .lst (([2,3,4,5,6,7,8,9,10,11,12] : List Int).map W.int)] := by
        simp [ev, mkDn]
      rw [er]
      exact e2
    rw [exs, s1, RS.bind_nx, exs, s2, RS.bind_nx, exs, s3, RS.bind_nx, exs, ex]
    simp [ev, mkDn]
  rw [e3]
end K67

theorem PySem.Challenge.cw_latchfolk_k67_whole_numbers_by_another_s_holds : PySem.Challenge.rw_latchfolk_k67_whole_numbers_by_another_s.Holds := by
  exact K67.holds fun ns hl _ => K67.law_run ns hl
