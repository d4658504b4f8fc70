import PyProof.Rows.All
import Wide.All
import OpenK.AllK
import Wide.FinOn
import HandS.ForMost
import HandS.ForExc
import HandS.Defaults
import HandS.Wide
import HandS.WideBits
import HandS.IsInst
import HandS.SortInts
import HandS.SortRule
import HandS.TupLe
import HandS.TupAny
import HandS.Zip
import HandS.Rev
import HandS.RevRange
import HandS.CallSlots
import HandS.ExcInit
import HandS.ExcIs
import HandS.SetFor
import HandS.More
import HandS.ExcValue
import HandS.ExcCtx
import HandS.HotCalls
import HandS.Walk
import HandS.Small
import HandS.WordsDict
import HandS.TupLen
import KE.GoesEnum
import KE.GoesMore
import HandS.Codes
import HandS.Head0
import HandS.Head1
import HandS.Head2
import HandS.HeadEnd
import HandS.HeadHook1
import HandS.HeadHook2
import HandS.Deep
import PyProof.ListRange
import HandS.SortKw
import PySem.Challenge.RW_lumprow_k07_numbers_as_texts
set_option Elab.async false
set_option linter.all false
set_option maxRecDepth 100000
/-! Ev: a small language of trees and its evaluator over plain values (no heap). -/
namespace Lr
open PySem PySem.Spec PyProof.Rows L2

/-! ### values -/
inductive T where
  | non | bl (b : Bool) | int (i : Int) | str (x : Str)
  | tup (ts : List T) | lst (ts : List T)
  | ins (c : String) (ns : List Str) (ts : List T)
  | err (c : String) (ts : List T)
  | dct (ks : List Key) (ts : List T)
instance : Inhabited T := ⟨.non⟩

inductive R (α : Type) where
  | ok (a : α) | exc (c : String) (fs : List T) | no
namespace R
def bind {α β : Type} : R α → (α → R β) → R β
  | .ok a, f => f a
  | .exc c fs, _ => .exc c fs
  | .no, _ => .no
def of {α : Type} : Option α → R α
  | some a => .ok a
  | none => .no
def nx {α : Type} : R α → R α
  | .ok a => .ok a
  | _ => .no
@[simp] theorem nx_ok {α : Type} (a : α) : (R.ok a).nx = .ok a := (rfl)
@[simp] theorem bind_ok {α β : Type} (a : α) (f : α → R β) : (R.ok a).bind f = f a := (rfl)
@[simp] theorem bind_exc {α β : Type} (c : String) (fs : List T) (f : α → R β) : (R.exc c fs : R α).bind f = .exc c fs := (rfl)
@[simp] theorem bind_no {α β : Type} (f : α → R β) : (R.no : R α).bind f = .no := (rfl)
@[simp] theorem of_some {α : Type} (a : α) : R.of (some a) = .ok a := (rfl)
@[simp] theorem of_none {α : Type} : R.of (none : Option α) = .no := (rfl)
end R

/-- a result: a value; a list, new (nw) or a slot's own; dicts likewise; an object under way -/
inductive Val where
  | v (t : T)
  | l (nw : Bool) (ts : List T)
  | dk (nw : Bool) (kvs : List (Key × T))
  | dt (nw : Bool) (kvs : List (List Key × T))
  | ob (c : String) (ns : List Str) (ts : List T)
/-- what may be kept -/
def Val.t? : Val → Option T
  | .v t => some t
  | .l true ts => some (.lst ts)
  | .dk true kvs => some (.dct (kvs.map (·.1)) (kvs.map (·.2)))
  | _ => none
/-- a frozen dict, to be read -/
def Val.nrm : Val → Val
  | .v (.dct ks ts) => .dk false (ks.zip ts)
  | x => x
/-- what may be handed to a def -/
def Val.arg? : Val → Option T
  | .v t => some t
  | .l _ ts => some (.lst ts)
  | _ => none
def Val.bor : Val → Bool
  | .l false _ => true
  | _ => false
def Val.seq? : Val → Option (List T)
  | .v (.lst ts) => some ts
  | .v (.tup ts) => some ts
  | .l _ ts => some ts
  | _ => none
def Val.lst? : Val → Option (List T)
  | .v (.lst ts) => some ts
  | .l _ ts => some ts
  | _ => none
mutual
/-- no list within -/
def T.flat : T → Bool
  | .lst _ => false
  | .tup ts => flats ts
  | .ins _ _ ts => flats ts
  | .err _ ts => flats ts
  | .dct _ _ => false
  | _ => true
def flats : List T → Bool
  | [] => true
  | t :: ts => t.flat && flats ts
end
def Val.flat : Val → Bool
  | .v t => t.flat
  | .l _ ts => flats ts
  | _ => false

/-- a slot -/
inductive Sl where
  | un | im (t : T) | ow (ts : List T) | dk (kvs : List (Key × T)) | dt (kvs : List (List Key × T)) | ob (c : String) (ns : List Str) (ts : List T)
abbrev Env := List Sl
def rd (ρ : Env) (i : Nat) : R Val := match ρ[i]? with
  | some (.im t) => .ok (.v t)
  | some (.ow ts) => .ok (.l false ts)
  | some (.dk kvs) => .ok (.dk false kvs)
  | some (.dt kvs) => .ok (.dt false kvs)
  | some (.ob c ns ts) => .ok (.ob c ns ts)
  | _ => .no
def Sl.frz : Sl → Sl
  | .ow ts => .im (.lst ts)
  | .dk kvs => .im (.dct (kvs.map (·.1)) (kvs.map (·.2)))
  | s => s
def frz : List Nat → Env → Env
  | [], ρ => ρ
  | i :: is, ρ => frz is (match ρ[i]? with
    | some s => ρ.set i s.frz
    | none => ρ)
def wipeE : List Nat → Env → Env
  | [], ρ => ρ
  | i :: is, ρ => (wipeE is ρ).set i .un
def Val.sl? : Val → Option Sl
  | .v t => some (.im t)
  | .l true ts => some (.ow ts)
  | .dk true kvs => some (.dk kvs)
  | .dt true kvs => some (.dt kvs)
  | _ => none

/-! ### parts of values -/
def int? : T → Option Int
  | .int i => some i
  | _ => none
def ints? : List T → Option (List Int)
  | [] => some []
  | .int i :: ts => (ints? ts).map (i :: ·)
  | _ :: _ => none
def bls? : List T → Option (List Bool)
  | [] => some []
  | .bl b :: ts => (bls? ts).map (b :: ·)
  | _ :: _ => none
def strs? : List T → Option (List Str)
  | [] => some []
  | .str b :: ts => (strs? ts).map (b :: ·)
  | _ :: _ => none
mutual
def T.data : T → Option PyData
  | .non => some .none
  | .bl b => some (.bool b)
  | .int i => some (.int i)
  | .str x => some (.str x)
  | .tup ts => (datas ts).map .tuple
  | .lst ts => (datas ts).map .list
  | _ => none
def datas : List T → Option (List PyData)
  | [] => some []
  | t :: ts => (match t.data, datas ts with
    | some d, some ds => some (d :: ds)
    | _, _ => none)
end
def Val.data : Val → Option PyData
  | .v t => t.data
  | .l _ ts => (datas ts).map .list
  | _ => none
/-- the key of a dict -/
def T.key? : T → Option Key
  | .int i => some (.inl i)
  | .str x => some (.inr x)
  | _ => none
def keys? : List T → Option (List Key)
  | [] => some []
  | t :: ts => (match t.key?, keys? ts with
    | some d, some ds => some (d :: ds)
    | _, _ => none)
def T.keyT? : T → Option (List Key)
  | .tup ts => keys? ts
  | _ => none

/-! ### operations -/
def mulOk (a b : Int) : Bool := decide (a.natAbs < 2 ^ 64) || decide (b.natAbs < 2 ^ 64) || decide (a.natAbs.log2 + b.natAbs.log2 < 1000000)
def divOk (j : Int) : Bool := decide (0 < j) && decide (j.natAbs.log2 < 9000)
def fitsL (n : Nat) : Bool := decide (n ≤ sizeLine)
def addV (x y : Val) : R Val := match x, y with
  | .v (.int i), .v (.int j) => .ok (.v (.int (i + j)))
  | .v (.str a), .v (.str b) => if fitsL (a.length + b.length) then .ok (.v (.str (a ++ b))) else .no
  | .v (.tup a), .v (.tup b) => if fitsL (a.length + b.length) then .ok (.v (.tup (a ++ b))) else .no
  | _, _ => (match x.lst?, y.lst? with
    | some a, some b => if fitsL (a.length + b.length) then .ok (.l true (a ++ b)) else .no
    | _, _ => .no)
/-- a text, some times -/
def repS (a : Str) (n : Nat) : Str := ⟨((List.replicate n a.cps.toList).flatten).toArray⟩
def mulV (x y : Val) : R Val := match x, y with
  | .v (.int i), .v (.int j) => if mulOk i j then .ok (.v (.int (i * j))) else .no
  | .l _ a, .v (.int k) => if decide (-(2 ^ 63) ≤ k) && decide (k < 2 ^ 63) && fitsL (a.length * k.toNat) then .ok (.l true (List.replicate k.toNat a).flatten) else .no
  | .v (.str a), .v (.int k) => if decide (-(2 ^ 63) ≤ k) && decide (k < 2 ^ 63) && fitsL (a.length * k.toNat) then .ok (.v (.str (repS a k.toNat))) else .no
  | _, _ => .no
def binV (op : Operator) (x y : Val) : R Val := match op with
  | .Add => addV x y
  | .Mult => mulV x y
  | .Sub => (match x, y with
    | .v (.int i), .v (.int j) => .ok (.v (.int (i - j)))
    | _, _ => .no)
  | .FloorDiv => (match x, y with
    | .v (.int i), .v (.int j) => if divOk j then .ok (.v (.int (i / j))) else .no
    | _, _ => .no)
  | .Mod => (match x, y with
    | .v (.int i), .v (.int j) => if decide (0 < j) then .ok (.v (.int (i % j))) else .no
    | _, _ => .no)
  | .Pow => (match x, y with
    | .v (.int i), .v (.int j) => if decide (0 ≤ j) && decide (j ≤ 1000000) && decide (i.natAbs < 2 ^ 64) then .ok (.v (.int (i ^ j.toNat))) else if decide (0 ≤ j) && decide (j ≤ 1000) && decide (i.natAbs.log2 < 100000) then .ok (.v (.int (i ^ j.toNat))) else .no
    | _, _ => .no)
  | _ => .no
def scalT : T → T → Option Bool
  | .non, .non => some true
  | .non, .int _ => some false | .int _, .non => some false
  | .non, .bl _ => some false | .bl _, .non => some false
  | .non, .str _ => some false | .str _, .non => some false
  | .int i, .int j => some (decide (i = j))
  | .bl i, .bl j => some (decide (i = j))
  | .str i, .str j => some (decide (i = j))
  | _, _ => none
def eqV (x y : Val) : R Bool := match x, y with
  | .v a, .v b => (match scalT a b with
    | some k => .ok k
    | none => (match a.data, b.data with
      | some d, some e => if SeqAt.shaped d && SeqAt.shaped e then .ok (PyData.eqv d e) else .no
      | _, _ => .no))
  | _, _ => (match x.data, y.data with
    | some d, some e => if SeqAt.shaped d && SeqAt.shaped e then .ok (PyData.eqv d e) else .no
    | _, _ => .no)
def lexGe : List Int → List Int → Bool
  | _, [] => true
  | [], _ :: _ => false
  | x :: xs, y :: ys => if x = y then lexGe xs ys else decide (y ≤ x)
def ordV (op : CmpOp) (x y : Val) : R Bool := match x, y with
  | .v (.int i), .v (.int j) => (match op with
    | .Lt => .ok (decide (i < j))
    | .LtE => .ok (decide (i ≤ j))
    | .Gt => .ok (decide (j < i))
    | .GtE => .ok (decide (j ≤ i))
    | _ => .no)
  | .v (.tup a), .v (.tup b) => (match ints? a, ints? b with
    | some a, some b => (match op with
      | .GtE => .ok (lexGe a b)
      | .Lt => .ok (HT.lexLt a b)
      | _ => .no)
    | _, _ => .no)
  | _, _ => .no
def T.isNon : T → Bool
  | .non => true
  | _ => false
def T.scal : T → Bool
  | .non => true | .bl _ => true | .int _ => true | .str _ => true
  | _ => false
/-- is: one side is a written None or True -/
def isV (x y : Val) : R Bool := match y with
  | .v .non => (match x with
    | .v t => .ok t.isNon
    | .l _ _ => .ok false
    | _ => .no)
  | .v (.bl b) => (match x with
    | .v (.bl c) => .ok (decide (c = b))
    | .v .non => .ok false
    | _ => .no)
  | _ => .no
def flatT : T → Bool
  | .non => true | .bl _ => true | .int _ => true | .str _ => true
  | _ => false
/-- == of flat values -/
def sEq : T → T → Bool
  | .non, .non => true
  | .bl a, .bl b => a == b
  | .bl a, .int b => (if a then 1 else 0) == b
  | .int a, .bl b => a == (if b then 1 else 0)
  | .int a, .int b => a == b
  | .str a, .str b => a == b
  | _, _ => false
def inSeq (x : Val) (ts : List T) : R Bool := match x with
  | .v t => if flatT t && ts.all flatT then .ok (ts.any fun u => sEq u t) else .no
  | _ => .no
def kHas (kvs : List (Key × T)) (k : Key) : Bool := kvs.any fun p => decide (p.1 = k)
def ktHas (kvs : List (List Key × T)) (k : List Key) : Bool := kvs.any fun p => decide (p.1 = k)
def inV (x y : Val) : R Bool := match y with
  | .dk _ kvs => (match x with
    | .v t => (match t.key? with
      | some k => .ok (kHas kvs k)
      | none => .no)
    | _ => .no)
  | .dt _ kvs => (match x with
    | .v t => (match t.keyT? with
      | some k => .ok (ktHas kvs k)
      | none => .no)
    | _ => .no)
  | .v (.str z) => (match x with
    | .v (.str c) => if decide (c.length = 1) then .ok (decide (c.cps.getD 0 0 ∈ z.cps.toList)) else .no
    | _ => .no)
  | _ => (match y.seq? with
    | some ts => inSeq x ts
    | none => .no)
def cmpV (op : CmpOp) (x y : Val) : R Bool := match op with
  | .Eq => eqV x y
  | .NotEq => (eqV x y).bind fun k => .ok (!k)
  | .Is => isV x y
  | .IsNot => (isV x y).bind fun k => .ok (!k)
  | .In => inV x y
  | .NotIn => (inV x y).bind fun k => .ok (!k)
  | op => ordV op x y
def kGet (kvs : List (Key × T)) (k : Key) : Option T := (kvs.find? fun p => decide (p.1 = k)).map (·.2)
def ktGet (kvs : List (List Key × T)) (k : List Key) : Option T := (kvs.find? fun p => decide (p.1 = k)).map (·.2)
def kPut (kvs : List (Key × T)) (k : Key) (x : T) : List (Key × T) := if kHas kvs k then kvs.map (fun p => if p.1 = k then (p.1, x) else p) else kvs ++ [(k, x)]
def ktPut (kvs : List (List Key × T)) (k : List Key) (x : T) : List (List Key × T) := if ktHas kvs k then kvs.map (fun p => if p.1 = k then (p.1, x) else p) else kvs ++ [(k, x)]
/-- x[y] -/
def ixV (x y : Val) : R Val := match x, y with
  | .dk _ kvs, .v t => (match t.key? with
    | some k => (match kGet kvs k with
      | some z => .ok (.v z)
      | none => .no)
    | none => .no)
  | .dt _ kvs, .v t => (match t.keyT? with
    | some k => (match ktGet kvs k with
      | some z => .ok (.v z)
      | none => .no)
    | none => .no)
  | .v (.str z), .v (.int i) => if fitsL z.length then (match atI z.cps.toList i with
      | some c => .ok (.v (.str ⟨#[c]⟩))
      | none => .no) else .no
  | _, .v (.int i) => (match x.seq? with
    | some ts => (match atI ts i with
      | some t => .ok (.v t)
      | none => .no)
    | none => .no)
  | _, _ => .no
def cutT (xs : List T) (lo hi : Option Int) : List T := (xs.drop (HT.sIx xs.length 0 lo)).take (HT.sIx xs.length xs.length hi - HT.sIx xs.length 0 lo)
/-- x[lo:hi] -/
def slV (x : Val) (lo hi : Option Int) : R Val := match x with
  | .v (.str z) => if fitsL z.length then .ok (.v (.str (cutS z lo hi))) else .no
  | .v (.tup ts) => .ok (.v (.tup (cutT ts lo hi)))
  | _ => (match x.lst? with
    | some ts => .ok (.l true (cutT ts lo hi))
    | none => .no)
/-- the least, the greatest -/
def minL : List Int → Int
  | [] => 0
  | [a] => a
  | a :: r => min a (minL r)
def maxL : List Int → Int
  | [] => 0
  | [a] => a
  | a :: r => max a (maxL r)
def insI (a : Int) : List Int → List Int
  | [] => [a]
  | b :: r => if a ≤ b then a :: b :: r else b :: insI a r
def isort : List Int → List Int
  | [] => []
  | a :: r => insI a (isort r)
/-- the ordered distinct numbers -/
def insU (a : Int) : List Int → List Int
  | [] => [a]
  | b :: r => if b < a then b :: insU a r else if a = b then b :: r else a :: b :: r
def usort : List Int → List Int
  | [] => []
  | a :: r => insU a (usort r)
/-- every second one -/
def alt {α : Type} : List α → List α
  | [] => []
  | [a] => [a]
  | a :: _ :: r => a :: alt r
/-- pairs of a key and a value -/
def kvs? : List T → Option (List (Key × T))
  | [] => some []
  | .tup [a, b] :: r => (match a.key?, kvs? r with
    | some k, some l => some ((k, b) :: l)
    | _, _ => none)
  | _ :: _ => none
/-! built-in functions, types, methods -/
def lenF (xs : List Val) : R Val := match xs with
  | [.v (.str z)] => if fitsL z.length then .ok (.v (.int z.length)) else .no
  | [.dk _ kvs] => .ok (.v (.int kvs.length))
  | [.dt _ kvs] => .ok (.v (.int kvs.length))
  | [x] => (match x.seq? with
    | some ts => .ok (.v (.int ts.length))
    | none => .no)
  | _ => .no
def absF (xs : List Val) : R Val := match xs with
  | [.v (.int i)] => .ok (.v (.int (if i < 0 then -i else i)))
  | _ => .no
def minF (xs : List Val) : R Val := match xs with
  | [.v (.int i), .v (.int j)] => .ok (.v (.int (if j < i then j else i)))
  | [x] => (match x.lst?.bind ints? with
    | some (n :: ns) => .ok (.v (.int (minL (n :: ns))))
    | _ => .no)
  | _ => .no
def maxF (xs : List Val) : R Val := match xs with
  | [.v (.int i), .v (.int j)] => .ok (.v (.int (if j > i then j else i)))
  | [x] => (match x.lst?.bind ints? with
    | some (n :: ns) => .ok (.v (.int (maxL (n :: ns))))
    | _ => .no)
  | _ => .no
def sumF (xs : List Val) : R Val := match xs with
  | [x] => (match x.lst?.bind ints? with
    | some ns => .ok (.v (.int ns.sum))
    | _ => .no)
  | _ => .no
def anyF (xs : List Val) : R Val := match xs with
  | [x] => (match x.lst?.bind bls? with
    | some ns => .ok (.v (.bl (ns.any id)))
    | _ => .no)
  | _ => .no
def allF (xs : List Val) : R Val := match xs with
  | [x] => (match x.lst?.bind bls? with
    | some ns => .ok (.v (.bl (ns.all id)))
    | _ => .no)
  | _ => .no
/-- whole-number keys; keys that are pairs of them -/
def kInts : List (Key × T) → Option (List Int)
  | [] => some []
  | (.inl i, _) :: r => (kInts r).map (i :: ·)
  | _ :: _ => none
def kPairs : List (List Key × T) → Option (List (Int × Int))
  | [] => some []
  | ([.inl i, .inl j], _) :: r => (kPairs r).map ((i, j) :: ·)
  | _ :: _ => none
def insP (a : Int × Int) : List (Int × Int) → List (Int × Int)
  | [] => [a]
  | b :: r => if SrtO.lexB b a then b :: insP a r else a :: b :: r
def psort : List (Int × Int) → List (Int × Int)
  | [] => []
  | a :: r => insP a (psort r)
def pT (p : Int × Int) : T := .tup [.int p.1, .int p.2]
def sortF (xs : List Val) : R Val := match xs with
  | [.dk _ kvs] => (match kInts kvs with
    | some ns => .ok (.l true ((isort ns).map .int))
    | none => .no)
  | [x] => (match x.lst?.bind ints? with
    | some ns => .ok (.l true ((isort ns).map .int))
    | _ => .no)
  | _ => .no
def dmF (xs : List Val) : R Val := match xs with
  | [.v (.int i), .v (.int j)] => if divOk j then .ok (.v (.tup [.int (i / j), .int (i % j)])) else .no
  | _ => .no
def intF (xs : List Val) : R Val := match xs with
  | [.v (.int i)] => .ok (.v (.int i))
  | [.v (.bl b)] => .ok (.v (.int (if b then 1 else 0)))
  | [.v (.str z)] => if decide (z.length ≤ 640) then (match PySem.intText? z with
      | some n => .ok (.v (.int n))
      | none => .no) else .no
  | _ => .no
def strF (xs : List Val) : R Val := match xs with
  | [.v (.int i)] => if decide (i.natAbs.log2 < 1920) then .ok (.v (.str (toString i))) else .no
  | _ => .no
def listF (xs : List Val) : R Val := match xs with
  | [x] => (match x.seq? with
    | some ts => .ok (.l true ts)
    | none => .no)
  | _ => .no
def tupF (xs : List Val) : R Val := match xs with
  | [x] => (match x.seq? with
    | some ts => .ok (.v (.tup ts))
    | none => .no)
  | _ => .no
def getF (x : Val) (xs : List Val) : R Val := match x, xs with
  | .dk _ kvs, [.v t, .v d] => (match t.key? with
    | some k => .ok (.v ((kGet kvs k).getD d))
    | none => .no)
  | .dk _ kvs, [.v t] => (match t.key? with
    | some k => .ok (.v ((kGet kvs k).getD .non))
    | none => .no)
  | .dt _ kvs, [.v t, .v d] => (match t.keyT? with
    | some k => .ok (.v ((ktGet kvs k).getD d))
    | none => .no)
  | _, _ => .no
def joinF (x : Val) (xs : List Val) : R Val := match x, xs with
  | .v (.str z), [x] => (match x.lst?.bind strs? with
    | some ys => if decide ((ys.map (·.length)).sum + ys.length * z.length ≤ 16777216) then .ok (.v (.str (Txt.join z ys))) else .no
    | none => .no)
  | _, _ => .no
def splitF (x : Val) (xs : List Val) : R Val := match x, xs with
  | .v (.str z), [.v (.str b)] => if !(b.length == 0) && decide (z.length + 2 ≤ sizeLine) then .ok (.l true ((Txt.split z b).map .str)) else .no
  | _, _ => .no
def biV (f : String) (xs : List Val) : R Val := match f with
  | "len" => lenF xs
  | "abs" => absF xs
  | "min" => minF xs
  | "max" => maxF xs
  | "sum" => sumF xs
  | "any" => anyF xs
  | "all" => allF xs
  | "sorted" => sortF xs
  | "divmod" => dmF xs
  | _ => .no
def tyV (f : String) (xs : List Val) : R Val := match f with
  | "int" => intF xs
  | "str" => strF xs
  | "list" => listF xs
  | "tuple" => tupF xs
  | _ => .no
/-- l.count(y), l.index(y): by == -/
def countF (x : Val) (xs : List Val) : R Val := match x.lst?, xs with
  | some _, [y] => (match x.data, y.data with
    | some (.list ds), some d => if SeqAt.shaped (.list ds) && SeqAt.shaped d then .ok (.v (.int ((ds.countP fun z => PyData.eqv z d : Nat) : Int))) else .no
    | _, _ => .no)
  | _, _ => .no
def indexF (x : Val) (xs : List Val) : R Val := match x.lst?, xs with
  | some _, [y] => (match x.data, y.data with
    | some (.list ds), some d => if SeqAt.shaped (.list ds) && SeqAt.shaped d then (match ds.findIdx? fun z => PyData.eqv z d with
      | some j => .ok (.v (.int (j : Int)))
      | none => .no) else .no
    | _, _ => .no)
  | _, _ => .no
def meV (m : String) (x : Val) (xs : List Val) : R Val := match m with
  | "get" => getF x xs
  | "join" => joinF x xs
  | "split" => splitF x xs
  | "count" => countF x xs
  | "index" => indexF x xs
  | _ => .no
def meTy (m : String) (x : Val) : Bool := match x with
  | .dk _ _ => m == "get"
  | .dt _ _ => m == "get"
  | .v (.str _) => m == "join" || m == "split"
  | .v (.lst _) => m == "count" || m == "index"
  | .l _ _ => m == "count" || m == "index"
  | _ => false
/-- a method of a list, that changes it: its value, the list behind -/
def muV (m : String) (ts : List T) (xs : List T) : R (List T) := match m, xs with
  | "append", [t] => if decide (ts.length < sizeLine) then .ok (ts ++ [t]) else .no
  | "extend", [.lst us] => if fitsL (ts.length + us.length) then .ok (ts ++ us) else .no
  | "reverse", [] => .ok ts.reverse
  | "clear", [] => .ok []
  | "pop", [] => if ts.isEmpty then .no else .ok ts.dropLast
  | "pop1", [.int i] => if decide (-(2 ^ 63) ≤ i) && decide (i < 2 ^ 63) then (match seqIndex? i ts.length with
    | some k => .ok (ts.eraseIdx k)
    | none => .no) else .no
  | "remove", [.int k] => (match ints? ts with
    | some ns => if decide (k ∈ ns) then .ok ((ns.erase k).map .int) else .no
    | none => .no)
  | "insert", [.int i, t] => if decide (ts.length < sizeLine) && decide (0 ≤ i) && decide (i < 2 ^ 63) then .ok (ts.take i.toNat ++ [t] ++ ts.drop i.toNat) else .no
  | _, _ => .no
/-- a class's name: a built-in type or one of the text's own -/
inductive Cl where
  | ty (n : String) | own (c : String) | exn (c : String)
  deriving DecidableEq
def Cl.str : Cl → Str
  | .ty n => Str.ofString n
  | .own n => Str.ofString n
  | .exn n => Str.ofString n
/-- a value's class -/
def Val.cl? : Val → Option Cl
  | .v .non => some (.ty "NoneType")
  | .v (.bl _) => some (.ty "bool")
  | .v (.int _) => some (.ty "int")
  | .v (.str _) => some (.ty "str")
  | .v (.tup _) => some (.ty "tuple")
  | .v (.lst _) => some (.ty "list")
  | .l _ _ => some (.ty "list")
  | .v (.ins c _ _) => some (.own c)
  | .v (.err c _) => some (.exn c)
  | _ => none
def subTy (a b : String) : Bool := a == b || (a == "bool" && b == "int")

/-! ### the trees -/
mutual
inductive E where
  | v (i : Nat) | int (i : Int) | str (s : String) | bl (b : Bool) | non
  | glb (x : String)
  | bin (op : Operator) (a b : E)
  | neg (a : E) | not (a : E)
  | and (a : E) (r : Es) | or (a : E) (r : Es)
  | cmp (op : CmpOp) (a b : E)
  | ite (c a b : E)
  | tup (es : Es) | lst (es : Es)
  | call (f : String) (es : Es) | mk (c : String) (es : Es)
  | bi (f : String) (es : Es)
  | ty (f : String) (es : Es)
  | isi (e : E) (c : Cl) | isiT (e : E) (cs : List Cl)
  | me (m : String) (o : E) (es : Es)
  | fld (o : E) (f : String)
  | ix (a b : E)
  | sl (a : E) (lo hi : Eo)
  | skeys (d : E)
  | lrev (e : E)
  | sset (e : E) | lset (e : E) | srev (e : E)
  | cmp2 (op op2 : CmpOp) (a b c : E)
  | dk | dt
  | dv (i : Nat) | lkeys (d : E) | dofp (e : E) | sl2 (a : E) (lo : Nat)
  | lc (elt : E) (tg : Tg) (it : It) (cs : Es) (sc : Scope) (own : List Nat)
inductive Es where
  | nil | cons (e : E) (es : Es)
inductive Eo where
  | no | so (e : E)
inductive It where
  | seq (e : E) | rg1 (a : E) | rg2 (a b : E) | rg3 (a b c : E) | enu (e : E) | zip (a b : E) | rev (e : E) | revr (a b : E)
inductive Tg where
  | nm (i : Nat) | tup (ts : Tgs)
inductive Tgs where
  | nil | cons (t : Tg) (ts : Tgs)
end
mutual
inductive S where
  | asg (z : List Nat) (t : Tg) (e : E)
  | aug (i : Nat) (op : Operator) (e : E)
  | ex (e : E)
  | mut (m : String) (z : List Nat) (i : Nat) (es : Es)
  | seti (z : List Nat) (i : Nat) (k e : E)
  | setf (z : List Nat) (i : Nat) (f : String) (e : E)
  | ret (z : List Nat) (e : E) | retv (i : Nat) | retN
  | ife (c : E) (a b : Ss)
  | whl (c : E) (b : Ss)
  | forr (z : List Nat) (t : Tg) (it : It) (b : Ss)
  | pass | brk
  | raiseM (c : String) (m : String) | raise1 (c : String) (e : E)
  | tryx (b : Ss) (c : String) (i : Option Nat) (h : Ss)
inductive Ss where
  | nil | cons (s : S) (ss : Ss)
end

/-! ### the evaluator -/
/-- what stands around: the defs, the module's constants, isinstance among own classes -/
structure Fe where
  fn : String → Option (List T → R Val)
  hfn : String → Option (List T → R Val)
  exm : String → String → Option Bool
  cs : String → Option (List T → R Val)
  glb : String → R Val
  isa : Cl → Cl → Option Bool
  cn : String → Bool
  rm : String → Bool
  r1 : String → Bool
  fok : String → String → Bool
/-- the frame within an except suite -/
def Fe.hot (Φ : Fe) : Fe := { Φ with fn := Φ.hfn, cs := fun _ => none, rm := fun _ => false, r1 := fun _ => false }
def Cl.known (Φ : Fe) : Cl → Bool
  | .own n => Φ.cn n
  | _ => true
mutual
def bindTg : Tg → Val → Env → Option Env
  | .nm i, x, ρ => if decide (i < ρ.length) then (match x.sl? with
      | some s => some (ρ.set i s)
      | none => none) else none
  | .tup ts, x, ρ => (match x with
    | .v (.tup us) => bindTgs ts us ρ
    | _ => none)
def bindTgs : Tgs → List T → Env → Option Env
  | .nil, [], ρ => some ρ
  | .cons t ts, u :: us, ρ => (match bindTg t (.v u) ρ with
    | some ρ' => bindTgs ts us ρ'
    | none => none)
  | _, _, _ => none
end
/-- a comprehension's turns -/
def lcGo (tgt : T → Option Env) (test : Env → R Bool) (elt : Env → R Val) : List T → List T → R Val
  | [], acc => .ok (.l true acc)
  | u :: us, acc => (match tgt u with
    | some ρ => (test ρ).nx.bind fun b => if b then (elt ρ).nx.bind fun x => (match x.t? with
        | some t => if decide (acc.length < sizeLine) then lcGo tgt test elt us (acc ++ [t]) else .no
        | none => .no) else lcGo tgt test elt us acc
    | none => .no)
def rngOk (a b : Int) : Bool := decide (-(2 ^ 62) ≤ a) && decide (a < 2 ^ 62) && decide (-(2 ^ 62) ≤ b) && decide (b < 2 ^ 62)
def rng (a : Int) (n : Nat) : List T := (List.range n).map fun (k : Nat) => .int (a + (k : Int))
/-- the turns of range(a, b, c) -/
def stepN (a b c : Int) : Nat := (Builtin.Range.rangeSize a b c).toNat
def rg3Ok (i j k : Int) : Bool := decide (k ≠ 0) && decide (k.natAbs < 1073741824) && Builtin.Range.small i j k && decide (0 ≤ Builtin.Range.rangeSize i j k)
def rng3 (a c : Int) (n : Nat) : List T := (List.range n).map fun (k : Nat) => .int (a + (k : Int) * c)
def enumT : Nat → List T → List T
  | _, [] => []
  | k, t :: ts => .tup [.int k, t] :: enumT (k + 1) ts
def zipT : List T → List T → List T
  | a :: as, b :: bs => .tup [a, b] :: zipT as bs
  | _, _ => []
def asI : Val → R Int
  | .v (.int i) => .ok i
  | _ => .no
def asB : Val → R Bool
  | .v (.bl b) => .ok b
  | _ => .no
def valT (x : Val) : R Val := match x with
  | .v t => .ok (.v t)
  | _ => .no
def signs (z : Str) : List T := z.cps.toList.map fun c => .str ⟨#[c]⟩
/-- what is walked; a loop (fz) walks no list of a slot's own -/
def seqV (fz : Bool) (x : Val) : R (List T) := if fz && x.bor then .no else R.of x.seq?
def lsV (fz : Bool) (x : Val) : R (List T) := if fz && x.bor then .no else R.of x.lst?
def tup? : Val → Option (List T)
  | .v (.tup ts) => some ts
  | _ => none
def zipV (fz : Bool) (x y : Val) : R (List T) := match tup? x, tup? y with
  | some a, some b => .ok (zipT a b)
  | none, none => (lsV fz x).bind fun a => (lsV fz y).bind fun b => .ok (zipT a b)
  | some a, none => (lsV fz y).bind fun b => .ok (zipT a b)
  | _, _ => .no
def itemsV (fz : Bool) (x : Val) : R (List T) := match x with
  | .v (.str z) => .ok (signs z)
  | x => seqV fz x
/-- a def's call: what was lent is the caller's own again where nothing of it is in what comes back -/
def args? : List Val → Option (List T)
  | [] => some []
  | x :: xs => (match x.arg?, args? xs with
    | some t, some ts => some (t :: ts)
    | _, _ => none)
def keeps? : List Val → Option (List T)
  | [] => some []
  | x :: xs => (match x.t?, keeps? xs with
    | some t, some ts => some (t :: ts)
    | _, _ => none)
def callV (h : List T → R Val) (xs : List Val) : R Val := match args? xs with
  | some ts => (match h ts with
    | .ok (.v t) => if xs.any Val.bor && !t.flat then .no else .ok (.v t)
    | .ok (.l true us) => if xs.any Val.bor && !flats us then .no else .ok (.l true us)
    | .ok (.dk true us) => if xs.any Val.bor then .no else .ok (.dk true us)
    | .ok _ => .no
    | .exc c fs => if xs.any Val.bor && !flats fs then .no else .exc c fs
    | .no => .no)
  | none => .no
def isaAny (Φ : Fe) (d : Cl) : List Cl → Option Bool
  | [] => some false
  | c :: r => (match Φ.isa d c with
    | some true => some true
    | some false => isaAny Φ d r
    | none => none)
mutual
def evE (Φ : Fe) : E → Env → R Val
  | .v i, ρ => rd ρ i
  | .int i, _ => .ok (.v (.int i))
  | .str s, _ => .ok (.v (.str (Str.ofString s)))
  | .bl b, _ => .ok (.v (.bl b))
  | .non, _ => .ok (.v .non)
  | .glb x, _ => Φ.glb x
  | .bin op a b, ρ => (evE Φ a ρ).bind fun x => (evE Φ b ρ).bind fun y => binV op x y
  | .neg a, ρ => (evE Φ a ρ).bind fun x => (asI x).bind fun i => .ok (.v (.int (-i)))
  | .not a, ρ => (evE Φ a ρ).bind fun x => (asB x).bind fun b => .ok (.v (.bl (!b)))
  | .and a r, ρ => (evE Φ a ρ).bind fun x => (asB x).bind fun b => if b then evAnd Φ r ρ else .ok (.v (.bl false))
  | .or a r, ρ => (evE Φ a ρ).bind fun x => (asB x).bind fun b => if b then .ok (.v (.bl true)) else evOr Φ r ρ
  | .cmp op a b, ρ => (evE Φ a ρ).bind fun x => (evE Φ b ρ).bind fun y => (cmpV op x y).bind fun k => .ok (.v (.bl k))
  | .ite c a b, ρ => (evE Φ c ρ).bind fun x => (asB x).bind fun k => if k then (evE Φ a ρ).bind valT else (evE Φ b ρ).bind valT
  | .tup es, ρ => (evEs Φ es ρ).bind fun xs => (match keeps? xs with
    | some ts => if fitsL ts.length then .ok (.v (.tup ts)) else .no
    | none => .no)
  | .lst es, ρ => (evEs Φ es ρ).bind fun xs => (match keeps? xs with
    | some ts => if fitsL ts.length then .ok (.l true ts) else .no
    | none => .no)
  | .call f es, ρ => (match Φ.fn f with
    | some h => (evEs Φ es ρ).bind fun xs => callV h xs
    | none => .no)
  | .mk f es, ρ => (match Φ.cs f with
    | some h => (evEs Φ es ρ).bind fun xs => callV h xs
    | none => .no)
  | .bi f es, ρ => (evEs Φ es ρ).bind fun xs => biV f xs
  | .ty f es, ρ => (evEs Φ es ρ).bind fun xs => tyV f xs
  | .isi e c, ρ => if c.known Φ then (evE Φ e ρ).bind fun x => (match x.cl? with
    | some d => (match Φ.isa d c with
      | some b => .ok (.v (.bl b))
      | none => .no)
    | none => .no) else .no
  | .isiT e cs, ρ => if cs.all (Cl.known Φ) then (evE Φ e ρ).bind fun x => (match x.cl? with
    | some d => (match isaAny Φ d cs with
      | some b => .ok (.v (.bl b))
      | none => .no)
    | none => .no) else .no
  | .me m o es, ρ => (evE Φ o ρ).bind fun x => if meTy m x then (evEs Φ es ρ).bind fun xs => meV m x xs else .no
  | .fld o f, ρ => (evE Φ o ρ).bind fun x => (match x with
    | .v (.ins c ns ts) => if Φ.fok c f then R.of (((ns.zip ts).lookup (Str.ofString f)).map .v) else .no
    | .ob c ns ts => if Φ.fok c f then R.of (((ns.zip ts).lookup (Str.ofString f)).map .v) else .no
    | _ => .no)
  | .ix a b, ρ => (evE Φ a ρ).bind fun x => (evE Φ b ρ).bind fun y => ixV x y
  | .sl a lo hi, ρ => (evE Φ a ρ).bind fun x => (evEo Φ lo ρ).bind fun l => (evEo Φ hi ρ).bind fun h => slV x l h
  | .lrev e, ρ => (evE Φ e ρ).bind fun x => (match x.lst? with
    | some ts => .ok (.l true ts.reverse)
    | none => .no)
  | .cmp2 op op2 a b c, ρ => (evE Φ a ρ).bind fun x => (evE Φ b ρ).bind fun y => (cmpV op x y).bind fun k => if k then (evE Φ c ρ).bind fun z => (cmpV op2 y z).bind fun j => .ok (.v (.bl j)) else .ok (.v (.bl false))
  | .sset e, ρ => (evE Φ e ρ).bind fun x => (match x.lst?.bind ints? with
    | some ns => if ns.length < 64 then .ok (.l true ((usort ns).map .int)) else .no
    | none => .no)
  | .lset e, ρ => (evE Φ e ρ).bind fun x => (match x.lst?.bind ints? with
    | some ns => if ns.length ≤ 4000 then .ok (.v (.int (usort ns).length)) else .no
    | none => .no)
  | .srev e, ρ => (evE Φ e ρ).bind fun x => (match x.lst?.bind ints? with
    | some ns => .ok (.l true ((isort ns).reverse.map .int))
    | none => .no)
  | .skeys d, ρ => (evE Φ d ρ).bind fun x => (match x with
    | .dk _ kvs => (match ints? (kvs.map fun p => match p.1 with
        | .inl i => T.int i
        | .inr z => T.str z) with
      | some ns => .ok (.l true ((isort ns).map .int))
      | none => .no)
    | .dt _ kvs => (match kPairs kvs with
      | some ps => .ok (.l true ((psort ps).map pT))
      | none => .no)
    | _ => .no)
  | .dv i, ρ => (rd ρ i).bind fun x => .ok x.nrm
  | .lkeys d, ρ => (evE Φ d ρ).bind fun x => (match x with
    | .dk _ kvs => (match kInts kvs with
      | some ns => .ok (.l true (ns.map .int))
      | none => .no)
    | _ => .no)
  | .dofp e, ρ => (evE Φ e ρ).bind fun x => (match x.lst?.bind kvs? with
    | some kvs => .ok (.dk true (kvs.foldl (fun d p => kPut d p.1 p.2) []))
    | none => .no)
  | .sl2 a lo, ρ => (evE Φ a ρ).bind fun x => (match x.lst? with
    | some ts => .ok (.l true (alt (ts.drop lo)))
    | none => .no)
  | .dk, _ => .ok (.dk true [])
  | .dt, _ => .ok (.dt true [])
  | .lc elt tg it cs _ own, ρ => (evIt Φ false it ρ).bind fun us =>
      lcGo (fun u => bindTg tg (.v u) (wipeE own ρ)) (evCs Φ cs) (evE Φ elt) us []
def evEs (Φ : Fe) : Es → Env → R (List Val)
  | .nil, _ => .ok []
  | .cons e es, ρ => (evE Φ e ρ).bind fun x => (evEs Φ es ρ).bind fun xs => .ok (x :: xs)
def evAnd (Φ : Fe) : Es → Env → R Val
  | .nil, _ => .ok (.v (.bl true))
  | .cons e es, ρ => (evE Φ e ρ).bind fun x => (asB x).bind fun b => if b then evAnd Φ es ρ else .ok (.v (.bl false))
def evOr (Φ : Fe) : Es → Env → R Val
  | .nil, _ => .ok (.v (.bl false))
  | .cons e es, ρ => (evE Φ e ρ).bind fun x => (asB x).bind fun b => if b then .ok (.v (.bl true)) else evOr Φ es ρ
/-- the tests of a comprehension -/
def evCs (Φ : Fe) : Es → Env → R Bool
  | .nil, _ => .ok true
  | .cons e es, ρ => (evE Φ e ρ).bind fun x => (asB x).bind fun b => if b then evCs Φ es ρ else .ok false
def evEo (Φ : Fe) : Eo → Env → R (Option Int)
  | .no, _ => .ok none
  | .so e, ρ => (evE Φ e ρ).bind fun x => (asI x).bind fun i => .ok (some i)
def evIt (Φ : Fe) (fz : Bool) : It → Env → R (List T)
  | .seq e, ρ => (evE Φ e ρ).bind (itemsV fz)
  | .rg1 a, ρ => (evE Φ a ρ).bind fun x => (asI x).bind fun i => if rngOk 0 i then .ok (rng 0 i.toNat) else .no
  | .rg2 a b, ρ => (evE Φ a ρ).bind fun x => (evE Φ b ρ).bind fun y => (asI x).bind fun i => (asI y).bind fun j => if rngOk i j then .ok (rng i (j - i).toNat) else .no
  | .rg3 a b c, ρ => (evE Φ a ρ).bind fun x => (evE Φ b ρ).bind fun y => (evE Φ c ρ).bind fun z => (asI x).bind fun i => (asI y).bind fun j => (asI z).bind fun k =>
      if rg3Ok i j k then .ok (rng3 i k (stepN i j k)) else .no
  | .enu e, ρ => (evE Φ e ρ).bind fun x => (match tup? x with
    | some ts => .ok (enumT 0 ts)
    | none => (lsV fz x).bind fun ts => .ok (enumT 0 ts))
  | .zip a b, ρ => (evE Φ a ρ).bind fun x => (evE Φ b ρ).bind fun y => zipV fz x y
  | .rev e, ρ => (evE Φ e ρ).bind fun x => (seqV fz x).bind fun ts => .ok ts.reverse
  | .revr a b, ρ => (evE Φ a ρ).bind fun x => (evE Φ b ρ).bind fun y => (asI x).bind fun i => (asI y).bind fun j => if rngOk i j then .ok (rng i (j - i).toNat).reverse else .no
end

inductive Out where
  | nx (ρ : Env) | rt (x : Val) | bk (ρ : Env) | ex (c : String) (fs : List T) (ρ : Env) | no
/-- go on with a value, or leave -/
def R.out {α : Type} (r : R α) (ρ : Env) (f : α → Out) : Out := match r with
  | .ok a => f a
  | .exc c fs => .ex c fs ρ
  | .no => .no
@[simp] theorem R.out_ok {α : Type} (a : α) (ρ : Env) (f : α → Out) : (R.ok a).out ρ f = f a := (rfl)
@[simp] theorem R.out_exc {α : Type} (c : String) (fs : List T) (ρ : Env) (f : α → Out) : (R.exc c fs : R α).out ρ f = .ex c fs ρ := (rfl)
@[simp] theorem R.out_no {α : Type} (ρ : Env) (f : α → Out) : (R.no : R α).out ρ f = .no := (rfl)
def Out.andThen (o : Out) (f : Env → Out) : Out := match o with
  | .nx ρ => f ρ
  | o => o
@[simp] theorem Out.andThen_nx (ρ : Env) (f : Env → Out) : (Out.nx ρ).andThen f = f ρ := (rfl)
@[simp] theorem Out.andThen_rt (x : Val) (f : Env → Out) : (Out.rt x).andThen f = .rt x := (rfl)
@[simp] theorem Out.andThen_bk (ρ : Env) (f : Env → Out) : (Out.bk ρ).andThen f = .bk ρ := (rfl)
@[simp] theorem Out.andThen_ex (c : String) (fs : List T) (ρ : Env) (f : Env → Out) : (Out.ex c fs ρ).andThen f = .ex c fs ρ := (rfl)
@[simp] theorem Out.andThen_no (f : Env → Out) : (Out.no).andThen f = .no := (rfl)
def forGo (tgt : T → Env → Option Env) (body : Env → Out) : List T → Env → Out
  | [], ρ => .nx ρ
  | u :: us, ρ => (match tgt u ρ with
    | some ρ1 => (match body ρ1 with
      | .nx ρ2 => forGo tgt body us ρ2
      | .bk ρ2 => .nx ρ2
      | o => o)
    | none => .no)
def whlGo (test : Env → R Bool) (body : Env → Out) : Nat → Env → Out
  | 0, _ => .no
  | n + 1, ρ => (test ρ).out ρ fun b => if b then (match body ρ with
      | .nx ρ2 => whlGo test body n ρ2
      | .bk ρ2 => .nx ρ2
      | o => o) else .nx ρ
def setSl (ρ : Env) (i : Nat) (s : Sl) : Out := if decide (i < ρ.length) then .nx (ρ.set i s) else .no
def zipSet (ns : List Str) (ts : List T) (f : Str) (t : T) : List Str × List T := match ns, ts with
  | n :: ns, u :: us => if n = f then (n :: ns, t :: us) else (n :: (zipSet ns us f t).1, u :: (zipSet ns us f t).2)
  | _, _ => ([f], [t])
def muN (m : String) : Es → String
  | .nil => m
  | .cons _ _ => if m = "pop" then "pop1" else m
mutual
def evS (Φ : Fe) (W : Nat) : S → Env → Out
  | .asg z t e, ρ => (evE Φ e (frz z ρ)).out (frz z ρ) fun x => (match bindTg t x (frz z ρ) with
    | some ρ' => .nx ρ'
    | none => .no)
  | .aug i op e, ρ => (rd ρ i).out ρ fun x => (evE Φ e ρ).out ρ fun y => (match x, y with
    | .v (.int a), .v (.int b) => (match op with
      | .Add => setSl ρ i (.im (.int (a + b)))
      | .Sub => setSl ρ i (.im (.int (a - b)))
      | _ => .no)
    | _, _ => .no)
  | .ex e, ρ => (evE Φ e ρ).out ρ fun _ => .nx ρ
  | .mut m z i es, ρ => (match (frz z ρ)[i]? with
    | some (.ow ts) => (evEs Φ es (frz z ρ)).out (frz z ρ) fun xs => (match keeps? xs with
      | some us => (muV (muN m es) ts us).out (frz z ρ) fun ts' => setSl (frz z ρ) i (.ow ts')
      | none => .no)
    | _ => .no)
  | .seti z i k e, ρ => (match (frz z ρ)[i]? with
    | some (.ow ts) => (evE Φ e (frz z ρ)).out (frz z ρ) fun x => (evE Φ k (frz z ρ)).out (frz z ρ) fun y => (match x.t? with
      | some t => (asI y).out (frz z ρ) fun j => (match ixN ts.length j with
        | some n => setSl (frz z ρ) i (.ow (ts.set n t))
        | none => .no)
      | none => .no)
    | some (.dk kvs) => (evE Φ e (frz z ρ)).out (frz z ρ) fun x => (evE Φ k (frz z ρ)).out (frz z ρ) fun y => (match x.t?, y with
      | some t, .v u => (match u.key? with
        | some q => if decide (kvs.length < sizeLine) then setSl (frz z ρ) i (.dk (kPut kvs q t)) else .no
        | none => .no)
      | _, _ => .no)
    | some (.dt kvs) => (evE Φ e (frz z ρ)).out (frz z ρ) fun x => (evE Φ k (frz z ρ)).out (frz z ρ) fun y => (match x.t?, y with
      | some t, .v u => (match u.keyT? with
        | some q => if decide (kvs.length < sizeLine) then setSl (frz z ρ) i (.dt (ktPut kvs q t)) else .no
        | none => .no)
      | _, _ => .no)
    | _ => .no)
  | .setf z i f e, ρ => (match (frz z ρ)[i]? with
    | some (.ob c ns ts) => if Φ.fok c f then (evE Φ e (frz z ρ)).out (frz z ρ) fun x => (match x.t? with
      | some t => if decide (ns.length < 900) then setSl (frz z ρ) i (.ob c (zipSet ns ts (Str.ofString f) t).1 (zipSet ns ts (Str.ofString f) t).2) else .no
      | none => .no) else .no
    | _ => .no)
  | .ret z e, ρ => (evE Φ e (frz z ρ)).out (frz z ρ) fun x => (match x with
    | .l true ts => .rt (.l true ts)
    | x => (match x.t? with
      | some t => .rt (.v t)
      | none => .no))
  | .retv i, ρ => (rd ρ i).out ρ fun x => (match x with
    | .l _ ts => .rt (.l true ts)
    | .v t => .rt (.v t)
    | .dk _ ts => .rt (.dk true ts)
    | _ => .no)
  | .retN, _ => .rt (.v .non)
  | .ife c a b, ρ => (evE Φ c ρ).out ρ fun x => (asB x).out ρ fun k => if k then evSs Φ W a ρ else evSs Φ W b ρ
  | .whl c b, ρ => whlGo (fun ρ => (evE Φ c ρ).bind asB) (evSs Φ W b) W ρ
  | .forr z t it b, ρ => (evIt Φ true it (frz z ρ)).out (frz z ρ) fun us => forGo (fun u => bindTg t (.v u)) (evSs Φ W b) us (frz z ρ)
  | .pass, ρ => .nx ρ
  | .brk, ρ => .bk ρ
  | .raiseM c _, ρ => if Φ.rm c then .ex c [] ρ else .no
  | .raise1 c e, ρ => if Φ.r1 c then (evE Φ e ρ).out ρ fun x => (match x with
    | .v t => .ex c [t] ρ
    | _ => .no) else .no
  | .tryx b c i h, ρ => if Φ.cn c then (match evSs Φ W b ρ with
    | .ex d [] ρ1 => (match Φ.exm d c with
      | some true => (match i with
        | none => .no
        | some j => if decide (j < ρ1.length) then (match evSs Φ.hot W h (ρ1.set j (.im (.err d []))) with
          | .nx ρ2 => .nx (ρ2.set j .un)
          | .bk ρ2 => .bk (ρ2.set j .un)
          | .rt x => .rt x
          | _ => .no) else .no)
      | some false => .ex d [] ρ1
      | none => .no)
    | .ex _ _ _ => .no
    | o => o) else .no
def evSs (Φ : Fe) (W : Nat) : Ss → Env → Out
  | .nil, ρ => .nx ρ
  | .cons s ss, ρ => (evS Φ W s ρ).andThen (evSs Φ W ss)
end
/-- a def: its names by slot, how many are parameters, its body -/
structure Fn where
  names : List String
  arity : Nat
  body : Ss
def startE (n : Nat) (ts : List T) : Env := ts.map .im ++ List.replicate (n - ts.length) .un
def Out.ret : Out → R Val
  | .nx _ => .ok (.v .non)
  | .rt x => .ok x
  | .ex c fs _ => .exc c fs
  | _ => .no
def callF (Φ : Fe) (W : Nat) (f : Fn) (ts : List T) : R Val := if decide (ts.length = f.arity) then (evSs Φ W f.body (startE f.names.length ts)).ret else .no
/-- a new instance: self in slot 0 -/
def makeF (Φ : Fe) (W : Nat) (c : String) (f : Fn) (ts : List T) : R Val := if decide (ts.length + 1 = f.arity) then
    (match evSs Φ W f.body ((Sl.ob c [] [] :: startE (f.names.length - 1) ts : Env)) with
    | .nx ρ => (match ρ[0]? with
      | some (Sl.ob c' ns us) => .ok (.v (.ins c' ns us))
      | _ => .no)
    | .ex c fs _ => .exc c fs
    | _ => .no) else .no
end Lr

set_option Elab.async false
set_option linter.all false
set_option maxRecDepth 100000
/-! Py: the trees as the text's own form; what must hold of the scopes. -/
namespace Lr
open PySem PySem.Spec PyProof.Rows L2
/-- places: a node's own, its parts' -/
inductive PT where
  | n (p : List Pos) (cs : List PT)
def zPos : Pos := ⟨0, 0, 0, 0⟩
def PT.z : PT := .n [] []
def PT.p : PT → Nat → Pos
  | .n p _, i => p.getD i zPos
def PT.cs : PT → List PT
  | .n _ cs => cs
def PT.c (π : PT) (i : Nat) : PT := π.cs.getD i .z
def PT.d (π : PT) (i : Nat) : List PT := π.cs.drop i
/-- the places of the text's form -/
def posE : Nat → Expr → PT
  | 0, _ => .z
  | n + 1, e => match e with
    | .Name _ p => .n [p] []
    | .Constant _ _ p => .n [p] []
    | .BinOp a _ b p => .n [p] [posE n a, posE n b]
    | .UnaryOp _ a p => .n [p] [posE n a]
    | .BoolOp _ es p => .n [p] (es.map (posE n))
    | .Compare a _ bs p => .n [p] (posE n a :: bs.map (posE n))
    | .IfExp a b c p => .n [p] [posE n a, posE n b, posE n c]
    | .Tuple es _ p => .n [p] (es.map (posE n))
    | .List es p => .n [p] (es.map (posE n))
    | .Call f es ks p => .n [p] (posE n f :: es.map (posE n) ++ ks.map fun k => .n [k.pos] [posE n k.value])
    | .Attribute o _ p => .n [p] [posE n o]
    | .Subscript a b p => .n [p] [posE n a, posE n b]
    | .Slice a b c p => .n [p] [(match a with | some a => posE n a | none => .z), (match b with | some b => posE n b | none => .z), (match c with | some c => posE n c | none => .z)]
    | .Dict _ _ p => .n [p] []
    | .ListComp e gs _ p => .n [p] (posE n e :: gs.flatMap fun g => [posE n g.target, posE n g.iter, .n [] (g.ifs.map (posE n))])
    | _ => .z
def posS : Nat → Stmt → PT
  | 0, _ => .z
  | n + 1, s => match s with
    | .Assign ts e p => .n [p] (ts.map (posE 40) ++ [posE 40 e])
    | .AugAssign t _ e p => .n [p] [posE 40 t, posE 40 e]
    | .Expr e p => .n [p] [posE 40 e]
    | .Return (some e) p => .n [p] [posE 40 e]
    | .Return none p => .n [p] []
    | .If c a b p => .n [p] [posE 40 c, .n [] (a.map (posS n)), .n [] (b.map (posS n))]
    | .While c a _ p => .n [p] [posE 40 c, .n [] (a.map (posS n))]
    | .For t i a _ p => .n [p] [posE 40 t, posE 40 i, .n [] (a.map (posS n))]
    | .Pass p => .n [p] []
    | .Break p => .n [p] []
    | .Raise (some e) _ p => .n [p] [posE 40 e]
    | .Try a [.ExceptHandler (some t) _ h q] _ _ p => .n [p, q] [.n [] (a.map (posS n)), posE 40 t, .n [] (h.map (posS n))]
    | _ => .z
def posB (b : List Stmt) : PT := .n [] (b.map (posS 30))

def nmOf (N : List Str) (i : Nat) : Str := N.getD i (Str.ofString "")
def hd (l : List PT) : PT := l.headD .z
def pyCls : List Cl → List PT → List Expr
  | [], _ => []
  | c :: cs, l => .Name c.str ((hd l).p 0) :: pyCls cs l.tail
mutual
def pyE (N : List Str) : E → PT → Expr
  | .v i, π => .Name (nmOf N i) (π.p 0)
  | .int i, π => .Constant (.int i) 0 (π.p 0)
  | .str s, π => .Constant (.str (Str.ofString s)) 0 (π.p 0)
  | .bl b, π => .Constant (.bool b) 0 (π.p 0)
  | .non, π => .Constant .none 0 (π.p 0)
  | .glb x, π => .Name (Str.ofString x) (π.p 0)
  | .bin op a b, π => .BinOp (pyE N a (π.c 0)) op (pyE N b (π.c 1)) (π.p 0)
  | .neg a, π => .UnaryOp .USub (pyE N a (π.c 0)) (π.p 0)
  | .not a, π => .UnaryOp .Not (pyE N a (π.c 0)) (π.p 0)
  | .and a r, π => .BoolOp .And (pyE N a (π.c 0) :: pyEs N r (π.d 1)) (π.p 0)
  | .or a r, π => .BoolOp .Or (pyE N a (π.c 0) :: pyEs N r (π.d 1)) (π.p 0)
  | .cmp op a b, π => .Compare (pyE N a (π.c 0)) [op] [pyE N b (π.c 1)] (π.p 0)
  | .ite c a b, π => .IfExp (pyE N c (π.c 0)) (pyE N a (π.c 1)) (pyE N b (π.c 2)) (π.p 0)
  | .tup es, π => .Tuple (pyEs N es (π.d 0)) 0 (π.p 0)
  | .lst es, π => .List (pyEs N es (π.d 0)) (π.p 0)
  | .call f es, π => .Call (.Name (Str.ofString f) ((π.c 0).p 0)) (pyEs N es (π.d 1)) [] (π.p 0)
  | .mk f es, π => .Call (.Name (Str.ofString f) ((π.c 0).p 0)) (pyEs N es (π.d 1)) [] (π.p 0)
  | .bi f es, π => .Call (.Name (Str.ofString f) ((π.c 0).p 0)) (pyEs N es (π.d 1)) [] (π.p 0)
  | .ty f es, π => .Call (.Name (Str.ofString f) ((π.c 0).p 0)) (pyEs N es (π.d 1)) [] (π.p 0)
  | .isi e c, π => .Call (.Name (Str.ofString "isinstance") ((π.c 0).p 0)) [pyE N e (π.c 1), .Name c.str ((π.c 2).p 0)] [] (π.p 0)
  | .isiT e cs, π => .Call (.Name (Str.ofString "isinstance") ((π.c 0).p 0)) [pyE N e (π.c 1), .Tuple (pyCls cs ((π.c 2).d 0)) 0 ((π.c 2).p 0)] [] (π.p 0)
  | .me m o es, π => .Call (.Attribute (pyE N o ((π.c 0).c 0)) (Str.ofString m) ((π.c 0).p 0)) (pyEs N es (π.d 1)) [] (π.p 0)
  | .fld o f, π => .Attribute (pyE N o (π.c 0)) (Str.ofString f) (π.p 0)
  | .ix a b, π => .Subscript (pyE N a (π.c 0)) (pyE N b (π.c 1)) (π.p 0)
  | .sl a lo hi, π => .Subscript (pyE N a (π.c 0)) (.Slice (pyEo N lo ((π.c 1).c 0)) (pyEo N hi ((π.c 1).c 1)) none ((π.c 1).p 0)) (π.p 0)
  | .lrev e, π => .Call (.Name (Str.ofString "list") ((π.c 0).p 0)) [.Call (.Name (Str.ofString "reversed") (((π.c 1).c 0).p 0)) [pyE N e ((π.c 1).c 1)] [] ((π.c 1).p 0)] [] (π.p 0)
  | .cmp2 op op2 a b c, π => .Compare (pyE N a (π.c 0)) [op, op2] [pyE N b (π.c 1), pyE N c (π.c 2)] (π.p 0)
  | .sset e, π => .Call (.Name (Str.ofString "sorted") ((π.c 0).p 0)) [.Call (.Name (Str.ofString "set") (((π.c 1).c 0).p 0)) [pyE N e ((π.c 1).c 1)] [] ((π.c 1).p 0)] [] (π.p 0)
  | .lset e, π => .Call (.Name (Str.ofString "len") ((π.c 0).p 0)) [.Call (.Name (Str.ofString "set") (((π.c 1).c 0).p 0)) [pyE N e ((π.c 1).c 1)] [] ((π.c 1).p 0)] [] (π.p 0)
  | .srev e, π => .Call (.Name (Str.ofString "sorted") ((π.c 0).p 0)) [pyE N e (π.c 1)] [⟨some (Str.ofString "reverse"), .Constant (.bool true) 0 (((π.c 2).c 0).p 0), (π.c 2).p 0⟩] (π.p 0)
  | .skeys d, π => .Call (.Name (Str.ofString "sorted") ((π.c 0).p 0)) [.Call (.Attribute (pyE N d (((π.c 1).c 0).c 0)) (Str.ofString "keys") (((π.c 1).c 0).p 0)) [] [] ((π.c 1).p 0)] [] (π.p 0)
  | .dv i, π => .Name (nmOf N i) (π.p 0)
  | .lkeys d, π => .Call (.Name (Str.ofString "list") ((π.c 0).p 0)) [.Call (.Attribute (pyE N d (((π.c 1).c 0).c 0)) (Str.ofString "keys") (((π.c 1).c 0).p 0)) [] [] ((π.c 1).p 0)] [] (π.p 0)
  | .dofp e, π => .Call (.Name (Str.ofString "dict") ((π.c 0).p 0)) [pyE N e (π.c 1)] [] (π.p 0)
  | .sl2 a lo, π => .Subscript (pyE N a (π.c 0)) (.Slice (some (.Constant (.int (lo : Int)) 0 (((π.c 1).c 0).p 0))) none (some (.Constant (.int 2) 0 (((π.c 1).c 2).p 0))) ((π.c 1).p 0)) (π.p 0)
  | .dk, π => .Dict [] [] (π.p 0)
  | .dt, π => .Dict [] [] (π.p 0)
  | .lc e t i cs sc _, π => .ListComp (pyE N e (π.c 0)) [⟨pyTg N t (π.c 1), pyIt N i (π.c 2), pyEs N cs ((π.c 3).d 0), 0⟩] sc (π.p 0)
def pyEs (N : List Str) : Es → List PT → List Expr
  | .nil, _ => []
  | .cons e es, l => pyE N e (hd l) :: pyEs N es l.tail
def pyEo (N : List Str) : Eo → PT → Option Expr
  | .no, _ => none
  | .so e, π => some (pyE N e π)
def pyIt (N : List Str) : It → PT → Expr
  | .seq e, π => pyE N e π
  | .rg1 a, π => .Call (.Name (Str.ofString "range") ((π.c 0).p 0)) [pyE N a (π.c 1)] [] (π.p 0)
  | .rg2 a b, π => .Call (.Name (Str.ofString "range") ((π.c 0).p 0)) [pyE N a (π.c 1), pyE N b (π.c 2)] [] (π.p 0)
  | .rg3 a b c, π => .Call (.Name (Str.ofString "range") ((π.c 0).p 0)) [pyE N a (π.c 1), pyE N b (π.c 2), pyE N c (π.c 3)] [] (π.p 0)
  | .enu a, π => .Call (.Name (Str.ofString "enumerate") ((π.c 0).p 0)) [pyE N a (π.c 1)] [] (π.p 0)
  | .zip a b, π => .Call (.Name (Str.ofString "zip") ((π.c 0).p 0)) [pyE N a (π.c 1), pyE N b (π.c 2)] [] (π.p 0)
  | .rev a, π => .Call (.Name (Str.ofString "reversed") ((π.c 0).p 0)) [pyE N a (π.c 1)] [] (π.p 0)
  | .revr a b, π => .Call (.Name (Str.ofString "reversed") ((π.c 0).p 0)) [.Call (.Name (Str.ofString "range") (((π.c 1).c 0).p 0)) [pyE N a ((π.c 1).c 1), pyE N b ((π.c 1).c 2)] [] ((π.c 1).p 0)] [] (π.p 0)
def pyTg (N : List Str) : Tg → PT → Expr
  | .nm i, π => .Name (nmOf N i) (π.p 0)
  | .tup ts, π => .Tuple (pyTgs N ts (π.d 0)) 0 (π.p 0)
def pyTgs (N : List Str) : Tgs → List PT → List Expr
  | .nil, _ => []
  | .cons t ts, l => pyTg N t (hd l) :: pyTgs N ts l.tail
end
mutual
def pyS (N : List Str) : S → PT → Stmt
  | .asg _ t e, π => .Assign [pyTg N t (π.c 0)] (pyE N e (π.c 1)) (π.p 0)
  | .aug i op e, π => .AugAssign (.Name (nmOf N i) ((π.c 0).p 0)) op (pyE N e (π.c 1)) (π.p 0)
  | .ex e, π => .Expr (pyE N e (π.c 0)) (π.p 0)
  | .mut m _ i es, π => .Expr (.Call (.Attribute (.Name (nmOf N i) ((((π.c 0).c 0).c 0).p 0)) (Str.ofString m) (((π.c 0).c 0).p 0)) (pyEs N es ((π.c 0).d 1)) [] ((π.c 0).p 0)) (π.p 0)
  | .seti _ i k e, π => .Assign [.Subscript (.Name (nmOf N i) (((π.c 0).c 0).p 0)) (pyE N k ((π.c 0).c 1)) ((π.c 0).p 0)] (pyE N e (π.c 1)) (π.p 0)
  | .setf _ i f e, π => .Assign [.Attribute (.Name (nmOf N i) (((π.c 0).c 0).p 0)) (Str.ofString f) ((π.c 0).p 0)] (pyE N e (π.c 1)) (π.p 0)
  | .ret _ e, π => .Return (some (pyE N e (π.c 0))) (π.p 0)
  | .retv i, π => .Return (some (.Name (nmOf N i) ((π.c 0).p 0))) (π.p 0)
  | .retN, π => .Return none (π.p 0)
  | .ife c a b, π => .If (pyE N c (π.c 0)) (pySs N a ((π.c 1).d 0)) (pySs N b ((π.c 2).d 0)) (π.p 0)
  | .whl c b, π => .While (pyE N c (π.c 0)) (pySs N b ((π.c 1).d 0)) [] (π.p 0)
  | .forr _ t i b, π => .For (pyTg N t (π.c 0)) (pyIt N i (π.c 1)) (pySs N b ((π.c 2).d 0)) [] (π.p 0)
  | .pass, π => .Pass (π.p 0)
  | .brk, π => .Break (π.p 0)
  | .raiseM c m, π => .Raise (some (.Call (.Name (Str.ofString c) (((π.c 0).c 0).p 0)) [.Constant (.str (Str.ofString m)) 0 (((π.c 0).c 1).p 0)] [] ((π.c 0).p 0))) none (π.p 0)
  | .raise1 c e, π => .Raise (some (.Call (.Name (Str.ofString c) (((π.c 0).c 0).p 0)) [pyE N e ((π.c 0).c 1)] [] ((π.c 0).p 0))) none (π.p 0)
  | .tryx b c i h, π => .Try (pySs N b ((π.c 0).d 0)) [.ExceptHandler (some (.Name (Str.ofString c) ((π.c 1).p 0))) (i.map (nmOf N)) (pySs N h ((π.c 2).d 0)) (π.p 1)] [] [] (π.p 0)
def pySs (N : List Str) : Ss → List PT → List Stmt
  | .nil, _ => []
  | .cons s ss, l => pyS N s (hd l) :: pySs N ss l.tail
end
def Fn.N (f : Fn) : List Str := f.names.map Str.ofString

/-! ### the scopes -/
def visB (N : List Str) (sc : Scope) (i : Nat) : Bool := decide (i < N.length) && (match sc.names.lookup (nmOf N i) with
  | some .local => true | some .cell => true | some .free => true | _ => false) && !(nmOf N i == Str.ofString "__debug__") && !(nmOf N i == Str.ofString "__classdict__")
def locB (N : List Str) (sc : Scope) (i : Nat) : Bool := decide (i < N.length) && (match sc.names.lookup (nmOf N i) with
  | some .local => true | some .cell => true | _ => false)
def glB (sc : Scope) (x : String) : Bool := (match sc.names.lookup (Str.ofString x) with
  | some .globalImplicit => true | _ => false) && !(Str.ofString x == Str.ofString "__debug__") && !(Str.ofString x == Str.ofString "super") && !(Str.ofString x == Str.ofString "__name__")
/-- the names of built-ins that are met -/
def FR : List String := ["len", "abs", "min", "max", "sum", "any", "all", "sorted", "divmod", "int", "str", "list", "tuple", "range", "enumerate", "zip", "reversed", "isinstance", "bool", "set", "dict", "ValueError"]
def BI : List String := ["len", "abs", "min", "max", "sum", "any", "all", "sorted", "divmod"]
def TY : List String := ["int", "str", "list", "tuple"]
def ME : List String := ["get", "join", "split", "count", "index"]
def IT : List String := ["int", "str", "list", "tuple", "bool", "ValueError"]
def Cl.okB (sc : Scope) : Cl → Bool
  | .ty n => glB sc n && decide (n ∈ IT)
  | .own n => glB sc n
  | .exn _ => false
def augB (op : Operator) : Bool := match op with | .Add => true | .Sub => true | _ => false
def Es.isNil : Es → Bool
  | .nil => true
  | _ => false
def Es.len : Es → Nat
  | .nil => 0
  | .cons _ es => es.len + 1
def Tg.isTup : Tg → Bool
  | .tup _ => true
  | _ => false
/-- a pair for a target -/
def It.okT : It → Tg → Bool
  | .enu _, t => t.isTup
  | .zip _ _, t => t.isTup
  | _, _ => true
mutual
def Tg.vars : Tg → List Nat
  | .nm i => [i]
  | .tup ts => ts.vars
def Tgs.vars : Tgs → List Nat
  | .nil => []
  | .cons t ts => t.vars ++ ts.vars
end
/-- no call without arguments (super() is written so) -/
def E.pl : E → Bool
  | .call _ .nil => false
  | .mk _ .nil => false
  | .bi _ .nil => false
  | .ty _ .nil => false
  | _ => true
/-- the name of an except clause -/
def exB (N : List Str) (sc : Scope) (i : Nat) : Bool := decide (i < N.length) && (match sc.names.lookup (nmOf N i) with | some .local => true | _ => false)
mutual
def okE (cm : Bool) (N : List Str) (sc : Scope) : E → PT → Bool
  | .v i, _ => visB N sc i
  | .glb x, _ => glB sc x
  | .bin _ a b, π => okE cm N sc a (π.c 0) && okE cm N sc b (π.c 1)
  | .neg a, π => okE cm N sc a (π.c 0)
  | .not a, π => okE cm N sc a (π.c 0)
  | .and a r, π => okE cm N sc a (π.c 0) && okEs cm N sc r (π.d 1) && !r.isNil
  | .or a r, π => okE cm N sc a (π.c 0) && okEs cm N sc r (π.d 1) && !r.isNil
  | .cmp _ a b, π => okE cm N sc a (π.c 0) && okE cm N sc b (π.c 1)
  | .ite c a b, π => okE cm N sc c (π.c 0) && okE cm N sc a (π.c 1) && okE cm N sc b (π.c 2)
  | .tup es, π => okEs cm N sc es (π.d 0)
  | .lst es, π => okEs cm N sc es (π.d 0)
  | .call f es, π => glB sc f && okEs cm N sc es (π.d 1)
  | .mk f es, π => glB sc f && okEs cm N sc es (π.d 1) && cm
  | .bi f es, π => glB sc f && decide (f ∈ BI) && okEs cm N sc es (π.d 1) && !es.isNil && (cm || decide (f = "len"))
  | .ty f es, π => glB sc f && decide (f ∈ TY) && okEs cm N sc es (π.d 1) && !es.isNil
  | .isi e c, π => glB sc "isinstance" && okE cm N sc e (π.c 1) && c.okB sc
  | .isiT e cs, π => glB sc "isinstance" && okE cm N sc e (π.c 1) && (cs.all fun c => c.okB sc) && !cs.isEmpty && decide (cs.length < 100)
  | .me m o es, π => decide (m ∈ ME) && okE cm N sc o ((π.c 0).c 0) && okEs cm N sc es (π.d 1) && (((π.c 0).p 0).endLine == (π.p 0).line) && o.pl && !es.isNil && decide (es.len < 5)
  | .fld o _, π => okE cm N sc o (π.c 0) && o.pl
  | .ix a b, π => okE cm N sc a (π.c 0) && okE cm N sc b (π.c 1)
  | .sl a lo hi, π => okE cm N sc a (π.c 0) && okEo cm N sc lo ((π.c 1).c 0) && okEo cm N sc hi ((π.c 1).c 1)
  | .lrev e, π => cm && glB sc "list" && glB sc "reversed" && okE cm N sc e ((π.c 1).c 1)
  | .cmp2 _ _ a b c, π => okE cm N sc a (π.c 0) && okE cm N sc b (π.c 1) && okE cm N sc c (π.c 2)
  | .sset e, π => cm && glB sc "sorted" && glB sc "set" && okE cm N sc e ((π.c 1).c 1)
  | .lset e, π => cm && glB sc "len" && glB sc "set" && okE cm N sc e ((π.c 1).c 1)
  | .srev e, π => cm && glB sc "sorted" && okE cm N sc e (π.c 1)
  | .skeys d, π => cm && glB sc "sorted" && okE cm N sc d (((π.c 1).c 0).c 0) && ((((π.c 1).c 0).p 0).endLine == ((π.c 1).p 0).line) && d.pl
  | .dv i, _ => visB N sc i
  | .lkeys d, π => cm && glB sc "list" && okE cm N sc d (((π.c 1).c 0).c 0) && ((((π.c 1).c 0).p 0).endLine == ((π.c 1).p 0).line) && d.pl
  | .dofp e, π => cm && glB sc "dict" && okE cm N sc e (π.c 1)
  | .sl2 a _, π => okE cm N sc a (π.c 0)
  | .lc e t i cs b own, π => cm && i.okT t && okIt cm N sc i (π.c 2) && blkC N sc b (own.map fun i => (nmOf N i, i)) && okE cm N b e (π.c 0) && okTg cm N b t && (t.vars.all fun i => own.contains i) && okEs cm N b cs ((π.c 3).d 0) && decide (cs.len < 2)
  | _, _ => true
def okEs (cm : Bool) (N : List Str) (sc : Scope) : Es → List PT → Bool
  | .nil, _ => true
  | .cons e es, l => okE cm N sc e (hd l) && okEs cm N sc es l.tail
def okEo (cm : Bool) (N : List Str) (sc : Scope) : Eo → PT → Bool
  | .no, _ => true
  | .so e, π => okE cm N sc e π
def okIt (cm : Bool) (N : List Str) (sc : Scope) : It → PT → Bool
  | .seq e, π => okE cm N sc e π
  | .rg1 a, π => glB sc "range" && okE cm N sc a (π.c 1)
  | .rg2 a b, π => glB sc "range" && okE cm N sc a (π.c 1) && okE cm N sc b (π.c 2)
  | .rg3 a b c, π => glB sc "range" && okE cm N sc a (π.c 1) && okE cm N sc b (π.c 2) && okE cm N sc c (π.c 3)
  | .enu a, π => glB sc "enumerate" && okE cm N sc a (π.c 1)
  | .zip a b, π => glB sc "zip" && okE cm N sc a (π.c 1) && okE cm N sc b (π.c 2)
  | .rev a, π => glB sc "reversed" && okE cm N sc a (π.c 1)
  | .revr a b, π => glB sc "reversed" && glB sc "range" && okE cm N sc a ((π.c 1).c 1) && okE cm N sc b ((π.c 1).c 2)
def okTg (cm : Bool) (N : List Str) (sc : Scope) : Tg → Bool
  | .nm i => locB N sc i
  | .tup ts => cm && okTgs cm N sc ts
def okTgs (cm : Bool) (N : List Str) (sc : Scope) : Tgs → Bool
  | .nil => true
  | .cons t ts => okTg cm N sc t && okTgs cm N sc ts
end
def E.isLc : E → Bool
  | .lc .. => true
  | _ => false
def E.isTup : E → Bool
  | .tup _ => true
  | _ => false
def E.lcSc : E → Scope
  | .lc _ _ _ _ sc _ => sc
  | _ => ⟨.function, [], false, false, []⟩
/-- does a comprehension's store go by its exchange -/
def swapB (N : List Str) (sc : Scope) (i : Nat) (e : E) (π : PT) : Bool := e.isLc && (match sc.names.lookup (nmOf N i) with
  | some .local => true | _ => false) && decide (((π.c 0).p 0).line = ((π.c 1).p 0).line) && !(e.lcSc.names.any fun (n, k) => n == nmOf N i && (k == .local || k == .cell))
def cellB (N : List Str) (sc : Scope) (i : Nat) : Bool := (match sc.names.lookup (nmOf N i) with
  | some .cell => true | _ => false)
/-- a comprehension's store by exchange, or not -/
def swC (N : List Str) (sc : Scope) (t : Tg) (e : E) (π : PT) : Bool := match t with
  | .nm i => swapB N sc i e π || cellB N sc i
  | _ => false
mutual
def okS (cm : Bool) (N : List Str) (sc : Scope) : S → PT → Bool
  | .asg _ t e, π => okTg cm N sc t && okE cm N sc e (π.c 1) && !(t.isTup && (e.isTup || e.isLc)) && (!e.isLc || swC N sc t e π)
  | .aug i op e, π => augB op && locB N sc i && visB N sc i && okE cm N sc e (π.c 1)
  | .ex e, π => okE cm N sc e (π.c 0) && !e.isLc
  | .mut m _ i es, π => visB N sc i && okEs cm N sc es ((π.c 0).d 1) && ((((π.c 0).c 0).p 0).endLine == ((π.c 0).p 0).line) && (match es with
    | .nil => decide (m ∈ ["reverse", "clear", "pop"])
    | .cons _ .nil => decide (m ∈ ["append", "extend", "pop", "remove"])
    | .cons _ (.cons _ .nil) => decide (m ∈ ["insert"])
    | _ => false)
  | .seti _ i k e, π => visB N sc i && okE cm N sc k ((π.c 0).c 1) && okE cm N sc e (π.c 1) && !e.isLc
  | .setf _ i _ e, π => visB N sc i && okE cm N sc e (π.c 1) && !e.isLc
  | .ret _ e, π => okE cm N sc e (π.c 0)
  | .retv i, _ => visB N sc i
  | .ife c a b, π => okE cm N sc c (π.c 0) && okSs cm N sc a ((π.c 1).d 0) && okSs cm N sc b ((π.c 2).d 0)
  | .whl c b, π => okE cm N sc c (π.c 0) && okSs cm N sc b ((π.c 1).d 0)
  | .forr _ t i b, π => cm && i.okT t && okTg cm N sc t && okIt cm N sc i (π.c 1) && okSs cm N sc b ((π.c 2).d 0)
  | .raiseM c _, π => cm && glB sc c
  | .raise1 c e, π => cm && glB sc c && okE cm N sc e ((π.c 0).c 1)
  | .tryx b c i h, π => cm && okSs cm N sc b ((π.c 0).d 0) && glB sc c && okSs false N sc h ((π.c 2).d 0) && (match i with | none => false | some i => exB N sc i) && (match h with | .nil => false | _ => true)
  | _, _ => true
def okSs (cm : Bool) (N : List Str) (sc : Scope) : Ss → List PT → Bool
  | .nil, _ => true
  | .cons s ss, l => okS cm N sc s (hd l) && okSs cm N sc ss l.tail
end
end Lr

set_option Elab.async false
set_option linter.all false
set_option maxRecDepth 100000
set_option maxHeartbeats 1000000
/-! SndA: values over heaps; the operations are the model's. -/
namespace Lr
open PySem PySem.Spec PyProof.Rows L2
structure Gx where
  K : PySem.W.Frag
  cls : String → Addr
  /-- exceptions that are held by a clause: class, dict -/
  pin : Addr → Option (String × Option Addr)
/-- a caught exception's object -/
def ExR (cls : Value) (d : Option Addr) (a : Addr) : HO := .ext fun h => ∃ (oe : Obj) (vs : Array Value), h.get? a = some oe ∧ L2N.Zn cls d oe ∧ oe.data = .fields vs
def ErrA (g : Gx) (F : Hp) (a : Addr) (c : String) (d : Option Addr) : Prop := F a = some (ExR (.ref (g.cls c)) d a) ∨ g.pin a = some (c, d)
mutual
inductive Rep (g : Gx) (F : Hp) : V → T → Prop
  | non : Rep g F .non .non
  | bl (b : Bool) : Rep g F (.bl b) (.bl b)
  | int (i : Int) : Rep g F (.int i) (.int i)
  | str (x : Str) : Rep g F (.str x) (.str x)
  | tup {a : Addr} {xs : List V} {ts : List T} : F a = some (.tup xs) → RepL g F xs ts → Rep g F (.ref a) (.tup ts)
  | lst {a : Addr} {xs : List V} {ts : List T} : Rd F a (.lst xs) → RepL g F xs ts → Rep g F (.ref a) (.lst ts)
  | ins {a dx : Addr} {c : String} {ns : List Str} {xs : List V} {ts : List T} : F a = some (.ins (g.cls c) dx (ns.zip xs)) → ns.length = xs.length → RepL g F xs ts → Rep g F (.ref a) (.ins c ns ts)
  | err {a : Addr} {c : String} : ErrA g F a c none → Rep g F (.ref a) (.err c [])
  | dct {a : Addr} {ks : List Key} {xs : List V} {ts : List T} : F a = some (.dK (ks.zip xs)) → ks.length = xs.length → RepL g F xs ts → Rep g F (.ref a) (.dct ks ts)
inductive RepL (g : Gx) (F : Hp) : List V → List T → Prop
  | nil : RepL g F [] []
  | cons {v : V} {t : T} {vs : List V} {ts : List T} : Rep g F v t → RepL g F vs ts → RepL g F (v :: vs) (t :: ts)
end
section
variable {g : Gx} {F F' H H' : Hp}
theorem Same.rd {a : Addr} {u : HO} (s : Same F F') (h : Rd F a u) : Rd F' a u := by
  rcases h with h | ⟨o, h⟩
  · exact .inl (s _ _ h)
  · exact .inr ⟨o, s _ _ h⟩
mutual
theorem Rep.mono (s : Same F F') : ∀ {v : V} {t : T}, Rep g F v t → Rep g F' v t
  | _, _, .non => .non
  | _, _, .bl b => .bl b
  | _, _, .int i => .int i
  | _, _, .str x => .str x
  | _, _, .tup h l => .tup (s _ _ h) (RepL.mono s l)
  | _, _, .lst h l => .lst (Same.rd s h) (RepL.mono s l)
  | _, _, .ins h e l => .ins (s _ _ h) e (RepL.mono s l)
  | _, _, .err h => .err (h.imp (s _ _) id)
  | _, _, .dct h e l => .dct (s _ _ h) e (RepL.mono s l)
theorem RepL.mono (s : Same F F') : ∀ {vs : List V} {ts : List T}, RepL g F vs ts → RepL g F' vs ts
  | _, _, .nil => .nil
  | _, _, .cons h l => .cons (Rep.mono s h) (RepL.mono s l)
end
mutual
/-- the same values, exceptions held elsewhere -/
theorem Rep.chg {g' : Gx} (hc : g'.cls = g.cls) (hp : ∀ a c, ErrA g F a c none → ErrA g' F' a c none) (s : Same F F') : ∀ {v : V} {t : T}, Rep g F v t → Rep g' F' v t
  | _, _, .non => .non
  | _, _, .bl b => .bl b
  | _, _, .int i => .int i
  | _, _, .str x => .str x
  | _, _, .tup h l => .tup (s _ _ h) (RepL.chg hc hp s l)
  | _, _, .lst h l => .lst (Same.rd s h) (RepL.chg hc hp s l)
  | _, _, .ins h e l => .ins (by rw [hc]; exact s _ _ h) e (RepL.chg hc hp s l)
  | _, _, .err h => .err (hp _ _ h)
  | _, _, .dct h e l => .dct (s _ _ h) e (RepL.chg hc hp s l)
theorem RepL.chg {g' : Gx} (hc : g'.cls = g.cls) (hp : ∀ a c, ErrA g F a c none → ErrA g' F' a c none) (s : Same F F') : ∀ {vs : List V} {ts : List T}, RepL g F vs ts → RepL g' F' vs ts
  | _, _, .nil => .nil
  | _, _, .cons h l => .cons (Rep.chg hc hp s h) (RepL.chg hc hp s l)
end
theorem RepL.length : ∀ {vs : List V} {ts : List T}, RepL g F vs ts → vs.length = ts.length
  | _, _, .nil => rfl
  | _, _, .cons _ l => congrArg (· + 1) l.length
theorem RepL.get : ∀ {vs : List V} {ts : List T} {i : Nat} {t : T}, RepL g F vs ts → ts[i]? = some t → ∃ v, vs[i]? = some v ∧ Rep g F v t
  | _, _, _, _, .nil, e => by simp at e
  | _, _, 0, _, .cons r _, e => by simp at e; subst e; exact ⟨_, rfl, r⟩
  | _, _, i + 1, x, .cons _ l, e => by
    obtain ⟨u, h1, h2⟩ := RepL.get (i := i) (t := x) l (by simpa using e)
    exact ⟨u, by simpa using h1, h2⟩
theorem RepL.getV : ∀ {vs : List V} {ts : List T} {i : Nat} {v : V}, RepL g F vs ts → vs[i]? = some v → ∃ t, ts[i]? = some t ∧ Rep g F v t
  | _, _, _, _, .nil, e => by simp at e
  | _, _, 0, _, .cons r _, e => by simp at e; subst e; exact ⟨_, rfl, r⟩
  | _, _, i + 1, x, .cons _ l, e => by
    obtain ⟨u, h1, h2⟩ := RepL.getV (i := i) (v := x) l (by simpa using e)
    exact ⟨u, by simpa using h1, h2⟩
theorem RepL.append : ∀ {vs ws : List V} {ts us : List T}, RepL g F vs ts → RepL g F ws us → RepL g F (vs ++ ws) (ts ++ us)
  | _, _, _, _, .nil, s => s
  | _, _, _, _, .cons r t, s => .cons r (RepL.append t s)
theorem RepL.one {v : V} {t : T} (h : Rep g F v t) : RepL g F [v] [t] := .cons h .nil
theorem RepL.reverse : ∀ {vs : List V} {ts : List T}, RepL g F vs ts → RepL g F vs.reverse ts.reverse
  | _, _, .nil => .nil
  | _, _, .cons r t => by
    rw [List.reverse_cons, List.reverse_cons]
    exact RepL.append (RepL.reverse t) (.one r)
theorem RepL.take : ∀ {vs : List V} {ts : List T} (n : Nat), RepL g F vs ts → RepL g F (vs.take n) (ts.take n)
  | _, _, 0, _ => by rw [List.take_zero, List.take_zero]; exact .nil
  | _, _, _ + 1, .nil => .nil
  | _, _, n + 1, .cons r t => .cons r (RepL.take n t)
theorem RepL.drop : ∀ {vs : List V} {ts : List T} (n : Nat), RepL g F vs ts → RepL g F (vs.drop n) (ts.drop n)
  | _, _, 0, r => r
  | _, _, _ + 1, .nil => .nil
  | _, _, n + 1, .cons _ t => RepL.drop n t
theorem RepL.set {v : V} {t : T} (h : Rep g F v t) : ∀ {vs : List V} {ts : List T} (i : Nat), RepL g F vs ts → RepL g F (vs.set i v) (ts.set i t)
  | _, _, _, .nil => .nil
  | _, _, 0, .cons _ l => .cons h l
  | _, _, i + 1, .cons r l => .cons r (RepL.set h i l)
theorem RepL.dropLast {vs : List V} {ts : List T} (h : RepL g F vs ts) : RepL g F vs.dropLast ts.dropLast := by
  rw [List.dropLast_eq_take, List.dropLast_eq_take, h.length]
  exact h.take _
theorem RepL.erase : ∀ {vs : List V} {ts : List T} (n : Nat), RepL g F vs ts → RepL g F (vs.eraseIdx n) (ts.eraseIdx n)
  | _, _, _, .nil => .nil
  | _, _, 0, .cons _ t => t
  | _, _, n + 1, .cons r t => .cons r (RepL.erase n t)
theorem RepL.rep {vs : List V} {ts : List T} (h : RepL g F vs ts) : ∀ n : Nat, RepL g F (List.replicate n vs).flatten (List.replicate n ts).flatten
  | 0 => .nil
  | n + 1 => by
    rw [List.replicate_succ, List.replicate_succ, List.flatten_cons, List.flatten_cons]
    exact h.append (RepL.rep h n)
theorem RepL.ints : ∀ {vs : List V} {ts : List T} {ns : List Int}, RepL g F vs ts → ints? ts = some ns → vs = ns.map V.int
  | _, _, _, .nil, e => by simp only [ints?, Option.some.injEq] at e; subst e; rfl
  | _, _, _, .cons (ts := ts) r l, e => by
    cases r with
    | int i =>
      simp only [ints?, Option.map_eq_some_iff] at e
      obtain ⟨ns, h1, rfl⟩ := e
      rw [RepL.ints l h1]; rfl
    | _ => simp only [ints?] at e; cases e
theorem RepL.bls : ∀ {vs : List V} {ts : List T} {ns : List Bool}, RepL g F vs ts → bls? ts = some ns → vs = ns.map V.bl
  | _, _, _, .nil, e => by simp only [bls?, Option.some.injEq] at e; subst e; rfl
  | _, _, _, .cons (ts := ts) r l, e => by
    cases r with
    | bl i =>
      simp only [bls?, Option.map_eq_some_iff] at e
      obtain ⟨ns, h1, rfl⟩ := e
      rw [RepL.bls l h1]; rfl
    | _ => simp only [bls?] at e; cases e
theorem RepL.strs : ∀ {vs : List V} {ts : List T} {ns : List Str}, RepL g F vs ts → strs? ts = some ns → vs = ns.map V.str
  | _, _, _, .nil, e => by simp only [strs?, Option.some.injEq] at e; subst e; rfl
  | _, _, _, .cons (ts := ts) r l, e => by
    cases r with
    | str i =>
      simp only [strs?, Option.map_eq_some_iff] at e
      obtain ⟨ns, h1, rfl⟩ := e
      rw [RepL.strs l h1]; rfl
    | _ => simp only [strs?] at e; cases e
theorem RepL.ofInts : ∀ {ns : List Int}, RepL g F (ns.map V.int) (ns.map T.int)
  | [] => .nil
  | n :: ns => .cons (.int n) RepL.ofInts
theorem RepL.ofStrs : ∀ {ns : List Str}, RepL g F (ns.map V.str) (ns.map T.str)
  | [] => .nil
  | n :: ns => .cons (.str n) RepL.ofStrs
mutual
theorem Rep.dp (s : Same F H) : ∀ {v : V} {t : T} {d : PyData}, Rep g F v t → t.data = some d → Dp g.K H v d
  | _, _, _, .non, e => by simp only [T.data, Option.some.injEq] at e; subst e; exact .non
  | _, _, _, .bl b, e => by simp only [T.data, Option.some.injEq] at e; subst e; exact .bl b
  | _, _, _, .int i, e => by simp only [T.data, Option.some.injEq] at e; subst e; exact .int i
  | _, _, _, .str x, e => by simp only [T.data, Option.some.injEq] at e; subst e; exact .str x
  | _, _, _, .tup h l, e => by
    simp only [T.data, Option.map_eq_some_iff] at e
    obtain ⟨ds, h1, rfl⟩ := e
    exact .tup (.inl (.inl (s _ _ h))) (RepL.dp s l h1)
  | _, _, _, .lst h l, e => by
    simp only [T.data, Option.map_eq_some_iff] at e
    obtain ⟨ds, h1, rfl⟩ := e
    exact .lst (.inl (Same.rd s h)) (RepL.dp s l h1)
  | _, _, _, .ins h _ l, e => by simp only [T.data] at e; cases e
  | _, _, _, .err _, e => by simp only [T.data] at e; cases e
  | _, _, _, .dct _ _ _, e => by simp only [T.data] at e; cases e
theorem RepL.dp (s : Same F H) : ∀ {vs : List V} {ts : List T} {ds : List PyData}, RepL g F vs ts → datas ts = some ds → DpAll g.K H vs ds
  | _, _, _, .nil, e => by simp only [datas, Option.some.injEq] at e; subst e; exact .nil
  | _, _, _, .cons (t := t) (ts := ts) h l, e => by
    cases h1 : t.data with
    | none => simp only [datas, h1] at e; cases e
    | some d =>
      cases h2 : datas ts with
      | none => simp only [datas, h1, h2] at e; cases e
      | some ds =>
        simp only [datas, h1, h2, Option.some.injEq] at e
        subst e
        exact .cons (Rep.dp s h h1) (RepL.dp s l h2)
end
end
/-- nothing is changed; what is new to the frozen part is new -/
structure Grow (H F H' F' : Hp) : Prop where
  h : Same H H'
  f : Same F F'
  fh : Same F' H'
  nw : ∀ a o, F' a = some o → F a = some o ∨ H a = none ∨ ∃ xs, o = .tup xs
section
variable {g : Gx} {F F' F'' H H' H'' : Hp}
theorem Grow.refl (s : Same F H) : Grow H F H F := ⟨Same.refl _, Same.refl _, s, fun _ _ h => .inl h⟩
theorem Grow.trans (a : Grow H F H' F') (b : Grow H' F' H'' F'') : Grow H F H'' F'' := ⟨a.h.trans b.h, a.f.trans b.f, b.fh, fun c o h => by
  rcases b.nw c o h with h | h | h
  · exact a.nw c o h
  · exact .inr (.inl (a.h.free h))
  · exact .inr (.inr h)⟩
theorem same_upd {p : Addr} {o : HO} (h : H p = none) : Same H (upd H p o) := fun b x e => by
  rw [upd_ne (ne_of_none e h)]
  exact e
/-- a new object, frozen at once -/
theorem Grow.new (s : Same F H) {p : Addr} {o : HO} (h : H p = none) : Grow H F (upd H p o) (upd F p o) := ⟨same_upd h, same_upd (s.free h), fun b x e => by
  by_cases hb : b = p
  · subst hb; rw [upd_same] at e ⊢; exact e
  · rw [upd_ne hb] at e ⊢; exact s _ _ e, fun b x e => by
  by_cases hb : b = p
  · subst hb; exact .inr (.inl h)
  · rw [upd_ne hb] at e; exact .inl e⟩
/-- a new object of the frame's own -/
theorem Grow.own (s : Same F H) {p : Addr} {o : HO} (h : H p = none) : Grow H F (upd H p o) F := ⟨same_upd h, Same.refl _, s.trans (same_upd h), fun _ _ h => .inl h⟩
/-- an own one is frozen -/
theorem Grow.frz (a : Grow H F H' F') {p : Addr} {o : HO} (h : H p = none) (h' : H' p = some o) (f : F' p = none) : Grow H F H' (upd F' p o) := ⟨a.h, a.f.trans (same_upd f), fun b x e => by
  by_cases hb : b = p
  · subst hb; rw [upd_same] at e; rw [h', ← e]
  · rw [upd_ne hb] at e; exact a.fh _ _ e, fun b x e => by
  by_cases hb : b = p
  · subst hb; exact .inr (.inl h)
  · rw [upd_ne hb] at e; exact a.nw _ _ e⟩
/-- a tuple is frozen -/
theorem Grow.tupF (s : Same F H) {p : Addr} {xs : List V} (h : H p = some (.tup xs)) : Grow H F H (upd F p (.tup xs)) := ⟨Same.refl _, fun b x e => by
  by_cases hb : b = p
  · subst hb
    rw [upd_same]
    have := s _ _ e
    rw [h] at this
    exact this
  · rw [upd_ne hb]; exact e, fun b x e => by
  by_cases hb : b = p
  · subst hb; rw [upd_same] at e; rw [h, ← e]
  · rw [upd_ne hb] at e; exact s _ _ e, fun b x e => by
  by_cases hb : b = p
  · subst hb; rw [upd_same] at e; cases e; exact .inr (.inr ⟨_, rfl⟩)
  · rw [upd_ne hb] at e; exact .inl e⟩

/-- entries of a dict -/
abbrev RepK (g : Gx) (F : Hp) {κ : Type} : List (κ × V) → List (κ × T) → Prop := Paired fun (p : κ × V) (q : κ × T) => p.1 = q.1 ∧ Rep g F p.2 q.2
theorem RepK.chg {g' : Gx} (hc : g'.cls = g.cls) (hp : ∀ a c, ErrA g F a c none → ErrA g' F' a c none) (s : Same F F') {κ : Type} {xs : List (κ × V)} {ts : List (κ × T)} (h : RepK g F xs ts) : RepK g' F' xs ts := Paired.mapP h fun _ _ e => ⟨e.1, e.2.chg hc hp s⟩
theorem RepK.mono {κ : Type} (s : Same F F') {xs : List (κ × V)} {ts : List (κ × T)} (h : RepK g F xs ts) : RepK g F' xs ts := Paired.mapP h fun _ _ e => ⟨e.1, e.2.mono s⟩
theorem RepK.zip {F : Hp} : ∀ {ks : List Key} {xs : List V} {ts : List T}, RepL g F xs ts → ks.length = xs.length → RepK g F (ks.zip xs) (ks.zip ts)
  | [], _, _, _, _ => .nil
  | k :: ks, [], _, _, h => by simp at h
  | k :: ks, x :: xs, _, .cons r l, h => .cons ⟨rfl, r⟩ (RepK.zip l (by simpa using h))
theorem RepK.split {F : Hp} : ∀ {xs : List (Key × V)} {ts : List (Key × T)}, RepK g F xs ts → ∃ ws, xs = (ts.map (·.1)).zip ws ∧ (ts.map (·.1)).length = ws.length ∧ RepL g F ws (ts.map (·.2))
  | [], [], _ => ⟨[], rfl, rfl, .nil⟩
  | [], _ :: _, h => nomatch h
  | _ :: _, [], h => nomatch h
  | (k, v) :: xs, (j, t) :: ts, .cons a b => by
    obtain ⟨ws, h1, h2, h3⟩ := RepK.split b
    obtain ⟨e, r⟩ := a
    have e : k = j := e
    subst e
    exact ⟨v :: ws, by rw [h1]; rfl, by simpa using h2, .cons r h3⟩
/-- what a result stands for -/
def VRep (g : Gx) (H F : Hp) (v : V) : Val → Prop
  | .v t => Rep g F v t
  | .l _ ts => ∃ a vs, v = .ref a ∧ H a = some (.lst vs) ∧ RepL g F vs ts
  | .dk _ kvs => ∃ a xs, v = .ref a ∧ H a = some (.dK xs) ∧ RepK g F xs kvs
  | .dt _ kvs => ∃ a xs, v = .ref a ∧ H a = some (.dT xs) ∧ RepK g F xs kvs
  | .ob c ns ts => ∃ a dx xs, v = .ref a ∧ H a = some (.ins (g.cls c) dx (ns.zip xs)) ∧ ns.length = xs.length ∧ RepL g F xs ts
theorem VRep.grow (a : Grow H F H' F') {v : V} : ∀ {x : Val}, VRep g H F v x → VRep g H' F' v x
  | .v _, h => Rep.mono a.f h
  | .l _ _, ⟨p, vs, e, h, l⟩ => ⟨p, vs, e, a.h _ _ h, l.mono a.f⟩
  | .dk _ _, ⟨p, vs, e, h, l⟩ => ⟨p, vs, e, a.h _ _ h, RepK.mono a.f l⟩
  | .dt _ _, ⟨p, vs, e, h, l⟩ => ⟨p, vs, e, a.h _ _ h, RepK.mono a.f l⟩
  | .ob _ _ _, ⟨p, dx, vs, e, h, l, m⟩ => ⟨p, dx, vs, e, a.h _ _ h, l, m.mono a.f⟩
/-- a new one is new -/
def NewOk (H H' F' : Hp) (v : V) : Val → Prop
  | .l true _ => ∃ p, v = .ref p ∧ H p = none ∧ F' p = none
  | .dk true _ => ∃ p, v = .ref p ∧ H p = none ∧ F' p = none
  | .dt true _ => ∃ p, v = .ref p ∧ H p = none ∧ F' p = none
  | _ => True
def postE (g : Gx) (r : R Val) (H F : Hp) (Q : VK) : Prop := match r with
  | .ok x => ∀ v H' F', Grow H F H' F' → VRep g H' F' v x → NewOk H H' F' v x → Q v H'
  | _ => False
def postB (r : R Bool) (H F : Hp) (Q : Bool → Hp → Prop) : Prop := match r with
  | .ok b => ∀ H' F', Grow H F H' F' → Q b H'
  | _ => False
theorem postE.now {t : T} {v : V} {Q : VK} (s : Same F H) (r : Rep g F v t) (h : postE g (.ok (.v t)) H F Q) : Q v H := h v H F (.refl s) r trivial
theorem postE.newL {ts : List T} {vs : List V} {Q : VK} (s : Same F H) (r : RepL g F vs ts) (h : postE g (.ok (.l true ts)) H F Q) : ∀ p, H p = none → Q (.ref p) (upd H p (.lst vs)) := fun p hp =>
  h _ _ F (.own s hp) ⟨p, vs, rfl, upd_same, r⟩ ⟨p, rfl, hp, s.free hp⟩
theorem postE.newT {ts : List T} {vs : List V} {Q : VK} (s : Same F H) (r : RepL g F vs ts) (h : postE g (.ok (.v (.tup ts))) H F Q) : ∀ p, H p = none → Q (.ref p) (upd H p (.tup vs)) := fun p hp =>
  h _ _ (upd F p (.tup vs)) (.new s hp) (.tup upd_same (r.mono (same_upd (s.free hp)))) trivial
theorem VRep.lst {v : V} {x : Val} {ts : List T} (s : Same F H) (r : VRep g H F v x) (e : x.lst? = some ts) : ∃ a vs, v = .ref a ∧ Rd H a (.lst vs) ∧ RepL g F vs ts := by
  cases x with
  | v t => cases t with
    | lst us =>
      simp only [Val.lst?, Option.some.injEq] at e; subst e
      cases r with
      | lst h l => exact ⟨_, _, rfl, Same.rd s h, l⟩
    | _ => simp only [Val.lst?] at e; cases e
  | l nw us =>
    simp only [Val.lst?, Option.some.injEq] at e; subst e
    obtain ⟨a, vs, e, h, l⟩ := r
    exact ⟨a, vs, e, .inl h, l⟩
  | _ => simp only [Val.lst?] at e; cases e
theorem VRep.seq {v : V} {x : Val} {ts : List T} (s : Same F H) (r : VRep g H F v x) (e : x.seq? = some ts) : ∃ a vs, v = .ref a ∧ (Rd H a (.lst vs) ∨ H a = some (.tup vs)) ∧ RepL g F vs ts := by
  cases x with
  | v t => cases t with
    | lst us =>
      simp only [Val.seq?, Option.some.injEq] at e; subst e
      cases r with
      | lst h l => exact ⟨_, _, rfl, .inl (Same.rd s h), l⟩
    | tup us =>
      simp only [Val.seq?, Option.some.injEq] at e; subst e
      cases r with
      | tup h l => exact ⟨_, _, rfl, .inr (s _ _ h), l⟩
    | _ => simp only [Val.seq?] at e; cases e
  | l nw us =>
    simp only [Val.seq?, Option.some.injEq] at e; subst e
    obtain ⟨a, vs, e, h, l⟩ := r
    exact ⟨a, vs, e, .inl (.inl h), l⟩
  | _ => simp only [Val.seq?] at e; cases e
theorem SqL.ofRd {K : PySem.W.Frag} {a : Addr} {vs : List V} (h : Rd H a (.lst vs)) : SqL K H a vs := .inl h
theorem VRep.dp {v : V} {x : Val} {d : PyData} (s : Same F H) (r : VRep g H F v x) (e : x.data = some d) : Dp g.K H v d := by
  cases x with
  | v t => exact Rep.dp s r e
  | l nw us =>
    simp only [Val.data, Option.map_eq_some_iff] at e
    obtain ⟨ds, h1, rfl⟩ := e
    obtain ⟨a, vs, rfl, h, l⟩ := r
    exact .lst (.inl (.inl h)) (RepL.dp s l h1)
  | _ => simp only [Val.data] at e; cases e
end

theorem VRep.nrm {g : Gx} {H F : Hp} {v : V} {x : Val} (s : Same F H) (r : VRep g H F v x) : VRep g H F v x.nrm := by
  cases x with
  | v t => cases t with
    | dct ks ts =>
      cases r with
      | dct h e l => exact ⟨_, _, rfl, s _ _ h, RepK.zip l e⟩
    | _ => exact r
  | _ => exact r
/-! ### operators -/
section
variable {X : Cx} {g : Gx}
theorem op_catR : OpR X (binaryOp .Add) (fun x y H Q => ∃ l b xs zs, x = .ref l ∧ y = .ref b ∧ Rd H l (.lst xs) ∧ Rd H b (.lst zs) ∧ xs.length + zs.length ≤ sizeLine ∧ ∀ p, H p = none → Q (.ref p) (upd H p (.lst (xs ++ zs)))) := by
  intro pins s σ H x y v u Q I rx ry h
  obtain ⟨l, b, xs, zs, rfl, rfl, hH, hB, hz, q⟩ := h
  cases rx
  cases ry
  obtain ⟨_, its, n, r, e⟩ := hH.ok I.hok
  obtain ⟨_, its2, n2, r2, e2⟩ := hB.ok I.hok
  have l1 := r.length
  have l2 := r2.length
  refine PySem.P.add_list e e2 ?_ (by rw [List.size_toArray, List.size_toArray]; omega)
  have ea : its.toArray ++ its2.toArray = (its ++ its2).toArray := by simp
  rw [ea]
  exact ⟨.ref _, _, I.lnew (t' := s.toks) (r.append r2) (by rw [List.length_append]; omega), rfl, q _ I.fresh⟩
/-- two operands and what they stand for -/
def r2V (g : Gx) (f : Val → Val → R Val) : R2 := fun x y H Q => ∃ F u w, Same F H ∧ VRep g H F x u ∧ VRep g H F y w ∧ postE g (f u w) H F Q
theorem op_addV : OpR X (binaryOp .Add) (r2V g addV) := by
  intro pins s σ H x y v u Q I rx ry h
  obtain ⟨F, a, b, sF, ra, rb, hp⟩ := h
  have hl : ∀ as bs, a.lst? = some as → b.lst? = some bs → addV a b = (if fitsL (as.length + bs.length) then .ok (.l true (as ++ bs)) else .no) → wpAny (model X.prog X.w) X.A (binaryOp .Add v u) (EP X pins σ Q) X.xe s := fun as bs ea eb e => by
    rw [e] at hp
    by_cases hf : fitsL (as.length + bs.length) = true
    · rw [if_pos hf] at hp
      obtain ⟨p, vs, rfl, h1, l1⟩ := ra.lst sF ea
      obtain ⟨q, ws, rfl, h2, l2⟩ := rb.lst sF eb
      have hz : vs.length + ws.length ≤ sizeLine := by rw [l1.length, l2.length]; exact of_decide_eq_true hf
      exact op_catR pins s σ H _ _ v u Q I rx ry ⟨p, q, vs, ws, rfl, rfl, h1, h2, hz, hp.newL sF (l1.append l2)⟩
    · rw [if_neg hf] at hp; exact hp.elim
  have hl2 : (addV a b = match a.lst?, b.lst? with
    | some a, some b => if fitsL (a.length + b.length) then .ok (.l true (a ++ b)) else .no
    | _, _ => .no) → wpAny (model X.prog X.w) X.A (binaryOp .Add v u) (EP X pins σ Q) X.xe s := fun e => by
    cases ea : a.lst? with
    | none => rw [e, ea] at hp; exact hp.elim
    | some as =>
      cases eb : b.lst? with
      | none => rw [e, ea, eb] at hp; exact hp.elim
      | some bs => rw [ea, eb] at e; exact hl as bs ea eb e
  unfold addV at hp
  split at hp
  · rename_i i j
    cases ra; cases rb
    exact op_add pins s σ H _ _ v u Q I rx ry ⟨i, j, rfl, rfl, hp.now sF (.int _)⟩
  · rename_i i j
    cases ra; cases rb
    by_cases hf : fitsL (i.length + j.length) = true
    · rw [if_pos hf] at hp
      exact op_add_str pins s σ H _ _ v u Q I rx ry ⟨i, j, rfl, rfl, of_decide_eq_true hf, hp.now sF (.str _)⟩
    · rw [if_neg hf] at hp; exact hp.elim
  · rename_i as bs
    cases ra with
    | tup h1 l1 =>
      cases rb with
      | tup h2 l2 =>
        by_cases hf : fitsL (as.length + bs.length) = true
        · rw [if_pos hf] at hp
          refine op_catA pins s σ H _ _ v u Q I rx ry ⟨_, _, _, _, rfl, rfl, .inl (.inl (sF _ _ h1)), .inl (.inl (sF _ _ h2)), by rw [l1.length, l2.length]; exact of_decide_eq_true hf, fun e => ?_, fun _ e => ?_, fun _ _ => hp.newT sF (l1.append l2)⟩
          · subst e
            cases l1
            exact hp.now sF (.tup h2 l2)
          · subst e
            cases l2
            rw [List.append_nil] at hp
            exact hp.now sF (.tup h1 l1)
        · rw [if_neg hf] at hp; exact hp.elim
  · refine hl2 ?_
    unfold addV
    split <;> first | rfl | (exfalso; simp_all)
end
end Lr

set_option Elab.async false
set_option linter.all false
set_option maxRecDepth 100000
set_option maxHeartbeats 1000000
/-! SndB: the operations by values. -/
namespace Lr
open PySem PySem.Spec PyProof.Rows L2
section
variable {X : Cx} {g : Gx}
theorem mulOk_ok {i j : Int} (h : mulOk i j = true) : CMul i j ∨ CMulW i j := by
  unfold mulOk at h
  simp only [Bool.or_eq_true, decide_eq_true_eq] at h
  rcases h with (h | h) | h
  · exact .inl (.inl ⟨by omega, by omega⟩)
  · exact .inl (.inr ⟨by omega, by omega⟩)
  · exact .inr h
theorem foldl_app : ∀ (l : List (Array Nat)) (acc : Array Nat), (l.foldl (· ++ ·) acc).toList = acc.toList ++ (l.map (·.toList)).flatten
  | [], acc => by simp
  | x :: l, acc => by
    rw [List.foldl_cons, foldl_app l (acc ++ x)]
    simp
theorem repS_fold (a : Str) (n : Nat) : (⟨(List.replicate n a.cps).foldl (· ++ ·) #[]⟩ : Str) = repS a n := by
  unfold repS
  congr 1
  refine Array.toList_inj.mp ?_
  rw [foldl_app]
  simp
theorem repS_one (a : Str) : repS a 1 = a := by
  unfold repS
  cases a
  simp
theorem repS_emp (a : Str) (n : Nat) (h : a.length = 0) : repS a n = a := by
  have h : a.cps.size = 0 := h
  have e : a.cps.toList = [] := List.eq_nil_of_length_eq_zero (by rw [Array.length_toList]; exact h)
  unfold repS
  cases a
  simp at e
  subst e
  simp
theorem op_mul_str : OpR X (binaryOp .Mult) (fun x y H Q => ∃ i k, x = .str i ∧ y = .int k ∧ -(2 ^ 63) ≤ k ∧ k < 2 ^ 63 ∧ i.length * k.toNat ≤ sizeLine ∧ Q (.str (repS i k.toNat)) H) := by
  intro pins s σ H x y v u Q I rx ry h
  obtain ⟨i, k, rfl, rfl, h1, h2, hz, q⟩ := h
  obtain ⟨t, rfl⟩ := rx
  obtain ⟨t', rfl⟩ := ry
  have d1 : (decide (k < -(2 ^ 63 : Int)) || decide (k ≥ 2 ^ 63)) = false := by
    rw [decide_eq_false (by omega), decide_eq_false (by omega)]
    rfl
  refine P.mul_str d1 (fun h3 _ hc => ?_) (fun h3 _ => ?_) ?_
  · have hk : (0 : Int) < k := by omega
    have e : (i.length : Int) * k ≤ sizeLine := by
      have : ((i.length * k.toNat : Nat) : Int) = (i.length : Int) * k := by rw [Int.natCast_mul]; congr 1; omega
      omega
    have h5 : (2 ^ 63 - 1) / k < (i.length : Int) := hc
    have h6 : (2 ^ 63 - 1 : Int) < (i.length : Int) * k := by
      exact Int.lt_mul_of_ediv_lt hk h5
    have h7 : (sizeLine : Int) ≤ 2 ^ 63 - 1 := by decide
    omega
  · unfold Builtin.Str.tooLong
    exact decide_eq_false (by omega)
  · split
    · rename_i h3
      have e : repS i k.toNat = Str.empty := by
        rw [show k.toNat = 0 by omega]
        rfl
      rw [e] at q
      exact ⟨by decide, .str Str.empty, H, I.tok _, ⟨_, rfl⟩, q⟩
    · split
      · rename_i h3 h4
        have e : repS i k.toNat = i := by
          simp at h4
          rcases h4 with h4 | h4
          · rw [h4]; exact repS_one i
          · exact repS_emp i _ h4
        rw [e] at q
        exact ⟨.str i, H, I, ⟨_, rfl⟩, q⟩
      · have e := repS_fold i k.toNat
        have hl : (repS i k.toNat).length ≤ sizeLine := by
          have : (repS i k.toNat).length = i.length * k.toNat := by
            unfold repS
            show (List.toArray _).size = _
            simp [Str.length, Nat.mul_comm]
          omega
        rw [e]
        exact ⟨hl, .str (repS i k.toNat), H, I.tok _, ⟨_, rfl⟩, q⟩
def CPowW (i j : Int) : Prop := 0 ≤ j ∧ j ≤ 1000 ∧ i.natAbs.log2 < 100000
theorem op_powW : OpR X (binaryOp .Pow) (rI CPowW fun i j => .int (i ^ j.toNat)) := opI fun i j _ _ _ _ _ hc q => by
  obtain ⟨h0, h1, h2⟩ := hc
  refine pow_int h0 ?_ q
  have hb : Builtin.Int.intBits i ≤ 100000 := by
    unfold Builtin.Int.intBits
    split <;> omega
  have h3 : (Builtin.Int.intBits i : Int) * j ≤ 100000 * 1000 := Int.mul_le_mul (by omega) h1 h0 (by decide)
  omega
theorem op_mulV : OpR X (binaryOp .Mult) (r2V g mulV) := by
  intro pins s σ H x y v u Q I rx ry h
  obtain ⟨F, a, b, sF, ra, rb, hp⟩ := h
  unfold mulV at hp
  split at hp
  · rename_i i j
    cases ra; cases rb
    by_cases hf : mulOk i j = true
    · rw [if_pos hf] at hp
      rcases mulOk_ok hf with c | c
      · exact op_mul pins s σ H _ _ v u Q I rx ry ⟨i, j, rfl, rfl, c, hp.now sF (.int _)⟩
      · exact op_mulW pins s σ H _ _ v u Q I rx ry ⟨i, j, rfl, rfl, c, hp.now sF (.int _)⟩
    · rw [if_neg hf] at hp; exact hp.elim
  · rename_i nw as k
    obtain ⟨p, vs, rfl, h1, l1⟩ := ra
    cases rb
    by_cases hf : (decide (-(2 ^ 63) ≤ k) && decide (k < 2 ^ 63) && fitsL (as.length * k.toNat)) = true
    · rw [if_pos hf] at hp
      simp only [Bool.and_eq_true, decide_eq_true_eq] at hf
      exact op_rep pins s σ H _ _ v u Q I rx ry ⟨p, k, vs, rfl, rfl, h1, hf.1.1, hf.1.2, by rw [l1.length]; exact of_decide_eq_true hf.2, hp.newL sF (l1.rep _)⟩
    · rw [if_neg hf] at hp; exact hp.elim
  · rename_i a k
    cases ra; cases rb
    by_cases hf : (decide (-(2 ^ 63) ≤ k) && decide (k < 2 ^ 63) && fitsL (a.length * k.toNat)) = true
    · rw [if_pos hf] at hp
      simp only [Bool.and_eq_true, decide_eq_true_eq] at hf
      exact op_mul_str pins s σ H _ _ v u Q I rx ry ⟨a, k, rfl, rfl, hf.1.1, hf.1.2, of_decide_eq_true hf.2, hp.now sF (.str _)⟩
    · rw [if_neg hf] at hp; exact hp.elim
  · exact hp.elim
theorem op_binV (op : Operator) : OpR X (binaryOp op) (r2V g (binV op)) := by
  cases op with
  | Add => exact op_addV
  | Mult => exact op_mulV
  | Sub =>
    intro pins s σ H x y v u Q I rx ry h
    obtain ⟨F, a, b, sF, ra, rb, hp⟩ := h
    simp only [binV] at hp
    split at hp
    · cases ra; cases rb
      exact op_sub pins s σ H _ _ v u Q I rx ry ⟨_, _, rfl, rfl, hp.now sF (.int _)⟩
    · exact hp.elim
  | FloorDiv =>
    intro pins s σ H x y v u Q I rx ry h
    obtain ⟨F, a, b, sF, ra, rb, hp⟩ := h
    simp only [binV] at hp
    split at hp
    · cases ra; cases rb
      split at hp
      · rename_i hf
        unfold divOk at hf
        simp only [Bool.and_eq_true, decide_eq_true_eq] at hf
        exact op_fdivW pins s σ H _ _ v u Q I rx ry ⟨_, _, rfl, rfl, hf, hp.now sF (.int _)⟩
      · exact hp.elim
    · exact hp.elim
  | Mod =>
    intro pins s σ H x y v u Q I rx ry h
    obtain ⟨F, a, b, sF, ra, rb, hp⟩ := h
    simp only [binV] at hp
    split at hp
    · cases ra; cases rb
      split at hp
      · rename_i hf
        exact op_mod pins s σ H _ _ v u Q I rx ry ⟨_, _, rfl, rfl, of_decide_eq_true hf, hp.now sF (.int _)⟩
      · exact hp.elim
    · exact hp.elim
  | Pow =>
    intro pins s σ H x y v u Q I rx ry h
    obtain ⟨F, a, b, sF, ra, rb, hp⟩ := h
    simp only [binV] at hp
    split at hp
    · cases ra; cases rb
      split at hp
      · rename_i hf
        simp only [Bool.and_eq_true, decide_eq_true_eq] at hf
        exact op_pow pins s σ H _ _ v u Q I rx ry ⟨_, _, rfl, rfl, ⟨hf.1.1, hf.1.2, hf.2⟩, hp.now sF (.int _)⟩
      · split at hp
        · rename_i hf
          simp only [Bool.and_eq_true, decide_eq_true_eq] at hf
          exact op_powW pins s σ H _ _ v u Q I rx ry ⟨_, _, rfl, rfl, ⟨hf.1.1, hf.1.2, hf.2⟩, hp.now sF (.int _)⟩
        · exact hp.elim
    · exact hp.elim
  | _ =>
    intro pins s σ H x y v u Q I rx ry h
    obtain ⟨F, a, b, sF, ra, rb, hp⟩ := h
    exact hp.elim
/-! ### comparisons -/
def r2B (g : Gx) (f : Val → Val → R Bool) : R2 := fun x y H Q => ∃ F u w, Same F H ∧ VRep g H F x u ∧ VRep g H F y w ∧ postB (f u w) H F (fun b H' => Q (.bl b) H')
theorem postB.now {F H : Hp} {b : Bool} {Q : Bool → Hp → Prop} (s : Same F H) (h : postB (.ok b) H F Q) : Q b H := h H F (.refl s)
theorem scalT_ok {H F : Hp} {x y : V} {a b : T} {k : Bool} (ra : Rep g F x a) (rb : Rep g F y b) (h : scalT a b = some k) : scal x y = true ∧ decide (x = y) = k := by
  cases ra <;> cases rb <;> simp [scalT, scal] at h ⊢ <;> exact h
theorem op_eqVal (hK : X.K = g.K) (hu : X.A.units + 64 < cLine) : OpR X (compareOp .Eq) (r2B g eqV) := by
  intro pins s σ H x y v u Q I rx ry h
  obtain ⟨F, a, b, sF, ra, rb, hp⟩ := h
  have deep : (∀ d e, a.data = some d → b.data = some e → eqV a b = (if SeqAt.shaped d && SeqAt.shaped e then .ok (PyData.eqv d e) else .no) → wpAny (model X.prog X.w) X.A (compareOp .Eq v u) (EP X pins σ Q) X.xe s) := fun d e ea eb ee => by
    rw [ee] at hp
    by_cases hf : (SeqAt.shaped d && SeqAt.shaped e) = true
    · rw [if_pos hf] at hp
      simp only [Bool.and_eq_true] at hf
      refine op_eqD hu pins s σ H x y v u Q I rx ry ⟨d, e, ?_, ?_, hf.1, hf.2, hp.now sF⟩
      · rw [hK]; exact ra.dp sF ea
      · rw [hK]; exact rb.dp sF eb
    · rw [if_neg hf] at hp; exact hp.elim
  have deep2 : eqV a b = (match a.data, b.data with
      | some d, some e => if SeqAt.shaped d && SeqAt.shaped e then .ok (PyData.eqv d e) else .no
      | _, _ => .no) → wpAny (model X.prog X.w) X.A (compareOp .Eq v u) (EP X pins σ Q) X.xe s := fun ee => by
    cases ea : a.data with
    | none => rw [ee, ea] at hp; exact hp.elim
    | some d =>
      cases eb : b.data with
      | none => rw [ee, ea, eb] at hp; exact hp.elim
      | some e => rw [ea, eb] at ee; exact deep d e ea eb ee
  by_cases hv : ∃ t r, a = .v t ∧ b = .v r
  · obtain ⟨t, r, rfl, rfl⟩ := hv
    cases hs : scalT t r with
    | some k =>
      simp only [eqV, hs] at hp
      obtain ⟨h1, h2⟩ := scalT_ok (H := H) ra rb hs
      refine op_eq pins s σ H x y v u Q I rx ry ⟨h1, ?_⟩
      rw [h2]
      exact hp.now sF
    | none =>
      refine deep2 ?_
      simp only [eqV, hs]
      rfl
  · refine deep2 ?_
    unfold eqV
    split
    · exact absurd ⟨_, _, rfl, rfl⟩ hv
    · rfl
theorem op_neVal (hK : X.K = g.K) (hu : X.A.units + 64 < cLine) : OpR X (compareOp .NotEq) (r2B g fun x y => (eqV x y).bind fun k => .ok (!k)) := by
  intro pins s σ H x y v u Q I rx ry h
  obtain ⟨F, a, b, sF, ra, rb, hp0⟩ := h
  have hp : postB ((eqV a b).bind fun k => R.ok (!k)) H F (fun b H' => Q (V.bl b) H') := hp0
  have deep : (∀ d e, a.data = some d → b.data = some e → eqV a b = (if SeqAt.shaped d && SeqAt.shaped e then .ok (PyData.eqv d e) else .no) → wpAny (model X.prog X.w) X.A (compareOp .NotEq v u) (EP X pins σ Q) X.xe s) := fun d e ea eb ee => by
    rw [ee] at hp
    by_cases hf : (SeqAt.shaped d && SeqAt.shaped e) = true
    · rw [if_pos hf] at hp
      simp only [Bool.and_eq_true] at hf
      refine op_neD hu pins s σ H x y v u Q I rx ry ⟨d, e, ?_, ?_, hf.1, hf.2, hp.now sF⟩
      · rw [hK]; exact ra.dp sF ea
      · rw [hK]; exact rb.dp sF eb
    · rw [if_neg hf] at hp; exact hp.elim
  have deep2 : eqV a b = (match a.data, b.data with
      | some d, some e => if SeqAt.shaped d && SeqAt.shaped e then .ok (PyData.eqv d e) else .no
      | _, _ => .no) → wpAny (model X.prog X.w) X.A (compareOp .NotEq v u) (EP X pins σ Q) X.xe s := fun ee => by
    cases ea : a.data with
    | none => rw [ee, ea] at hp; exact hp.elim
    | some d =>
      cases eb : b.data with
      | none => rw [ee, ea, eb] at hp; exact hp.elim
      | some e => rw [ea, eb] at ee; exact deep d e ea eb ee
  by_cases hv : ∃ t r, a = .v t ∧ b = .v r
  · obtain ⟨t, r, rfl, rfl⟩ := hv
    cases hs : scalT t r with
    | some k =>
      simp only [eqV, hs] at hp
      obtain ⟨h1, h2⟩ := scalT_ok (H := H) ra rb hs
      refine op_ne pins s σ H x y v u Q I rx ry ⟨h1, ?_⟩
      rw [h2]
      exact hp.now sF
    | none =>
      refine deep2 ?_
      simp only [eqV, hs]
      rfl
  · refine deep2 ?_
    unfold eqV
    split
    · exact absurd ⟨_, _, rfl, rfl⟩ hv
    · rfl
/-! ### order of tuples -/
theorem lexAt_ge {e r : Nat → Bool} : ∀ (ns ms : List Int) (i : Nat), (∀ j, e (i + j) = decide (ns.getD j 0 = ms.getD j 0)) → (∀ j, r (i + j) = decide (ms.getD j 0 ≤ ns.getD j 0)) →
    ∀ z, z = decide (ns.length ≥ ms.length) → Ob.lexAt e r z i (min ns.length ms.length) = lexGe ns ms
  | ns, [], i, _, _, z, hz => by
    rw [List.length_nil, Nat.min_zero, Ob.lexAt_zero, hz]
    cases ns <;> simp [lexGe]
  | [], m :: ms, i, _, _, z, hz => by
    rw [List.length_nil, Nat.zero_min, Ob.lexAt_zero, hz]
    simp [lexGe]
  | n :: ns, m :: ms, i, he, hr, z, hz => by
    have e1 : min (n :: ns).length (m :: ms).length = min ns.length ms.length + 1 := by simp only [List.length_cons]; omega
    rw [e1, Ob.lexAt_succ]
    have h0 := he 0
    have h1 := hr 0
    simp only [Nat.add_zero, List.getD_cons_zero] at h0 h1
    rw [h0, h1]
    unfold lexGe
    by_cases q : n = m
    · rw [if_pos (decide_eq_true q), if_pos q]
      refine lexAt_ge ns ms (i + 1) (fun j => ?_) (fun j => ?_) z ?_
      · have := he (j + 1)
        simp only [List.getD_cons_succ] at this
        rw [← this]; congr 1; omega
      · have := hr (j + 1)
        simp only [List.getD_cons_succ] at this
        rw [← this]; congr 1; omega
      · rw [hz]; simp
    · rw [if_neg (by simpa using q), if_neg q]
theorem op_geT {K : PySem.W.Frag} (hK : X.K = K) (hu : X.A.units < cLine) : OpR X (compareOp .GtE) (fun x y H Q => ∃ (a b : Addr) (ns ms : List Int), x = .ref a ∧ y = .ref b ∧ SqT K H a (ns.map V.int) ∧ SqT K H b (ms.map V.int) ∧ Q (.bl (lexGe ns ms)) H) := by
  subst hK
  intro pins s σ H x y v u Q I rx ry h
  obtain ⟨a, b, ns, ms, rfl, rfl, ha, hb, q⟩ := h
  cases rx
  cases ry
  obtain ⟨its, r1, p1, _⟩ := I.tuple ha
  obtain ⟨its2, r2, p2, _⟩ := I.tuple hb
  have i1 : IntsAre its ns := Vals.ints r1
  have i2 : IntsAre its2 ms := Vals.ints r2
  have e1 : its.toArray.size = ns.length := by rw [List.size_toArray]; exact i1.length
  have e2 : its2.toArray.size = ms.length := by rw [List.size_toArray]; exact i2.length
  have at1 : ∀ j (h1 : j < its.toArray.size), ∃ t, its.toArray[j] = .int (ns.getD j 0) t := fun j h1 => PyProof.Rows.IntsAre.int_at i1 _ _ (by simp at h1; simp [h1])
  have at2 : ∀ j (h1 : j < its2.toArray.size), ∃ t, its2.toArray[j] = .int (ms.getD j 0) t := fun j h1 => PyProof.Rows.IntsAre.int_at i2 _ _ (by simp at h1; simp [h1])
  have R := Ob.RcOp.tuples_ge (A := X.A) (s := s) (e := fun j => ns.getD j 0 == ms.getD j 0) (r := fun j => decide (ms.getD j 0 ≤ ns.getD j 0)) p1 p2 hu (fun j h1 h2 => by
    obtain ⟨t, et⟩ := at1 j h1
    obtain ⟨t', et'⟩ := at2 j h2
    rw [et, et']
    exact SeqAt.EqAt.int_int _ _ _ _) (fun j h1 h2 _ => by
    obtain ⟨t, et⟩ := at1 j h1
    obtain ⟨t', et'⟩ := at2 j h2
    rw [et, et']
    exact Ob.RcOp.ge_int _ _ _ _)
  rw [e1, e2, lexAt_ge ns ms 0 (fun j => by
    rw [Nat.zero_add]
    by_cases q : ns.getD j 0 = ms.getD j 0
    · rw [decide_eq_true q]; exact beq_iff_eq.mpr q
    · rw [decide_eq_false q]; exact beq_eq_false_iff_ne.mpr q) (fun j => by rw [Nat.zero_add]) _ rfl] at R
  exact R X.prog X.w X.xe (EP X pins σ Q) ⟨.bl _, H, I, rfl, q⟩
theorem op_ordV {op : CmpOp} (hK : X.K = g.K) (hu : X.A.units < cLine) : OpR X (compareOp op) (r2B g (ordV op)) := by
  intro pins s σ H x y v u Q I rx ry h
  obtain ⟨F, a, b, sF, ra, rb, hp⟩ := h
  unfold ordV at hp
  split at hp
  · cases ra; cases rb
    cases op <;> first
      | exact hp.elim
      | exact op_lt pins s σ H _ _ v u Q I rx ry ⟨_, _, rfl, rfl, hp.now sF⟩
      | exact op_le pins s σ H _ _ v u Q I rx ry ⟨_, _, rfl, rfl, hp.now sF⟩
      | exact op_gt pins s σ H _ _ v u Q I rx ry ⟨_, _, rfl, rfl, hp.now sF⟩
      | exact op_ge pins s σ H _ _ v u Q I rx ry ⟨_, _, rfl, rfl, hp.now sF⟩
  · cases ra with
    | tup h1 l1 =>
      cases rb with
      | tup h2 l2 =>
        split at hp
        · rename_i e1 e2
          have z1 := l1.ints e1
          have z2 := l2.ints e2
          subst z1 z2
          cases op <;> first
            | exact hp.elim
            | exact op_ltT hu pins s σ H _ _ v u Q I rx ry ⟨_, _, _, _, rfl, rfl, .inl (.inl (sF _ _ h1)), .inl (.inl (sF _ _ h2)), hp.now sF⟩
            | exact op_geT rfl hu pins s σ H _ _ v u Q I rx ry ⟨_, _, _, _, rfl, rfl, .inl (.inl (sF _ _ h1)), .inl (.inl (sF _ _ h2)), hp.now sF⟩
        · exact hp.elim
  · exact hp.elim
end
end Lr

set_option Elab.async false
set_option linter.all false
set_option maxRecDepth 100000
set_option maxHeartbeats 1000000
/-! SndC: is, in, places, slices. -/
namespace Lr
open PySem PySem.Spec PyProof.Rows L2
section
variable {X : Cx} {g : Gx}
theorem isNon_ok {F : Hp} {x : V} {t : T} (r : Rep g F x t) : decide (x = V.non) = t.isNon := by
  cases r <;> simp [T.isNon]
theorem op_isVal (neg : Bool) : OpR X (compareOp (if neg then .IsNot else .Is)) (r2B g fun x y => (isV x y).bind fun k => .ok (if neg then !k else k)) := by
  intro pins s σ H x y v u Q I rx ry h
  obtain ⟨F, a, b, sF, ra, rb, hp0⟩ := h
  have hp : postB ((isV a b).bind fun k => .ok (if neg then !k else k)) H F (fun b H' => Q (V.bl b) H') := hp0
  have non : ∀ k : Bool, y = V.non → decide (x = V.non) = k → postB (.ok (if neg then !k else k)) H F (fun b H' => Q (V.bl b) H') → wpAny (model X.prog X.w) X.A (compareOp (if neg then .IsNot else .Is) v u) (EP X pins σ Q) X.xe s := fun k ey ek hp => by
    subst ey ek
    cases neg with
    | false => exact op_isN pins s σ H x _ v u Q I rx ry ⟨rfl, hp.now sF⟩
    | true => exact op_notN pins s σ H x _ v u Q I rx ry ⟨rfl, hp.now sF⟩
  cases b with
  | v t =>
    cases t with
    | non =>
      cases rb
      cases a with
      | v t => exact non _ rfl (isNon_ok ra) hp
      | l nw ts =>
        obtain ⟨p, vs, rfl, _, _⟩ := ra
        exact non false rfl (by simp) hp
      | _ => exact hp.elim
    | bl k =>
      cases rb
      cases a with
      | v t =>
        cases t with
        | bl c =>
          cases ra
          cases neg with
          | false => exact op_is_bl pins s σ H _ _ v u Q I rx ry ⟨c, k, rfl, rfl, hp.now sF⟩
          | true => exact op_isnot_bl pins s σ H _ _ v u Q I rx ry ⟨c, k, rfl, rfl, hp.now sF⟩
        | non =>
          cases ra
          cases (show v = Value.none from rx)
          cases (show u = Value.bool k from ry)
          cases neg with
          | false => exact wpAny_is_other rfl (fun z => nomatch z) ⟨.bl false, H, I, rfl, hp.now sF⟩
          | true => exact wpAny_isNot_other rfl (fun z => nomatch z) ⟨.bl true, H, I, rfl, hp.now sF⟩
        | _ => exact hp.elim
      | _ => exact hp.elim
    | _ => exact hp.elim
  | _ => exact hp.elim
theorem flatT_ok {F : Hp} {x : V} {t : T} (r : Rep g F x t) (h : flatT t = true) : flatV x = true := by
  cases r <;> first | rfl | cases h
theorem flatTs_ok {F : Hp} : ∀ {xs : List V} {ts : List T}, RepL g F xs ts → ts.all flatT = true → xs.all flatV = true
  | _, _, .nil, _ => rfl
  | _, _, .cons r l, h => by
    rw [List.all_cons, Bool.and_eq_true] at h ⊢
    exact ⟨flatT_ok r h.1, flatTs_ok l h.2⟩
theorem sEq_ok {F : Hp} {x y : V} {t r : T} (a : Rep g F x t) (b : Rep g F y r) : L2.eqV x y = sEq t r := by
  cases a <;> cases b <;> rfl
theorem any_ok {F : Hp} {x : V} {t : T} (a : Rep g F x t) : ∀ {xs : List V} {ts : List T}, RepL g F xs ts → (xs.any fun y => L2.eqV y x) = ts.any fun u => sEq u t
  | _, _, .nil => rfl
  | _, _, .cons r l => by rw [List.any_cons, List.any_cons, sEq_ok r a, any_ok a l]
theorem RepK.has {F : Hp} {κ : Type} [DecidableEq κ] {k : κ} : ∀ {xs : List (κ × V)} {ts : List (κ × T)}, RepK g F xs ts → (xs.any fun p => decide (p.1 = k)) = ts.any fun p => decide (p.1 = k)
  | _, _, .nil => rfl
  | _, _, .cons r l => by rw [List.any_cons, List.any_cons, r.1, RepK.has l]
theorem RepK.val {F : Hp} {κ : Type} [DecidableEq κ] {k : κ} : ∀ {xs : List (κ × V)} {ts : List (κ × T)}, RepK g F xs ts →
    (match (ts.find? fun p => decide (p.1 = k)).map (·.2) with | some t => ∃ v, valV xs k = some v ∧ Rep g F v t | none => valV xs k = none)
  | _, _, .nil => rfl
  | p :: xs, q :: ts, .cons r l => by
    have ih := RepK.val (k := k) l
    by_cases h : q.1 = k
    · have h' : p.1 = k := r.1.trans h
      rw [List.find?_cons_of_pos (by simpa using h)]
      exact ⟨p.2, valV_pos h', r.2⟩
    · have h' : ¬ p.1 = k := fun z => h (r.1.symm.trans z)
      rw [List.find?_cons_of_neg (by simpa using h), valV_neg h']
      exact ih
theorem RepK.put {F : Hp} {κ : Type} [DecidableEq κ] {k : κ} {xs : List (κ × V)} {ts : List (κ × T)} {v : V} {t : T} (r : RepK g F xs ts) (d : Rep g F v t) :
    RepK g F (putK xs k v) (if (ts.any fun p => decide (p.1 = k)) = true then ts.map (fun p => if p.1 = k then (p.1, t) else p) else ts ++ [(k, t)]) := by
  unfold putK
  have e : (xs.any fun kv => decide (kv.1 = k)) = ts.any fun p => decide (p.1 = k) := RepK.has r
  rw [e]
  by_cases h : (ts.any fun p => decide (p.1 = k)) = true
  · rw [if_pos h, if_pos h]
    clear e h
    induction r with
    | nil => exact .nil
    | @cons p q xs ts h1 l ih =>
      refine .cons ?_ ih
      show (if p.1 = k then (p.1, v) else p).1 = (if q.1 = k then (q.1, t) else q).1 ∧ Rep g F (if p.1 = k then (p.1, v) else p).2 (if q.1 = k then (q.1, t) else q).2
      rw [h1.1]
      by_cases hk : q.1 = k
      · rw [if_pos hk, if_pos hk]; exact ⟨rfl, d⟩
      · rw [if_neg hk, if_neg hk]; exact h1
  · rw [if_neg h, if_neg h]
    clear e h
    induction r with
    | nil => exact .cons ⟨rfl, d⟩ .nil
    | cons h1 l ih => exact .cons h1 ih
theorem key_ok {F : Hp} {x : V} {t : T} {k : Key} (r : Rep g F x t) (h : t.key? = some k) : x = kV k := by
  cases r <;> simp only [T.key?, Option.some.injEq] at h <;> first | (subst h; rfl) | cases h
theorem keys_ok {F : Hp} : ∀ {xs : List V} {ts : List T} {ks : List Key}, RepL g F xs ts → keys? ts = some ks → xs = ks.map kV
  | _, _, _, .nil, h => by simp only [keys?, Option.some.injEq] at h; subst h; rfl
  | _, _, _, .cons (t := t) (ts := ts) r l, h => by
    cases h1 : t.key? with
    | none => simp only [keys?, h1] at h; cases h
    | some k =>
      cases h2 : keys? ts with
      | none => simp only [keys?, h1, h2] at h; cases h
      | some ks =>
        simp only [keys?, h1, h2, Option.some.injEq] at h
        subst h
        rw [key_ok r h1, keys_ok l h2]; rfl
theorem keyT_ok {F H : Hp} (s : Same F H) {x : V} {t : T} {k : List Key} (r : Rep g F x t) (h : t.keyT? = some k) : ∃ b, x = .ref b ∧ H b = some (.tup (k.map kV)) := by
  cases r with
  | tup h1 l =>
    simp only [T.keyT?] at h
    have e := keys_ok l h
    subst e
    exact ⟨_, rfl, s _ _ h1⟩
  | _ => simp only [T.keyT?] at h; cases h
theorem dgetK {F H : Hp} {a : Addr} {xs : List (Key × V)} {kvs : List (Key × T)} {k : Key} (h : H a = some (.dK xs)) (r : RepK g F xs kvs) :
    DGet H a (kV k) (valV xs k) := .k h
theorem op_inVal (neg : Bool) (hu : X.A.units + 1 < cLine) : OpR X (compareOp (if neg then .NotIn else .In)) (r2B g fun x y => (inV x y).bind fun k => .ok (if neg then !k else k)) := by
  intro pins s σ H x y v u Q I rx ry h
  obtain ⟨F, a, b, sF, ra, rb, hp0⟩ := h
  have hp : postB ((inV a b).bind fun k => .ok (if neg then !k else k)) H F (fun b H' => Q (V.bl b) H') := hp0
  have dict : ∀ (p : Addr) (o : Option V), y = .ref p → DGet H p x o → postB (.ok (if neg then !o.isSome else o.isSome)) H F (fun b H' => Q (V.bl b) H') → wpAny (model X.prog X.w) X.A (compareOp (if neg then .NotIn else .In) v u) (EP X pins σ Q) X.xe s := fun p o ey d hp => by
    subst ey
    cases ry
    cases neg with
    | false => exact d_in hu I d rx fun s3 I3 => ⟨.bl _, H, I3, rfl, hp.now sF⟩
    | true => exact d_notIn hu I d rx fun s3 I3 => ⟨.bl _, H, I3, rfl, hp.now sF⟩
  have seq : ∀ ts, b.seq? = some ts → inV a b = inSeq a ts → wpAny (model X.prog X.w) X.A (compareOp (if neg then .NotIn else .In) v u) (EP X pins σ Q) X.xe s := fun ts eb e => by
    rw [e] at hp
    obtain ⟨p, vs, rfl, hq, l⟩ := rb.seq sF eb
    cases a with
    | v t =>
      simp only [inSeq] at hp
      split at hp
      · rename_i hf
        rw [Bool.and_eq_true] at hf
        have fx := flatT_ok ra hf.1
        have fs := flatTs_ok l hf.2
        have e2 : L2.inV x vs = ts.any fun u => sEq u t := any_ok ra l
        rw [R.bind_ok, ← e2] at hp
        have hq2 : SqL X.K H p vs ∨ SqT X.K H p vs := by
          rcases hq with z | z
          · exact .inl (.inl z)
          · exact .inr (.inl (.inl z))
        cases neg with
        | false => exact op_in_seq pins s σ H x _ v u Q I rx ry ⟨p, vs, rfl, hq2, fx, fs, hp.now sF⟩
        | true => exact op_notIn_seq pins s σ H x _ v u Q I rx ry ⟨p, vs, rfl, hq2, fx, fs, hp.now sF⟩
      · exact hp.elim
    | _ => exact hp.elim
  cases b with
  | dk nw kvs =>
    obtain ⟨p, xs, rfl, h1, l1⟩ := rb
    cases a with
    | v t =>
      cases hk : t.key? with
      | none => simp only [inV, hk] at hp; exact hp.elim
      | some k =>
        simp only [inV, hk, R.bind_ok] at hp
        rw [key_ok ra hk] at rx dict
        refine dict p (valV xs k) rfl (.k h1) ?_
        rw [← valV_any k xs, RepK.has (k := k) l1]
        exact hp
    | _ => exact hp.elim
  | dt nw kvs =>
    obtain ⟨p, xs, rfl, h1, l1⟩ := rb
    cases a with
    | v t =>
      cases hk : t.keyT? with
      | none => simp only [inV, hk] at hp; exact hp.elim
      | some k =>
        simp only [inV, hk, R.bind_ok] at hp
        obtain ⟨b, rfl, hb⟩ := keyT_ok sF ra hk
        refine dict p (valV xs k) rfl (.t h1 hb) ?_
        rw [← valV_any k xs, RepK.has (k := k) l1]
        exact hp
    | _ => exact hp.elim
  | l nw ts => exact seq ts rfl rfl
  | ob _ _ _ => exact hp.elim
  | v t =>
    cases t with
    | str z =>
      cases rb
      cases a with
      | v t =>
        cases t with
        | str c =>
          cases ra
          simp only [inV] at hp
          split at hp
          · rename_i hf
            have hl : c.cps.size = 1 := of_decide_eq_true hf
            obtain ⟨d, rfl⟩ : ∃ d, c = ⟨#[d]⟩ := by
              obtain ⟨arr⟩ := c
              obtain ⟨l⟩ := arr
              have hl' : l.length = 1 := hl
              match l, hl' with
              | [d], _ => exact ⟨d, rfl⟩
            cases neg with
            | false => exact op_in_sign pins s σ H _ _ v u Q I rx ry ⟨d, z, rfl, rfl, hp.now sF⟩
            | true => exact op_notIn_sign pins s σ H _ _ v u Q I rx ry ⟨d, z, rfl, rfl, hp.now sF⟩
          · exact hp.elim
        | _ => exact hp.elim
      | _ => exact hp.elim
    | lst ts => exact seq ts rfl rfl
    | tup ts => exact seq ts rfl rfl
    | _ => exact hp.elim
theorem op_cmpV (hK : X.K = g.K) (op : CmpOp) (hu : X.A.units + 64 < cLine) : OpR X (compareOp op) (r2B g (cmpV op)) := by
  cases op with
  | Eq => exact op_eqVal hK hu
  | NotEq => exact op_neVal hK hu
  | Is =>
    intro pins s σ H x y v u Q I rx ry h
    obtain ⟨F, a, b, sF, ra, rb, hp⟩ := h
    refine op_isVal (g := g) false pins s σ H x y v u Q I rx ry ⟨F, a, b, sF, ra, rb, ?_⟩
    have hp : postB (isV a b) H F (fun b H' => Q (V.bl b) H') := hp
    show postB ((isV a b).bind fun k => .ok k) H F (fun b H' => Q (V.bl b) H')
    cases e : isV a b <;> rw [e] at hp <;> exact hp
  | IsNot => exact op_isVal true
  | In =>
    intro pins s σ H x y v u Q I rx ry h
    obtain ⟨F, a, b, sF, ra, rb, hp⟩ := h
    refine op_inVal (g := g) false (by omega) pins s σ H x y v u Q I rx ry ⟨F, a, b, sF, ra, rb, ?_⟩
    have hp : postB (inV a b) H F (fun b H' => Q (V.bl b) H') := hp
    show postB ((inV a b).bind fun k => .ok k) H F (fun b H' => Q (V.bl b) H')
    cases e : inV a b <;> rw [e] at hp <;> exact hp
  | NotIn => exact op_inVal true (by omega)
  | Lt => exact op_ordV hK (by omega)
  | LtE => exact op_ordV hK (by omega)
  | Gt => exact op_ordV hK (by omega)
  | GtE => exact op_ordV hK (by omega)
/-! ### places -/
theorem atI_ok {F : Hp} {vs : List V} {ts : List T} {i : Int} {t : T} (l : RepL g F vs ts) (h : atI ts i = some t) : ∃ v, atI vs i = some v ∧ Rep g F v t := by
  unfold atI at h ⊢
  rw [l.length]
  cases e : ixN ts.length i with
  | none => rw [e] at h; cases h
  | some j =>
    rw [e] at h
    exact l.get h
theorem ix_dict (hu : X.A.units + 1 < cLine) : IxR X (fun x y H Q => ∃ a v, x = .ref a ∧ DGet H a y (some v) ∧ Q v H) := by
  intro value slice pins s σ H x y v u Q I rx ry h hs
  obtain ⟨a, z, rfl, d, q⟩ := h
  cases rx
  exact tail_any (dict_typeIs I d) PySem.F.slot_dict_getitem.lookup (d_getItem hu I d ry fun w' s3 I3 rw' => ⟨z, H, I3, rw', q⟩) hs
theorem ix_V (hK : X.K = g.K) (hu : X.A.units + 1 < cLine) : IxR X (r2V g ixV) := by
  intro value slice pins s σ H x y v u Q I rx ry h hs
  obtain ⟨F, a, b, sF, ra, rb, hp⟩ := h
  have seq : ∀ ts i, a.seq? = some ts → b = .v (.int i) → ixV a b = (match atI ts i with
      | some t => .ok (.v t)
      | none => .no) → wpAny (model X.prog X.w) X.A (subscriptTail value slice v u) (EP X pins σ Q) X.xe s := fun ts i ea eb e => by
    rw [e] at hp
    subst eb
    cases rb
    cases ei : atI ts i with
    | none => rw [ei] at hp; exact hp.elim
    | some t =>
      rw [ei] at hp
      obtain ⟨p, vs, rfl, hq, l⟩ := ra.seq sF ea
      obtain ⟨w, ew, rw'⟩ := atI_ok l ei
      rcases hq with hq | hq
      · exact ix_list value slice pins s σ H _ _ v u Q I rx ry ⟨p, vs, i, w, rfl, rfl, .inl hq, ew, hp.now sF rw'⟩ hs
      · exact ix_tup value slice pins s σ H _ _ v u Q I rx ry ⟨p, vs, i, w, rfl, rfl, .inl (.inl hq), ew, hp.now sF rw'⟩ hs
  cases a with
  | dk nw kvs =>
    obtain ⟨p, xs, rfl, h1, l1⟩ := ra
    cases b with
    | v t =>
      cases hk : t.key? with
      | none => simp only [ixV, hk] at hp; exact hp.elim
      | some k =>
        simp only [ixV, hk] at hp
        have hv := RepK.val (k := k) l1
        rw [key_ok rb hk] at ry
        cases e : kGet kvs k with
        | none => simp only [e] at hp; exact hp.elim
        | some t' =>
          simp only [e] at hp
          unfold kGet at e
          rw [e] at hv
          obtain ⟨z, hz, rz⟩ := hv
          exact ix_dict hu value slice pins s σ H _ _ v u Q I rx ry ⟨p, z, rfl, by rw [← hz]; exact .k h1, hp.now sF rz⟩ hs
    | _ => exact hp.elim
  | dt nw kvs =>
    obtain ⟨p, xs, rfl, h1, l1⟩ := ra
    cases b with
    | v t =>
      cases hk : t.keyT? with
      | none => simp only [ixV, hk] at hp; exact hp.elim
      | some k =>
        simp only [ixV, hk] at hp
        have hv := RepK.val (k := k) l1
        obtain ⟨b, rfl, hb⟩ := keyT_ok sF rb hk
        cases e : ktGet kvs k with
        | none => simp only [e] at hp; exact hp.elim
        | some t' =>
          simp only [e] at hp
          unfold ktGet at e
          rw [e] at hv
          obtain ⟨z, hz, rz⟩ := hv
          exact ix_dict hu value slice pins s σ H _ _ v u Q I rx ry ⟨p, z, rfl, by rw [← hz]; exact .t h1 hb, hp.now sF rz⟩ hs
    | _ => exact hp.elim
  | l nw ts =>
    cases b with
    | v t => cases t with
      | int i => exact seq ts i rfl rfl rfl
      | _ => exact hp.elim
    | _ => exact hp.elim
  | ob _ _ _ =>
    cases b with
    | v t => cases t <;> exact hp.elim
    | _ => exact hp.elim
  | v r =>
    cases b with
    | v t => cases t with
      | int i => cases r with
        | lst ts => exact seq ts i rfl rfl rfl
        | tup ts => exact seq ts i rfl rfl rfl
        | str z =>
          cases ra
          cases rb
          simp only [ixV] at hp
          split at hp
          · rename_i hf
            split at hp
            · rename_i c ec
              exact ix_str value slice pins s σ H _ _ v u Q I rx ry ⟨z, i, c, rfl, rfl, of_decide_eq_true hf, ec, hp.now sF (.str _)⟩ hs
            · exact hp.elim
          · exact hp.elim
        | _ => exact hp.elim
      | _ => cases r <;> exact hp.elim
    | _ => cases r <;> exact hp.elim
/-! ### slices -/
theorem cut_ok {F : Hp} {vs : List V} {ts : List T} (l : RepL g F vs ts) (lo hi : Option Int) : RepL g F (cutV vs lo hi) (cutT ts lo hi) := by
  unfold cutV cutT
  rw [l.length]
  exact (l.drop _).take _
theorem HT_all {vs : List V} {lo hi : Option Int} (h : HT.sIx vs.length 0 lo = 0 ∧ HT.sIx vs.length vs.length hi = vs.length) : cutV vs lo hi = vs := by
  unfold cutV
  rw [h.1, h.2, List.drop_zero, Nat.sub_zero, List.take_length]
theorem sl_V : SlR X (fun x lo hi H Q => ∃ F u, Same F H ∧ VRep g H F x u ∧ postE g (slV u lo hi) H F Q) := by
  intro pins s σ H x v vl vu lo hi sl Q I rx hs pl pu h
  obtain ⟨F, a, sF, ra, hp⟩ := h
  cases a with
  | v t => cases t with
    | str z =>
      cases ra
      simp only [slV] at hp
      by_cases hf : fitsL z.length = true
      · rw [if_pos hf] at hp
        exact sl_str pins s σ H _ v vl vu lo hi sl Q I rx hs pl pu ⟨z, rfl, of_decide_eq_true hf, hp.now sF (.str _)⟩
      · rw [if_neg hf] at hp; exact hp.elim
    | tup ts =>
      cases ra with
      | tup h1 l1 =>
        simp only [slV] at hp
        refine sl_tupA pins s σ H _ v vl vu lo hi sl Q I rx hs pl pu ⟨_, _, rfl, .inl (.inl (sF _ _ h1)), fun e => ?_, fun _ => hp.newT sF (cut_ok l1 lo hi)⟩
        have l2 := cut_ok l1 lo hi
        rw [HT_all e] at l2
        exact hp.now sF (.tup h1 l2)
    | lst ts =>
      cases ra with
      | lst h1 l1 =>
        exact sl_list pins s σ H _ v vl vu lo hi sl Q I rx hs pl pu ⟨_, _, rfl, .inl (Same.rd sF h1), hp.newL sF (cut_ok l1 lo hi)⟩
    | _ => exact hp.elim
  | l nw ts =>
    obtain ⟨p, vs, rfl, h1, l1⟩ := ra
    exact sl_list pins s σ H _ v vl vu lo hi sl Q I rx hs pl pu ⟨_, _, rfl, .inl (.inl h1), hp.newL sF (cut_ok l1 lo hi)⟩
  | _ => exact hp.elim
end
end Lr

set_option Elab.async false
set_option linter.all false
set_option maxRecDepth 100000
set_option maxHeartbeats 1000000
/-! SndSt: sorted(d), sorted(d.keys()): keys whole numbers, or pairs of them, any number. -/
namespace Lr
open PySem PySem.Spec PyProof.Rows L2
/-- the view d.keys() at p -/
def keysO (p d : Addr) : HO := .ext fun h => PySem.W.KdlKeysView h p d
theorem keysO_ok {P : Program} {w : World} {H : Hp} {h : Heap} {p d : Addr} (e : h.get? p = some { cls := .type "dict_keys", data := .fields #[.ref d] }) : ObjOk P w H h p (keysO p d) :=
  ⟨⟨_, e, rfl, rfl⟩, ⟨_, e⟩, fun h1 h2 x k => let ⟨o, ho, r⟩ := x; ⟨o, k o ho, r⟩⟩
section
variable {X : Cx}
/-- sorted(r), r a source of whole numbers -/
theorem sort_ints {pins : List (Addr × Obj)} {σ : L2.St} {H : Hp} {s : Shared} {Q : VK} {T : String} {r d : Addr} {vs : List (Key × Value)} {OK : Heap → Prop} {ks : List Int} (hcalm : X.calm = true) (I : Inv X pins σ H s)
    (K : PySem.W.KdlSrc X.prog X.w T r d vs.length (fun i v => ∃ k x, vs[i]? = some (k, x) ∧ keyIs k v = true) OK) (hok : OK s.heap) (hkeys : vs.map (·.1) = ks.map Sum.inl) (h16 : vs.length ≤ sizeLine)
    (q : ∀ (ys : List Int) (q : Addr), ys.Perm ks → ys.Pairwise (· ≤ ·) → H q = none → Q (.ref q) (upd H q (.lst (ys.map V.int)))) : wpAny (model X.prog X.w) X.A (call (.builtin "sorted") [.ref r]) (EP X pins σ Q) X.xe s := by
  have hl : vs.length = ks.length := by
    have e := congrArg List.length hkeys
    rw [List.length_map, List.length_map] at e
    exact e
  refine Calls.call_function_entry PyProof.Rows.kind_sorted PyProof.Rows.plain_sorted PyProof.Rows.entry_sorted (PyProof.Rows.args_sorted1 _) ?_
  unfold Builtin.«sorted»
  refine wpAny_bind (m := checkCount "sorted" 1 1 _) (wpAny_pure ?_)
  refine wpAny_bind (PySem.W.kdu_collect (A := X.A.in1) K (I.ok.hd hcalm) hok h16 fun h' tk acc hk hacc => ?_)
  have hal : acc.toList.length = ks.length := by rw [Array.length_toList, hacc.1, hl]
  have hS : IntsAre acc.toList ks := ints_each hal fun j v e => by
    obtain ⟨k, x, e1, e2⟩ := hacc.2 j v (by rw [← Array.getElem?_toList]; exact e)
    have e3 : (vs.map (·.1))[j]? = some k := by rw [List.getElem?_map, e1]; rfl
    rw [hkeys, List.getElem?_map] at e3
    cases e4 : ks[j]? with
    | none => rw [e4] at e3; cases e3
    | some y =>
      rw [e4] at e3
      have e5 : Sum.inl y = k := Option.some.inj e3
      subst e5
      rcases keyIs_shape (show keyIs (Sum.inl y) v = true from e2) with ⟨i, t, ek, ev⟩ | ⟨z, t, ek, ev⟩
      · cases ek
        exact ⟨y, t, rfl, ev⟩
      · cases ek
  have I1 : Inv X pins σ H { s with heap := h', toks := tk } := I.kept hk
  have hsz : acc.toList.length ≤ sizeLine := by rw [hal, ← hl]; exact h16
  refine wpAny_bind (wpAny_newList ?_ hsz)
  have hoL : (h'.push (seqObj "list" acc.toList.toArray 0)).get? h'.objs.size = some (seqObj "list" acc.toList.toArray 0) := Heap.get?_push_size _ rfl
  show wpAny _ _ _ _ _ { s with heap := h'.push (seqObj "list" acc.toList.toArray 0), toks := tk }
  refine wpAny_bind (wpAny_holding (wpAny_call_entry PyProof.Rows.slot_list_sort ⟨_, hoL, rfl⟩ PyProof.Rows.entry_list_sort
    (SrtO.list_sort_ord SrtO.swo_int hoL hsz (fun h2 => SrtO.ints_sortable hS h2) fun out g1 g2 => ⟨_, rfl, ?_⟩) (PyProof.Rows.args_list_sort _)))
  obtain ⟨k1, k2, k3⟩ := SrtO.ints_out hS g1 g2
  obtain ⟨e', he'⟩ := PyProof.Rows.sortedHeap_at (vs := acc.toList) (out := out.toArray) hoL
  have hlen : ((out.map SrtO.iv).map V.int).length ≤ sizeLine := by
    rw [List.length_map, k2.length_eq, ← hl]
    exact h16
  refine wpAny_pure ⟨_, rfl, .ref h'.objs.size, upd H h'.objs.size (.lst ((out.map SrtO.iv).map V.int)), I1.laid (t' := tk) (fun b u e => ?_) (Nat.le_refl _)
    (show ObjOk X.prog X.w _ _ _ (.lst ((out.map SrtO.iv).map V.int)) from ⟨hlen, out, e', vals_of_ints k1, he'⟩), rfl, q _ _ k2 k3 (I1.hok.fresh (Nat.le_refl _))⟩
  have hb : b < h'.objs.size := Heap.lt_size e
  rw [PyProof.Rows.sortedHeap_old (Nat.ne_of_lt hb) (by rw [size_push']; exact Nat.lt_succ_of_lt hb)]
  exact Heap.get?_push_of_some _ e
def rSortDict : List V → Hp → VK → Prop := fun xs H Q => ∃ (a : Addr) (kvs : List (L2.Key × V)) (ks : List Int), xs = [.ref a] ∧ H a = some (.dK kvs) ∧ kvs.map (·.1) = ks.map Sum.inl ∧
  ∀ (ys : List Int) (q : Addr), ys.Perm ks → ys.Pairwise (· ≤ ·) → H q = none → Q (.ref q) (upd H q (.lst (ys.map V.int)))
theorem cr_sortedDict (hcalm : X.calm = true) : CallR X (.builtin "sorted") rSortDict := by
  intro pins s σ H xs us Q I r q
  obtain ⟨a, kvs, ks, ex, hd, hks, q⟩ := q
  subst ex
  obtain ⟨u, eu, rx⟩ := vals1 r
  subst eu
  cases rx
  obtain ⟨z, lo, vs, rel, dd⟩ := dk_of I.hok hd
  obtain ⟨ep, hat⟩ := dd.dictAt
  have hkeys : vs.map (·.1) = ks.map Sum.inl := rel.keys.symm.trans hks
  exact sort_ints hcalm I (PySem.W.kdl_dict (knd := mixKind X.prog X.w) (kvs := vs) (ep := ep) lo) hat hkeys (by rw [← Paired.length rel]; exact z) q
/-! ### keys that are pairs -/
theorem meets_keys_raw (d : Addr) (hd : (d == sysModules) = false) :
    MeetsIn X.prog X.w (Builtin.«dict.keys» ⟨[.ref d], []⟩) (fun _ R s => s.TypeIs (.ref d) "dict" ∧ R (.ok (.ret (.ref s.heap.objs.size))) { s with heap := s.heap.push { cls := .type "dict_keys", data := .fields #[.ref d] } }) :=
  .of_wp fun A R s ⟨hT, h⟩ => by
    refine wpAny_bind ?_
    unfold Builtin.Dict.noArgs
    refine wpAny_bind (wpAny_notOrdered_dict hT ?_)
    show wpAny _ _ (pure d) _ _ s
    refine wpAny_pure ?_
    show wpAny _ _ (Builtin.Dict.showsAll d >>= _) _ _ s
    unfold Builtin.Dict.showsAll
    rw [if_neg (by rw [hd]; exact Bool.false_ne_true)]
    exact wpAny_bind (wpAny_pure (wpAny_bind (wpAny_newObj_type (wpAny_pure ⟨_, rfl, h⟩))))
def rKeysTT : V → List V → Hp → VK → Prop := fun x xs H Q => ∃ (a : Addr) (kvs : List (List L2.Key × V)), x = .ref a ∧ xs = [] ∧ H a = some (.dT kvs) ∧ ∀ p, H p = none → Q (.ref p) (upd H p (keysO p a))
theorem mt_keysTT : MtR X "dict.keys" rKeysTT := by
  intro pins s σ H x xs v us Q I rx rxs h
  obtain ⟨a, kvs, rfl, rfl, ha, q⟩ := h
  cases rx
  cases rxs
  obtain ⟨z, hs, ks, pr, o, es, ep, ho, hx, hdt, he, hn⟩ := (show ObjOk X.prog X.w H s.heap a (.dT kvs) from I.hok a _ ha)
  have hT : s.TypeIs (.ref a) "dict" := ⟨o, ho, hx.1⟩
  have hf : H s.heap.objs.size = none := I.hok.fresh (Nat.le_refl _)
  refine call_meetsIn PySem.F.slot_dict_keys hT PySem.F.entry_dict_keys (PySem.F.args_dict_keys_1 _) (meets_keys_raw a hs) ⟨hT, ?_⟩
  exact ⟨.ref s.heap.objs.size, upd H s.heap.objs.size (keysO s.heap.objs.size a), I.laid (t' := s.toks) (fun b u e => Heap.get?_push_of_some _ e) (Nat.le_refl _) (keysO_ok (Heap.get?_push_size _ rfl)), rfl, q _ hf⟩
theorem iter_view {A : Around} {E : Value → Shared → Prop} {s : Shared} {v d : Addr} {o : Obj} {es : Array DictEntry} {ep : Nat} {Q : Value → Shared → Prop} (hv : PySem.W.KdlKeysView s.heap v d) (ho : s.heap.get? d = some o) (hdat : o.data = .dict es ep)
    (hQ : Q (.ref s.heap.objs.size) { s with heap := s.heap.push { cls := .type "dict_keyiterator", data := .fields #[.ref d, .int 0 0, .int es.size 0, .int ep 0] } }) :
    wpAny (model X.prog X.w) A (pyIter (.ref v)) Q E s := by
  obtain ⟨ov, hov, hcv, hdv⟩ := id hv
  refine wpAny_pyIter_slot hv.typeIs PySem.W.kdl_slot_keys_iter (wpAny_call_entry PySem.W.kdl_slot_keys_iter hv.typeIs PySem.W.kdl_entry_keys_iter ?_ (PySem.W.kdl_args_keys_iter _))
  unfold Builtin.«dict_keys.__iter__»
  refine wpAny_bind (wpAny_pure (wpAny_bind ?_))
  unfold Builtin.Dict_items.dictOf
  refine wpAny_bind (wpAny_field hov hdv (x := .ref d) rfl (wpAny_pure (wpAny_bind ?_)))
  unfold Builtin.Dict_items.newIterator
  refine wpAny_bind (wpAny_dictEntries ho hdat (wpAny_bind (wpAny_dictEpoch ho hdat ?_)))
  have hown : Builtin.Dict_items.ownsTuple "dict_keyiterator" = false := by decide
  simp only [hown, Bool.false_eq_true, if_false]
  refine wpAny_newObj_type (wpAny_pure ⟨_, rfl, "dict_keyiterator", _, ⟨_, Heap.get?_push_size _ rfl, rfl⟩, PySem.F.slot_dict_keyiterator_next.lookup, ?_⟩)
  simpa [rawInt] using hQ
theorem src_view {v d : Addr} {o : Obj} {es : Array DictEntry} {ep : Nat} (hx : o.ExactDict) (hd : o.data = .dict es ep) :
    PySem.W.KdlSrc X.prog X.w "dict_keys" v d es.size (fun i v => ∃ en : DictEntry, es[i]? = some en ∧ v = en.key) (fun h => PySem.W.KdlKeysView h v d ∧ h.get? d = some o) where
  type := fun _ hm => hm.1.typeIs
  there := fun _ hm => ⟨let ⟨_, ho, _⟩ := hm.1; Heap.lt_size ho, Heap.lt_size hm.2⟩
  keep := fun _ _ hm hk => ⟨let ⟨o, ho, x⟩ := hm.1; ⟨o, hk v (.inl rfl) o ho, x⟩, hk d (.inr rfl) _ hm.2⟩
  notList := by decide
  notTuple := by decide
  hint := fun _ _ _ _ hm hq => PySem.W.kdl_hint_keys hm.1.typeIs hq
  iter := fun _ s hh hm => ⟨_, _, (fun _ _ hq => iter_view hm.1 hm.2 hd hq), walks_raw hh _ d (Nat.ne_of_lt (Heap.lt_size hm.2)) hd, ⟨⟨_, Heap.get?_push_size _ rfl, rfl, rfl⟩, Heap.get?_push_of_some _ hm.2⟩⟩
/-- the pair that a tuple is -/
def kH (H : Hp) : V → Int × Int
  | .ref b => (match H b with
    | some (.tup [.int x, .int y]) => (x, y)
    | _ => (0, 0))
  | _ => (0, 0)
theorem kH_tup {H : Hp} {b : Addr} {x y : Int} (h : H b = some (.tup [.int x, .int y])) : kH H (.ref b) = (x, y) := by
  unfold kH
  simp only [h]
def rSortKeysTT : List V → Hp → VK → Prop := fun xs H Q => ∃ (p a : Addr) (kvs : List (List L2.Key × V)) (ps : List (Int × Int)), xs = [.ref p] ∧ H p = some (keysO p a) ∧ H a = some (.dT kvs) ∧ kvs.map (·.1) = ps.map (fun q => [Sum.inl q.1, Sum.inl q.2]) ∧
  ∀ (ys : List V) (q : Addr), (∀ y ∈ ys, ∃ b x z, y = .ref b ∧ H b = some (.tup [.int x, .int z])) → (ys.map (kH H)).Perm ps → (ys.map (kH H)).Pairwise (fun u v => SrtO.lexB v u = false) → H q = none → Q (.ref q) (upd H q (.lst ys))
theorem cr_sortedKeysTT (hcalm : X.calm = true) : CallR X (.builtin "sorted") rSortKeysTT := by
  intro pins s σ H xs us Q I r q
  obtain ⟨p, a, kvs, ps, ex, hp, hd, hks, q⟩ := q
  subst ex
  obtain ⟨u, eu, rx⟩ := vals1 r
  subst eu
  cases rx
  obtain ⟨z, hs, ks, pr, o, es, ep, ho, hx, hdt, he, hn⟩ := (show ObjOk X.prog X.w H s.heap a (.dT kvs) from I.hok a _ hd)
  have view : PySem.W.KdlKeysView s.heap p a := (show ObjOk X.prog X.w H s.heap p (keysO p a) from I.hok p _ hp).1
  have l1 : es.size = ks.length := size_of_entries he
  have l2 : kvs.length = ks.length := Paired.length pr
  -- the keys' tuples
  have tupK : ∀ {l : List (List Key × V)} {m : List (List Key × Addr × Value)} {ps : List (Int × Int)}, KT H l m → l.map (·.1) = ps.map (fun q => [Sum.inl q.1, Sum.inl q.2]) →
      (∀ x ∈ m, ∃ i j, H x.2.1 = some (.tup [.int i, .int j])) ∧ (m.map fun x => kH H (.ref x.2.1)) = ps := by
    intro l m ps h
    induction h generalizing ps with
    | nil =>
      intro e
      cases ps with
      | nil => exact ⟨(fun x hx => nomatch hx), rfl⟩
      | cons _ _ => cases e
    | @cons x y l m hq t ih =>
      intro e
      cases ps with
      | nil => cases e
      | cons q ps =>
        rw [List.map_cons, List.map_cons] at e
        obtain ⟨e1, e2⟩ := List.cons.inj e
        obtain ⟨i1, i2⟩ := ih e2
        have hb : H y.2.1 = some (.tup [.int q.1, .int q.2]) := by
          have := hq.2.1
          rw [e1] at this
          exact this
        refine ⟨fun w hw => ?_, ?_⟩
        · rcases List.mem_cons.mp hw with rfl | hw
          · exact ⟨_, _, hb⟩
          · exact i1 w hw
        · rw [List.map_cons, i2, kH_tup hb]
  obtain ⟨tk1, tk2⟩ := tupK pr hks
  refine Calls.call_function_entry PyProof.Rows.kind_sorted PyProof.Rows.plain_sorted PyProof.Rows.entry_sorted (PyProof.Rows.args_sorted1 _) ?_
  unfold Builtin.«sorted»
  refine wpAny_bind (m := checkCount "sorted" 1 1 _) (wpAny_pure ?_)
  refine wpAny_bind (PySem.W.kdu_collect (A := X.A.in1) (src_view (X := X) (v := p) hx hdt) (I.ok.hd hcalm) ⟨view, ho⟩ (by omega) fun h' tk acc hk it => ?_)
  have ea : acc.toList = ks.map fun x => Value.ref x.2.1 := by
    have hl : acc.toList.length = ks.length := by rw [Array.length_toList, it.1]; exact l1
    apply List.ext_getElem?
    intro j
    rw [List.getElem?_map]
    cases hj : acc.toList[j]? with
    | none =>
      have h1 := List.getElem?_eq_none_iff.mp hj
      rw [List.getElem?_eq_none (by omega)]
      rfl
    | some v =>
      obtain ⟨en, hen, hv⟩ := it.2 j v (by rw [← Array.getElem?_toList]; exact hj)
      have qe := entry_at he j
      rw [hen] at qe
      cases hb : ks[j]? with
      | none =>
        rw [hb] at qe
        exact nomatch (show some en = none from qe)
      | some b =>
        rw [hb] at qe
        have e2 : en = entryOfKey (tupleKind (mixKind X.prog X.w)) b := Option.some.inj qe
        rw [hv, e2]
        rfl
  have I1 : Inv X pins σ H { s with heap := h', toks := tk } := I.kept hk
  have hsz : acc.toList.length ≤ sizeLine := by rw [ea, List.length_map]; omega
  have ref : ∀ u ∈ acc.toList, ∃ b i j, u = Value.ref b ∧ H b = some (.tup [.int i, .int j]) := fun u hu => by
    rw [ea] at hu
    obtain ⟨x, hx, rfl⟩ := List.mem_map.mp hu
    obtain ⟨i, j, e⟩ := tk1 x hx
    exact ⟨_, i, j, rfl, e⟩
  refine wpAny_bind (wpAny_newList ?_ hsz)
  have hoL : (h'.push (seqObj "list" acc.toList.toArray 0)).get? h'.objs.size = some (seqObj "list" acc.toList.toArray 0) := Heap.get?_push_size _ rfl
  show wpAny _ _ _ _ _ { s with heap := h'.push (seqObj "list" acc.toList.toArray 0), toks := tk }
  have hpair : ∀ v ∈ acc.toList, Srt.IsPair (h'.push (seqObj "list" acc.toList.toArray 0)) v (kH H (backV v)).1 (kH H (backV v)).2 := fun v hv => by
    obtain ⟨b, i, j, rfl, hb⟩ := ref v hv
    rw [show backV (.ref b) = V.ref b from rfl, kH_tup hb]
    obtain ⟨_, its2, r2, o, ho, hc, n, hd⟩ := (show ObjOk X.prog X.w H h' b (.tup [.int i, .int j]) from I1.hok b _ hb)
    obtain ⟨u1, u2, rfl, ri, rj⟩ := vals2 r2
    obtain ⟨t1, rfl⟩ := ri
    obtain ⟨t2, rfl⟩ := rj
    exact ⟨b, o, t1, t2, n, rfl, Heap.get?_push_of_some _ ho, hc, hd⟩
  refine wpAny_bind (wpAny_holding (wpAny_call_entry PyProof.Rows.slot_list_sort ⟨_, hoL, rfl⟩ PyProof.Rows.entry_list_sort
    (SrtO.list_sort_ord (SrtO.swo_lex fun u => kH H (backV u)) hoL hsz (fun h2 => SrtO.pairs_sortableO (by omega) hpair fun o e => ?_) fun out g1 g2 => ⟨_, rfl, ?_⟩) (PyProof.Rows.args_list_sort _)))
  · have e' : some o = some (seqObj "list" acc.toList.toArray 0) := e.symm.trans hoL
    cases e'
    intro c
    exact absurd (Value.type.inj c) (by decide)
  · have h3 : ∀ u ∈ out, ∃ b i j, u = Value.ref b ∧ H b = some (.tup [.int i, .int j]) := fun u hu => ref u (g2.perm.mem_iff.mp hu)
    obtain ⟨e', he'⟩ := PyProof.Rows.sortedHeap_at (vs := acc.toList) (out := out.toArray) hoL
    have hlen : (out.map backV).length ≤ sizeLine := by
      rw [List.length_map, g2.perm.length_eq]
      exact hsz
    refine wpAny_pure ⟨_, rfl, .ref h'.objs.size, upd H h'.objs.size (.lst (out.map backV)), I1.laid (t' := tk) (fun b u e => ?_) (Nat.le_refl _)
      (show ObjOk X.prog X.w _ _ _ (.lst (out.map backV)) from ⟨hlen, out, e', vals_back fun u hu => let ⟨b, _, _, e, _⟩ := h3 u hu; ⟨b, e⟩, he'⟩), rfl, q _ _ (fun y hy => ?_) ?_ ?_ (I1.hok.fresh (Nat.le_refl _))⟩
    · have hb : b < h'.objs.size := Heap.lt_size e
      rw [PyProof.Rows.sortedHeap_old (Nat.ne_of_lt hb) (by rw [size_push']; exact Nat.lt_succ_of_lt hb)]
      exact Heap.get?_push_of_some _ e
    · obtain ⟨u, hu, rfl⟩ := List.mem_map.mp hy
      obtain ⟨b, i, j, rfl, hb⟩ := h3 u hu
      exact ⟨b, i, j, rfl, hb⟩
    · have p1 := (g2.perm.map backV).map (kH H)
      have e2 : (acc.toList.map backV).map (kH H) = ps := by
        rw [ea, List.map_map, List.map_map]
        exact tk2
      rw [e2] at p1
      exact p1
    · rw [List.map_map]
      exact List.pairwise_map.mpr g1
end
end Lr

set_option Elab.async false
set_option linter.all false
set_option maxRecDepth 100000
set_option maxHeartbeats 1000000
/-! SndD: built-in functions, types, methods; isinstance. -/
namespace Lr
open PySem PySem.Spec PyProof.Rows L2
/-! ### least, greatest, in order -/
theorem minL_mem : ∀ (n : Int) (ns : List Int), minL (n :: ns) ∈ n :: ns
  | n, [] => List.mem_cons_self
  | n, m :: ns => by
    have ih := minL_mem m ns
    show min n (minL (m :: ns)) ∈ n :: m :: ns
    rcases Int.le_total n (minL (m :: ns)) with h | h
    · rw [Int.min_eq_left h]; exact List.mem_cons_self
    · rw [Int.min_eq_right h]; exact List.mem_cons_of_mem _ ih
theorem minL_le : ∀ (n : Int) (ns : List Int), ∀ y ∈ n :: ns, minL (n :: ns) ≤ y
  | n, [], y, h => by
    rcases List.mem_cons.mp h with h | h
    · subst h; exact Int.le_refl _
    · cases h
  | n, m :: ns, y, h => by
    have ih := minL_le m ns
    show min n (minL (m :: ns)) ≤ y
    rcases List.mem_cons.mp h with h | h
    · subst h; exact Int.min_le_left _ _
    · exact Int.le_trans (Int.min_le_right _ _) (ih y h)
theorem maxL_mem : ∀ (n : Int) (ns : List Int), maxL (n :: ns) ∈ n :: ns
  | n, [] => List.mem_cons_self
  | n, m :: ns => by
    have ih := maxL_mem m ns
    show max n (maxL (m :: ns)) ∈ n :: m :: ns
    rcases Int.le_total n (maxL (m :: ns)) with h | h
    · rw [Int.max_eq_right h]; exact List.mem_cons_of_mem _ ih
    · rw [Int.max_eq_left h]; exact List.mem_cons_self
theorem maxL_le : ∀ (n : Int) (ns : List Int), ∀ y ∈ n :: ns, y ≤ maxL (n :: ns)
  | n, [], y, h => by
    rcases List.mem_cons.mp h with h | h
    · subst h; exact Int.le_refl _
    · cases h
  | n, m :: ns, y, h => by
    have ih := maxL_le m ns
    show y ≤ max n (maxL (m :: ns))
    rcases List.mem_cons.mp h with h | h
    · subst h; exact Int.le_max_left _ _
    · exact Int.le_trans (ih y h) (Int.le_max_right _ _)
theorem insI_perm (a : Int) : ∀ ns : List Int, (insI a ns).Perm (a :: ns)
  | [] => .refl _
  | b :: r => by
    unfold insI
    split
    · exact .refl _
    · exact ((insI_perm a r).cons b).trans (.swap a b r)
theorem isort_perm : ∀ ns : List Int, (isort ns).Perm ns
  | [] => .refl _
  | a :: r => (insI_perm a (isort r)).trans ((isort_perm r).cons a)
theorem insI_sorted (a : Int) : ∀ ns : List Int, ns.Pairwise (· ≤ ·) → (insI a ns).Pairwise (· ≤ ·)
  | [], _ => List.pairwise_singleton _ _
  | b :: r, h => by
    have h' := List.pairwise_cons.mp h
    unfold insI
    split
    · rename_i hab
      refine List.pairwise_cons.mpr ⟨fun y hy => ?_, h⟩
      rcases List.mem_cons.mp hy with e | e
      · rw [e]; exact hab
      · exact Int.le_trans hab (h'.1 y e)
    · rename_i hab
      refine List.pairwise_cons.mpr ⟨fun y hy => ?_, insI_sorted a r h'.2⟩
      rcases List.mem_cons.mp ((insI_perm a r).mem_iff.mp hy) with e | e
      · rw [e]; omega
      · exact h'.1 y e
theorem isort_sorted : ∀ ns : List Int, (isort ns).Pairwise (· ≤ ·)
  | [] => .nil
  | a :: r => insI_sorted a _ (isort_sorted r)
theorem isort_only {ns ms : List Int} (h : ms.Perm ns) (s : ms.Pairwise (· ≤ ·)) : ms = isort ns :=
  PySem.W.ksm_same (h.trans (isort_perm ns).symm) s (isort_sorted ns)

section
variable {X : Cx} {g : Gx}
/-- arguments and what they stand for -/
abbrev VRepL (g : Gx) (H F : Hp) : List V → List Val → Prop := Paired (VRep g H F)
def rC (g : Gx) (f : List Val → R Val) : List V → Hp → VK → Prop := fun xs H Q => ∃ F us, Same F H ∧ VRepL g H F xs us ∧ postE g (f us) H F Q
theorem VRep.data1 {F H : Hp} {v : V} {x : Val} {ts : List T} (s : Same F H) (r : VRep g H F v x) (e : x.seq? = some ts) {K : PySem.W.Frag} : ∃ a vs, v = .ref a ∧ (SqL K H a vs ∨ SqT K H a vs) ∧ RepL g F vs ts := by
  obtain ⟨a, vs, e, h, l⟩ := r.seq s e
  refine ⟨a, vs, e, ?_, l⟩
  rcases h with h | h
  · exact .inl (.inl h)
  · exact .inr (.inl (.inl h))
theorem intsL {F H : Hp} {v : V} {x : Val} {ns : List Int} {K : PySem.W.Frag} (s : Same F H) (r : VRep g H F v x) (e : x.lst?.bind ints? = some ns) : ∃ a, v = .ref a ∧ SqL K H a (ns.map V.int) := by
  obtain ⟨ts, h1, h2⟩ := Option.bind_eq_some_iff.mp e
  obtain ⟨a, vs, rfl, h, l⟩ := r.lst s h1
  have z := l.ints h2
  subst z
  exact ⟨a, rfl, .inl h⟩
theorem blsL {F H : Hp} {v : V} {x : Val} {ns : List Bool} {K : PySem.W.Frag} (s : Same F H) (r : VRep g H F v x) (e : x.lst?.bind bls? = some ns) : ∃ a, v = .ref a ∧ SqL K H a (ns.map V.bl) := by
  obtain ⟨ts, h1, h2⟩ := Option.bind_eq_some_iff.mp e
  obtain ⟨a, vs, rfl, h, l⟩ := r.lst s h1
  have z := l.bls h2
  subst z
  exact ⟨a, rfl, .inl h⟩
theorem strsL {F H : Hp} {v : V} {x : Val} {ns : List Str} {K : PySem.W.Frag} (s : Same F H) (r : VRep g H F v x) (e : x.lst?.bind strs? = some ns) : ∃ a, v = .ref a ∧ SqL K H a (ns.map V.str) := by
  obtain ⟨ts, h1, h2⟩ := Option.bind_eq_some_iff.mp e
  obtain ⟨a, vs, rfl, h, l⟩ := r.lst s h1
  have z := l.strs h2
  subst z
  exact ⟨a, rfl, .inl h⟩
theorem bi_len : CallR X (.builtin "len") (rC g lenF) := by
  intro pins s σ H xs us Q I r h
  obtain ⟨F, ws, sF, rw', hp⟩ := h
  unfold lenF at hp
  split at hp
  · cases rw' with
    | cons ra rn =>
      cases rn
      cases ra
      split at hp
      · rename_i hf
        exact call_len pins s σ H _ us Q I r ⟨_, _, rfl, ⟨of_decide_eq_true hf, rfl⟩, hp.now sF (.int _)⟩
      · exact hp.elim
  · cases rw' with
    | cons ra rn =>
      cases rn
      obtain ⟨a, xs, rfl, h1, l1⟩ := ra
      refine call_lenD pins s σ H _ us Q I r ⟨a, xs, rfl, h1, ?_⟩
      rw [Paired.length l1]
      exact hp.now sF (.int _)
  · cases rw' with
    | cons ra rn =>
      cases rn
      obtain ⟨a, xs, rfl, h1, l1⟩ := ra
      refine call_len_dT pins s σ H _ us Q I r ⟨a, xs, rfl, h1, ?_⟩
      rw [Paired.length l1]
      exact hp.now sF (.int _)
  · cases rw' with
    | cons ra rn =>
      cases rn
      split at hp
      · rename_i ts e
        obtain ⟨a, vs, rfl, hq, l⟩ := ra.data1 (K := X.K) sF e
        rw [← l.length] at hp
        exact call_len_seq pins s σ H _ us Q I r ⟨a, vs, rfl, hq, hp.now sF (.int _)⟩
      · exact hp.elim
  · exact hp.elim
theorem bi_abs : CallR X (.builtin "abs") (rC g absF) := by
  intro pins s σ H xs us Q I r h
  obtain ⟨F, ws, sF, rw', hp⟩ := h
  unfold absF at hp
  split at hp
  · cases rw' with
    | cons ra rn =>
      cases rn
      cases ra
      exact call_abs pins s σ H _ us Q I r ⟨_, rfl, hp.now sF (.int _)⟩
  · exact hp.elim
theorem bi_min (hc : X.calm = true) : CallR X (.builtin "min") (rC g minF) := by
  intro pins s σ H xs us Q I r h
  obtain ⟨F, ws, sF, rw', hp⟩ := h
  unfold minF at hp
  split at hp
  · cases rw' with
    | cons ra rn =>
      cases rn with
      | cons rb rn =>
        cases rn
        cases ra
        cases rb
        exact call_min2 hc pins s σ H _ us Q I r ⟨_, _, rfl, hp.now sF (.int _)⟩
  · cases rw' with
    | cons ra rn =>
      cases rn
      split at hp
      · rename_i n ns e
        obtain ⟨a, rfl, hq⟩ := intsL (K := X.K) sF ra e
        refine cr_min hc pins s σ H _ us Q I r ⟨a, _, rfl, hq, by simp, fun m hm hle => ?_⟩
        have z : m = minL (n :: ns) := Int.le_antisymm (hle _ (minL_mem n ns)) (minL_le n ns m hm)
        rw [z]
        exact hp.now sF (.int _)
      · exact hp.elim
  · exact hp.elim
theorem bi_max (hc : X.calm = true) : CallR X (.builtin "max") (rC g maxF) := by
  intro pins s σ H xs us Q I r h
  obtain ⟨F, ws, sF, rw', hp⟩ := h
  unfold maxF at hp
  split at hp
  · cases rw' with
    | cons ra rn =>
      cases rn with
      | cons rb rn =>
        cases rn
        cases ra
        cases rb
        exact call_max2 hc pins s σ H _ us Q I r ⟨_, _, rfl, hp.now sF (.int _)⟩
  · cases rw' with
    | cons ra rn =>
      cases rn
      split at hp
      · rename_i n ns e
        obtain ⟨a, rfl, hq⟩ := intsL (K := X.K) sF ra e
        refine cr_max hc pins s σ H _ us Q I r ⟨a, _, rfl, hq, by simp, fun m hm hle => ?_⟩
        have z : m = maxL (n :: ns) := Int.le_antisymm (maxL_le n ns m hm) (hle _ (maxL_mem n ns))
        rw [z]
        exact hp.now sF (.int _)
      · exact hp.elim
  · exact hp.elim
theorem bi_sum (hc : X.calm = true) : CallR X (.builtin "sum") (rC g sumF) := by
  intro pins s σ H xs us Q I r h
  obtain ⟨F, ws, sF, rw', hp⟩ := h
  unfold sumF at hp
  split at hp
  · cases rw' with
    | cons ra rn =>
      cases rn
      split at hp
      · rename_i ns e
        obtain ⟨a, rfl, hq⟩ := intsL (K := X.K) sF ra e
        exact cr_sum hc pins s σ H _ us Q I r ⟨a, _, rfl, hq, hp.now sF (.int _)⟩
      · exact hp.elim
  · exact hp.elim
theorem bi_any (hc : X.calm = true) : CallR X (.builtin "any") (rC g anyF) := by
  intro pins s σ H xs us Q I r h
  obtain ⟨F, ws, sF, rw', hp⟩ := h
  unfold anyF at hp
  split at hp
  · cases rw' with
    | cons ra rn =>
      cases rn
      split at hp
      · rename_i ns e
        obtain ⟨a, rfl, hq⟩ := blsL (K := X.K) sF ra e
        exact cr_any hc pins s σ H _ us Q I r ⟨a, _, rfl, hq, hp.now sF (.bl _)⟩
      · exact hp.elim
  · exact hp.elim
theorem bi_all (hc : X.calm = true) : CallR X (.builtin "all") (rC g allF) := by
  intro pins s σ H xs us Q I r h
  obtain ⟨F, ws, sF, rw', hp⟩ := h
  unfold allF at hp
  split at hp
  · cases rw' with
    | cons ra rn =>
      cases rn
      split at hp
      · rename_i ns e
        obtain ⟨a, rfl, hq⟩ := blsL (K := X.K) sF ra e
        exact cr_all hc pins s σ H _ us Q I r ⟨a, _, rfl, hq, hp.now sF (.bl _)⟩
      · exact hp.elim
  · exact hp.elim
theorem kInts_ok : ∀ {kvs : List (Key × T)} {ns : List Int}, kInts kvs = some ns → kvs.map (·.1) = ns.map Sum.inl
  | [], ns, h => by cases h; rfl
  | (.inl i, t) :: kvs, ns, h => by
    simp only [kInts] at h
    obtain ⟨ms, h1, rfl⟩ := Option.map_eq_some_iff.mp h
    rw [List.map_cons, kInts_ok h1]
    rfl
  | (.inr z, t) :: kvs, ns, h => by simp only [kInts] at h; cases h
theorem repK_keys0 {F : Hp} {κ : Type} : ∀ {xs : List (κ × V)} {ts : List (κ × T)}, RepK g F xs ts → xs.map (·.1) = ts.map (·.1)
  | [], [], _ => rfl
  | [], _ :: _, h => nomatch h
  | _ :: _, [], h => nomatch h
  | x :: xs, t :: ts, h => by
    cases h with
    | cons a b => rw [List.map_cons, List.map_cons, a.1, repK_keys0 b]
theorem bi_sorted (hc : X.calm = true) : CallR X (.builtin "sorted") (rC g sortF) := by
  intro pins s σ H xs us Q I r h
  obtain ⟨F, ws, sF, rw', hp⟩ := h
  unfold sortF at hp
  split at hp
  · cases rw' with
    | cons ra rn =>
      cases rn
      split at hp
      · rename_i ns e
        obtain ⟨a, xs, rfl, ha, rk⟩ := ra
        refine cr_sortedDict hc pins s σ H _ us Q I r ⟨a, xs, ns, rfl, ha, (repK_keys0 rk).trans (kInts_ok e), fun ns' p hpm hso hf => ?_⟩
        rw [isort_only hpm hso]
        exact hp.newL sF .ofInts p hf
      · exact hp.elim
  · cases rw' with
    | cons ra rn =>
      cases rn
      split at hp
      · rename_i ns e
        obtain ⟨a, rfl, hq⟩ := intsL (K := X.K) sF ra e
        refine cr_sortedI pins s σ H _ us Q I r ⟨a, _, rfl, hq, fun ns' p hpm hso hf => ?_⟩
        rw [isort_only hpm hso]
        exact hp.newL sF .ofInts p hf
      · exact hp.elim
  · exact hp.elim
theorem bi_dm : CallR X (.builtin "divmod") (rC g dmF) := by
  intro pins s σ H xs us Q I r h
  obtain ⟨F, ws, sF, rw', hp⟩ := h
  unfold dmF at hp
  split at hp
  · cases rw' with
    | cons ra rn =>
      cases rn with
      | cons rb rn =>
        cases rn
        cases ra
        cases rb
        split at hp
        · rename_i hf
          unfold divOk at hf
          simp only [Bool.and_eq_true, decide_eq_true_eq] at hf
          exact call_divmodW pins s σ H _ us Q I r ⟨_, _, rfl, ⟨hf.1, PyProof.noPylong_of_log2 hf.2⟩, hp.newT sF (.cons (.int _) (.one (.int _)))⟩
        · exact hp.elim
  · exact hp.elim
/-! ### types -/
theorem ty_int : CallR X (.type "int") (rC g intF) := by
  intro pins s σ H xs us Q I r h
  obtain ⟨F, ws, sF, rw', hp⟩ := h
  unfold intF at hp
  split at hp
  · cases rw' with
    | cons ra rn =>
      cases rn
      cases ra
      exact call_int1 pins s σ H _ us Q I r (.inl ⟨_, rfl, hp.now sF (.int _)⟩)
  · cases rw' with
    | cons ra rn =>
      cases rn
      cases ra
      exact call_int1 pins s σ H _ us Q I r (.inr ⟨_, rfl, hp.now sF (.int _)⟩)
  · cases rw' with
    | cons ra rn =>
      cases rn
      cases ra
      split at hp
      · rename_i hf
        split at hp
        · rename_i n e
          exact call_int_str pins s σ H _ us Q I r ⟨_, _, rfl, e, of_decide_eq_true hf, hp.now sF (.int _)⟩
        · exact hp.elim
      · exact hp.elim
  · exact hp.elim
theorem ty_str : CallR X (.type "str") (rC g strF) := by
  intro pins s σ H xs us Q I r h
  obtain ⟨F, ws, sF, rw', hp⟩ := h
  unfold strF at hp
  split at hp
  · cases rw' with
    | cons ra rn =>
      cases rn
      cases ra
      split at hp
      · rename_i hf
        exact call_str_int pins s σ H _ us Q I r ⟨_, rfl, of_decide_eq_true hf, hp.now sF (.str _)⟩
      · exact hp.elim
  · exact hp.elim
theorem ty_list : CallR X (.type "list") (rC g listF) := by
  intro pins s σ H xs us Q I r h
  obtain ⟨F, ws, sF, rw', hp⟩ := h
  unfold listF at hp
  split at hp
  · cases rw' with
    | cons ra rn =>
      cases rn
      split at hp
      · rename_i ts e
        obtain ⟨a, vs, rfl, hq, l⟩ := ra.data1 (K := X.K) sF e
        exact call_list_of pins s σ H _ us Q I r ⟨a, vs, rfl, hq, hp.newL sF l⟩
      · exact hp.elim
  · exact hp.elim
theorem VRep.seqT {F H : Hp} {v : V} {x : Val} {ts : List T} (s : Same F H) (r : VRep g H F v x) (e : x.seq? = some ts) : ∃ a vs, v = .ref a ∧ (Rd H a (.lst vs) ∨ F a = some (.tup vs)) ∧ RepL g F vs ts := by
  cases x with
  | v t => cases t with
    | lst us =>
      simp only [Val.seq?, Option.some.injEq] at e; subst e
      cases r with
      | lst h l => exact ⟨_, _, rfl, .inl (Same.rd s h), l⟩
    | tup us =>
      simp only [Val.seq?, Option.some.injEq] at e; subst e
      cases r with
      | tup h l => exact ⟨_, _, rfl, .inr h, l⟩
    | _ => simp only [Val.seq?] at e; cases e
  | l nw us =>
    simp only [Val.seq?, Option.some.injEq] at e; subst e
    obtain ⟨a, vs, e, h, l⟩ := r
    exact ⟨a, vs, e, .inl (.inl h), l⟩
  | _ => simp only [Val.seq?] at e; cases e
theorem ty_tuple : CallR X (.type "tuple") (rC g tupF) := by
  intro pins s σ H xs us Q I r h
  obtain ⟨F, ws, sF, rw', hp⟩ := h
  unfold tupF at hp
  split at hp
  · cases rw' with
    | cons ra rn =>
      cases rn
      split at hp
      · rename_i ts e
        obtain ⟨a, vs, rfl, h, l⟩ := ra.seqT sF e
        rcases h with h | h
        · exact call_tuple_of pins s σ H _ us Q I r ⟨_, _, rfl, .inl ⟨.inl h, hp.newT sF l⟩⟩
        · exact call_tuple_of pins s σ H _ us Q I r ⟨_, _, rfl, .inr ⟨.inl (.inl (sF _ _ h)), hp.now sF (.tup h l)⟩⟩
      · exact hp.elim
  · exact hp.elim
/-! ### isinstance -/
def clV (g : Gx) : Cl → Value
  | .ty n => .type n
  | .own c => .ref (g.cls c)
  | .exn c => .ref (g.cls c)
/-- an own class whose instances isinstance may be asked of -/
structure InsOk (K : PySem.W.Frag) (C : Addr) : Prop where
  cl : Cls K C
  ha : PySem.W.findIn K (.ref C) "__class__" = some (some (.builtin "object.__class__"))
  hn : PySem.W.specialIn K (.builtin "object.__class__") "__get__" = some (some (.builtin "getset_descriptor.__get__"))
  ht : PySem.W.takesIn K (.builtin "object.__class__") = some true
  hm : PySem.W.mroIn K C (.type "object") = some true
theorem tyX_ok {F H : Hp} {x : V} {u : Val} {c : Cl} {K : PySem.W.Frag} (s : Same F H) (r : VRep g H F x u) (e : u.cl? = some c) (hi : ∀ n, c = .own n → InsOk K (g.cls n)) (hx : ∀ n, c ≠ .exn n) : TyX K H x (clV g c) := by
  cases u with
  | v t =>
    cases r with
    | non => simp only [Val.cl?, Option.some.injEq] at e; subst e; exact .base .non
    | bl b => simp only [Val.cl?, Option.some.injEq] at e; subst e; exact .base (.bl b)
    | int b => simp only [Val.cl?, Option.some.injEq] at e; subst e; exact .base (.int b)
    | str b => simp only [Val.cl?, Option.some.injEq] at e; subst e; exact .base (.str b)
    | tup h l => simp only [Val.cl?, Option.some.injEq] at e; subst e; exact .base (.tup (s _ _ h))
    | lst h l =>
      simp only [Val.cl?, Option.some.injEq] at e; subst e
      rcases Same.rd s h with z | ⟨o, z⟩
      · exact .base (.lst z)
      · exact .base (.frz z)
    | ins h _ l =>
      simp only [Val.cl?, Option.some.injEq] at e; subst e
      have z := hi _ rfl
      exact .base (.ins (s _ _ h) z.cl z.ha z.hn z.ht z.hm)
    | err h =>
      simp only [Val.cl?, Option.some.injEq] at e; subst e
      exact (hx _ rfl).elim
    | dct _ _ _ => simp only [Val.cl?, reduceCtorEq] at e
  | l nw ts =>
    simp only [Val.cl?, Option.some.injEq] at e; subst e
    obtain ⟨a, vs, rfl, h, _⟩ := r
    exact .base (.lst h)
  | _ => simp only [Val.cl?] at e; cases e
/-- a held exception: behind its clause, or within -/
def HeldE (X : Cx) (H : Hp) (a D : Addr) : Prop := H a = some (ExR (.ref D) none a) ∨ ∃ oe : Obj, (a, oe) ∈ X.pn ∧ L2N.Zn (.ref D) none oe ∧ ∃ vs, oe.data = .fields vs
def rIsEx (X : Cx) : List V → Hp → VK → Prop := fun xs H Q => ∃ (a D : Addr) (c : V) (u : Value) (b : Bool), xs = [.ref a, c] ∧ ClsV c u ∧ ExcC X.K D ∧ HeldE X H a D ∧ PySem.W.kitOne X.K (.ref D) u = some b ∧ Q (.bl b) H
theorem HeldE.at {pins : List (Addr × Obj)} {σ : L2.St} {H : Hp} {s : Shared} {a D : Addr} (h : HeldE X H a D) (I : Inv X pins σ H s) : ∃ oe, PySem.W.InstAt s.heap a oe D none := by
  have fin : ∀ (oe : Obj), s.heap.get? a = some oe → L2N.Zn (.ref D) none oe → (∃ vs, oe.data = .fields vs) → PySem.W.InstAt s.heap a oe D none := fun oe hg hz hv => by
    obtain ⟨vs, hv⟩ := hv
    obtain ⟨oc, od, oda, osl⟩ := oe
    obtain ⟨h1, h2, _⟩ := hz
    dsimp only at h1 h2 hv
    subst h1 h2 hv
    exact ⟨hg, rfl, rfl, trivial⟩
  rcases h with h | ⟨oe, hp, hz, hv⟩
  · obtain ⟨⟨oe, vs, h1, h2, h3⟩, _, _⟩ := (show ObjOk X.prog X.w H s.heap a (ExR (.ref D) none a) from I.hok a _ h)
    exact ⟨oe, fin oe h1 h2 ⟨vs, h3⟩⟩
  · exact ⟨oe, fin oe (I.pin (a, oe) (List.mem_append_left _ hp)).1 hz hv⟩
theorem call_isEx : CallR X (.builtin "isinstance") (rIsEx X) := by
  intro pins s σ H xs us Q I r h
  obtain ⟨a, D, c, u, b, rfl, k, C, hh, e, q⟩ := h
  obtain ⟨u1, u2, rfl, r1, r2⟩ := vals2 r
  have e2 := k.eq r2
  subst e2
  cases r1
  obtain ⟨oe, J⟩ := hh.at I
  exact PySem.W.kia_one (PySem.W.handS_kitx_exc C.hg C.hk C.hs C.hd C.ha C.hn C.ht C.hm) I.kIn J e (fun z => nomatch z) fun tk => ⟨.bl b, H, I.tok tk, rfl, q⟩
def rIsExT (X : Cx) : List V → Hp → VK → Prop := fun xs H Q => ∃ (a D tp : Addr) (cs : List V) (us : List Value) (b : Bool), xs = [.ref a, .ref tp] ∧ H tp = some (.tup cs) ∧ Paired ClsV cs us ∧ ExcC X.K D ∧ HeldE X H a D ∧ PySem.W.kitAny X.K (.ref D) us = some b ∧ Q (.bl b) H
theorem call_isExT : CallR X (.builtin "isinstance") (rIsExT X) := by
  intro pins s σ H xs us Q I r h
  obtain ⟨a, D, tp, cs, ws, b, rfl, hT, k, C, hh, e, q⟩ := h
  obtain ⟨u1, u2, rfl, r1, r2⟩ := vals2 r
  cases (show u2 = Value.ref tp from r2)
  cases r1
  obtain ⟨oe, J⟩ := hh.at I
  obtain ⟨_, its, rv, o, h1, h2, n, h3⟩ := (show ObjOk X.prog X.w H s.heap tp (.tup cs) from I.hok tp _ hT)
  have e3 := ClsV.all k rv
  subst e3
  obtain ⟨oc, od, dt, sl⟩ := o
  simp only at h2 h3
  subst h2 h3
  exact PySem.W.kia_tup (PySem.W.handS_kitx_exc C.hg C.hk C.hs C.hd C.ha C.hn C.ht C.hm) I.kIn J h1 e (fun z => nomatch z) fun tk => ⟨.bl b, H, I.tok tk, rfl, q⟩
theorem CallR.or {f : Value} {R1 R2 : List V → Hp → VK → Prop} (h1 : CallR X f R1) (h2 : CallR X f R2) : CallR X f (fun xs H Q => R1 xs H Q ∨ R2 xs H Q) := by
  intro pins s σ H xs us Q I r h
  rcases h with h | h
  · exact h1 pins s σ H xs us Q I r h
  · exact h2 pins s σ H xs us Q I r h
/-! ### methods -/
def rM (g : Gx) (f : Val → List Val → R Val) : V → List V → Hp → VK → Prop := fun x xs H Q => ∃ F u us, Same F H ∧ VRep g H F x u ∧ VRepL g H F xs us ∧ postE g (f u us) H F Q
theorem getD_ok {F : Hp} {κ : Type} [DecidableEq κ] {k : κ} {xs : List (κ × V)} {ts : List (κ × T)} {v : V} {t : T} (r : RepK g F xs ts) (d : Rep g F v t) :
    Rep g F ((valV xs k).getD v) (((ts.find? fun p => decide (p.1 = k)).map (·.2)).getD t) := by
  have h := RepK.val (k := k) r
  cases e : (ts.find? fun p => decide (p.1 = k)).map (·.2) with
  | none => rw [e] at h; rw [show valV xs k = none from h]; exact d
  | some t' =>
    rw [e] at h
    obtain ⟨z, hz, rz⟩ := h
    rw [hz]
    exact rz
theorem me_get (hu : X.A.units + 1 < cLine) : MtR X "dict.get" (rM g getF) := by
  intro pins s σ H x xs v us Q I rx rxs h
  obtain ⟨F, u, ws, sF, ra, rw', hp⟩ := h
  unfold getF at hp
  split at hp
  · obtain ⟨p, ys, rfl, h1, l1⟩ := ra
    cases rx
    cases rw' with
    | cons rk rn =>
      cases rn with
      | cons rd rn =>
        cases rn
        cases rxs with
        | cons r1 rn =>
          cases rn with
          | cons r2 rn =>
            cases rn
            split at hp
            · rename_i k hk
              rw [key_ok rk hk] at r1
              exact d_get2 hu I (.k h1) r1 r2 fun w' s3 I3 rw3 => ⟨_, H, I3, rw3, hp.now sF (getD_ok l1 rd)⟩
            · exact hp.elim
  · obtain ⟨p, ys, rfl, h1, l1⟩ := ra
    cases rx
    cases rw' with
    | cons rk rn =>
      cases rn
      cases rxs with
      | cons r1 rn =>
        cases rn
        split at hp
        · rename_i k hk
          rw [key_ok rk hk] at r1
          exact d_get1 hu I (.k h1) r1 fun w' s3 I3 rw3 => ⟨_, H, I3, rw3, hp.now sF (getD_ok l1 .non)⟩
        · exact hp.elim
  · obtain ⟨p, ys, rfl, h1, l1⟩ := ra
    cases rx
    cases rw' with
    | cons rk rn =>
      cases rn with
      | cons rd rn =>
        cases rn
        cases rxs with
        | cons r1 rn =>
          cases rn with
          | cons r2 rn =>
            cases rn
            split at hp
            · rename_i k hk
              obtain ⟨b, rfl, hb⟩ := keyT_ok sF rk hk
              exact d_get2 hu I (.t h1 hb) r1 r2 fun w' s3 I3 rw3 => ⟨_, H, I3, rw3, hp.now sF (getD_ok l1 rd)⟩
            · exact hp.elim
  · exact hp.elim
theorem me_join : MtR X "str.join" (rM g joinF) := by
  intro pins s σ H x xs v us Q I rx rxs h
  obtain ⟨F, u, ws, sF, ra, rw', hp⟩ := h
  unfold joinF at hp
  split at hp
  · cases ra
    cases rw' with
    | cons rk rn =>
      cases rn
      split at hp
      · rename_i ys e
        split at hp
        · rename_i hf
          obtain ⟨a, rfl, hq⟩ := strsL (K := X.K) sF rk e
          exact mt_join pins s σ H _ _ v us Q I rx rxs ⟨_, a, ys, rfl, rfl, .inl hq, of_decide_eq_true hf, hp.now sF (.str _)⟩
        · exact hp.elim
      · exact hp.elim
  · exact hp.elim
theorem me_split : MtR X "str.split" (rM g splitF) := by
  intro pins s σ H x xs v us Q I rx rxs h
  obtain ⟨F, u, ws, sF, ra, rw', hp⟩ := h
  unfold splitF at hp
  split at hp
  · cases ra
    cases rw' with
    | cons rk rn =>
      cases rn
      cases rk
      split at hp
      · rename_i hf
        rw [Bool.and_eq_true] at hf
        exact mt_split pins s σ H _ _ v us Q I rx rxs ⟨_, _, rfl, rfl, by simpa using hf.1, of_decide_eq_true hf.2, hp.newL sF .ofStrs⟩
      · exact hp.elim
  · exact hp.elim
end
end Lr

set_option Elab.async false
set_option linter.all false
set_option maxRecDepth 100000
set_option maxHeartbeats 1000000
/-! SndE: slots, contexts. -/
namespace Lr
open PySem PySem.Spec PyProof.Rows L2
/-- what stood at the entry: all of it, and the part that may be leant on -/
structure Bs where
  H0 : Hp
  F0 : Hp
  sf : Addr := 0
structure Wd (B : Bs) (H F : Hp) : Prop where
  fh : Same F H
  h0 : Same B.H0 H
  f0 : Same B.F0 F
  nw : ∀ a o, F a = some o → B.F0 a = some o ∨ B.H0 a = none ∨ ∃ xs, o = .tup xs
theorem Wd.grow {B : Bs} {H F H' F' : Hp} (w : Wd B H F) (a : Grow H F H' F') : Wd B H' F' := ⟨a.fh, w.h0.trans a.h, w.f0.trans a.f, fun c o h => by
  rcases a.nw c o h with h | h | h
  · exact w.nw c o h
  · exact .inr (.inl (w.h0.free h))
  · exact .inr (.inr h)⟩
/-- a slot -/
def SlR (g : Gx) (B : Bs) (H F : Hp) (o : Option V) : Sl → Prop
  | .un => True
  | .im t => ∃ v, o = some v ∧ Rep g F v t
  | .ow ts => ∃ a vs, o = some (.ref a) ∧ H a = some (.lst vs) ∧ F a = none ∧ B.H0 a = none ∧ RepL g F vs ts
  | .dk kvs => ∃ a xs, o = some (.ref a) ∧ H a = some (.dK xs) ∧ F a = none ∧ B.H0 a = none ∧ RepK g F xs kvs
  | .dt kvs => ∃ a xs, o = some (.ref a) ∧ H a = some (.dT xs) ∧ F a = none ∧ B.H0 a = none ∧ RepK g F xs kvs
  | .ob c ns ts => ∃ a dx xs, o = some (.ref a) ∧ H a = some (.ins (g.cls c) dx (ns.zip xs)) ∧ ns.length = xs.length ∧ F a = none ∧ (B.H0 a = none ∧ a = B.sf) ∧ RepL g F xs ts
def Sl.own : Sl → Bool
  | .un => false
  | .im _ => false
  | _ => true
structure SR (g : Gx) (B : Bs) (ρ : Env) (σ : L2.St) (H F : Hp) : Prop where
  wd : Wd B H F
  len : ρ.length = σ.length
  sl : ∀ (i : Nat) (s : Sl), ρ[i]? = some s → ∃ o, σ[i]? = some o ∧ SlR g B H F o s
  inj : ∀ (i j : Nat) (s t : Sl) (a : Addr), i ≠ j → ρ[i]? = some s → ρ[j]? = some t → s.own = true → t.own = true → σ[i]? = some (some (.ref a)) → σ[j]? = some (some (.ref a)) → False
section
variable {g : Gx} {B : Bs} {ρ : Env} {σ : L2.St} {H F H' F' : Hp}
theorem Grow.noneF (a : Grow H F H' F') {p : Addr} {o : HO} (h : F p = none) (h' : H p = some o) (ht : ∀ xs, o ≠ .tup xs := by intro _ z; cases z) : F' p = none := by
  cases q : F' p with
  | none => rfl
  | some u =>
    rcases a.nw p u q with z | z | ⟨xs, z⟩
    · rw [h] at z; cases z
    · rw [h'] at z; cases z
    · have q2 := a.h _ _ h'
      have q3 := a.fh _ _ q
      rw [q2] at q3
      cases q3
      exact (ht xs z).elim
theorem SlR.grow (a : Grow H F H' F') {o : Option V} : ∀ {s : Sl}, SlR g B H F o s → SlR g B H' F' o s
  | .un, _ => trivial
  | .im _, ⟨v, e, r⟩ => ⟨v, e, r.mono a.f⟩
  | .ow _, ⟨p, vs, e, h, f, b, l⟩ => ⟨p, vs, e, a.h _ _ h, a.noneF f h, b, l.mono a.f⟩
  | .dk _, ⟨p, vs, e, h, f, b, l⟩ => ⟨p, vs, e, a.h _ _ h, a.noneF f h, b, RepK.mono a.f l⟩
  | .dt _, ⟨p, vs, e, h, f, b, l⟩ => ⟨p, vs, e, a.h _ _ h, a.noneF f h, b, RepK.mono a.f l⟩
  | .ob _ _ _, ⟨p, dx, vs, e, h, n, f, b, l⟩ => ⟨p, dx, vs, e, a.h _ _ h, n, a.noneF f h, b, l.mono a.f⟩
theorem SR.grow (S : SR g B ρ σ H F) (a : Grow H F H' F') : SR g B ρ σ H' F' := ⟨S.wd.grow a, S.len, fun i s e => by
  obtain ⟨o, h1, h2⟩ := S.sl i s e
  exact ⟨o, h1, h2.grow a⟩, S.inj⟩
theorem SR.rd (S : SR g B ρ σ H F) {i : Nat} {x : Val} (h : rd ρ i = .ok x) : ∃ v, σ[i]? = some (some v) ∧ VRep g H F v x ∧ NewOk H H F v x := by
  unfold Lr.rd at h
  cases e : ρ[i]? with
  | none => rw [e] at h; cases h
  | some s =>
    rw [e] at h
    obtain ⟨o, h1, h2⟩ := S.sl i s e
    cases s with
    | un => cases h
    | im t =>
      cases h
      obtain ⟨v, rfl, r⟩ := h2
      exact ⟨v, h1, r, trivial⟩
    | ow ts =>
      cases h
      obtain ⟨a, vs, rfl, h3, _, _, l⟩ := h2
      exact ⟨_, h1, ⟨a, vs, rfl, h3, l⟩, trivial⟩
    | dk ts =>
      cases h
      obtain ⟨a, vs, rfl, h3, _, _, l⟩ := h2
      exact ⟨_, h1, ⟨a, vs, rfl, h3, l⟩, trivial⟩
    | dt ts =>
      cases h
      obtain ⟨a, vs, rfl, h3, _, _, l⟩ := h2
      exact ⟨_, h1, ⟨a, vs, rfl, h3, l⟩, trivial⟩
    | ob c ns ts =>
      cases h
      obtain ⟨a, dx, vs, rfl, h3, h4, _, _, l⟩ := h2
      exact ⟨_, h1, ⟨a, dx, vs, rfl, h3, h4, l⟩, trivial⟩
/-- a slot is given another value -/
theorem SR.set (S : SR g B ρ σ H F) {i : Nat} {s : Sl} {v : V} (h : SlR g B H F (some v) s) (hj : s.own = true → ∀ (j : Nat) (t : Sl) (a : Addr), j ≠ i → ρ[j]? = some t → t.own = true → σ[j]? = some (some (.ref a)) → v = .ref a → False) :
    SR g B (ρ.set i s) (σ.set i (some v)) H F := by
  refine ⟨S.wd, by rw [List.length_set, List.length_set]; exact S.len, fun j t e => ?_, fun j k t u a hjk e1 e2 o1 o2 q1 q2 => ?_⟩
  · by_cases hi : i = j
    · subst hi
      by_cases hl : i < ρ.length
      · rw [List.getElem?_set_self hl] at e
        cases e
        exact ⟨some v, List.getElem?_set_self (by rw [← S.len]; exact hl), h⟩
      · rw [List.getElem?_eq_none (by rw [List.length_set]; omega)] at e; cases e
    · rw [List.getElem?_set_ne hi] at e
      obtain ⟨o, h1, h2⟩ := S.sl j t e
      exact ⟨o, by rw [List.getElem?_set_ne hi]; exact h1, h2⟩
  · by_cases hj' : i = j
    · subst hj'
      have hk : i ≠ k := hjk
      rw [List.getElem?_set_ne hk] at e2 q2
      have hl : i < ρ.length := by
        cases Nat.lt_or_ge i ρ.length with
        | inl z => exact z
        | inr z => rw [List.getElem?_eq_none (by rw [List.length_set]; omega)] at e1; cases e1
      rw [List.getElem?_set_self hl] at e1
      cases e1
      rw [List.getElem?_set_self (by rw [← S.len]; exact hl)] at q1
      cases q1
      exact hj o1 k u a (Ne.symm hk) e2 o2 q2 rfl
    · by_cases hk' : i = k
      · subst hk'
        rw [List.getElem?_set_ne hj'] at e1 q1
        have hl : i < ρ.length := by
          cases Nat.lt_or_ge i ρ.length with
          | inl z => exact z
          | inr z => rw [List.getElem?_eq_none (by rw [List.length_set]; omega)] at e2; cases e2
        rw [List.getElem?_set_self hl] at e2
        cases e2
        rw [List.getElem?_set_self (by rw [← S.len]; exact hl)] at q2
        cases q2
        exact hj o2 j t a hjk e1 o1 q1 rfl
      · rw [List.getElem?_set_ne hj'] at e1 q1
        rw [List.getElem?_set_ne hk'] at e2 q2
        exact S.inj j k t u a hjk e1 e2 o1 o2 q1 q2
/-- .. by nothing that is its own -/
theorem SR.setIm (S : SR g B ρ σ H F) {i : Nat} {t : T} {v : V} (r : Rep g F v t) : SR g B (ρ.set i (.im t)) (σ.set i (some v)) H F := S.set ⟨v, rfl, r⟩ (fun z => nomatch z)
theorem SlR.ownAt {o : Option V} {s : Sl} (h : SlR g B H F o s) (e : s.own = true) : ∃ a u, o = some (.ref a) ∧ H a = some u ∧ F a = none := by
  cases s with
  | un => cases e
  | im t => cases e
  | ow ts => obtain ⟨a, vs, e, h, f, _⟩ := h; exact ⟨a, _, e, h, f⟩
  | dk ts => obtain ⟨a, vs, e, h, f, _⟩ := h; exact ⟨a, _, e, h, f⟩
  | dt ts => obtain ⟨a, vs, e, h, f, _⟩ := h; exact ⟨a, _, e, h, f⟩
  | ob c ns ts => obtain ⟨a, dx, vs, e, h, _, f, _⟩ := h; exact ⟨a, _, e, h, f⟩
/-- a result is put into a slot: v came behind H0, over which the slots stood -/
theorem SR.put {H1 F1 : Hp} (S : SR g B ρ σ H1 F1) (a : Grow H1 F1 H F) {i : Nat} {x : Val} {s : Sl} {v : V} (r : VRep g H F v x) (n : NewOk H1 H F v x) (e : x.sl? = some s) : SR g B (ρ.set i s) (σ.set i (some v)) H F := by
  have S2 := S.grow a
  have apart : ∀ p, v = .ref p → H1 p = none → ∀ (s : Sl) (j : Nat) (t : Sl) (b : Addr), j ≠ i → ρ[j]? = some t → t.own = true → σ[j]? = some (some (.ref b)) → v = .ref b → False := fun p ev hp s j t b _ e1 o1 q1 e2 => by
    obtain ⟨o, h1, h2⟩ := S.sl j t e1
    rw [q1] at h1
    cases h1
    obtain ⟨c, u, e3, h3, _⟩ := h2.ownAt o1
    rw [ev] at e2
    cases e2
    cases e3
    rw [hp] at h3
    cases h3
  have b0 : ∀ p, H1 p = none → B.H0 p = none := fun p h => S.wd.h0.free h
  cases x with
  | v t =>
    simp only [Val.sl?, Option.some.injEq] at e; subst e
    exact S2.setIm r
  | l nw ts =>
    cases nw with
    | false => simp only [Val.sl?] at e; cases e
    | true =>
      simp only [Val.sl?, Option.some.injEq] at e; subst e
      obtain ⟨p, rfl, h1, h2⟩ := n
      obtain ⟨a', vs, e, h, l⟩ := r
      cases e
      exact S2.set ⟨p, vs, rfl, h, h2, b0 p h1, l⟩ (fun _ => apart p rfl h1 (.ow ts))
  | dk nw ts =>
    cases nw with
    | false => simp only [Val.sl?] at e; cases e
    | true =>
      simp only [Val.sl?, Option.some.injEq] at e; subst e
      obtain ⟨p, rfl, h1, h2⟩ := n
      obtain ⟨a', vs, e, h, l⟩ := r
      cases e
      exact S2.set ⟨p, vs, rfl, h, h2, b0 p h1, l⟩ (fun _ => apart p rfl h1 (.dk ts))
  | dt nw ts =>
    cases nw with
    | false => simp only [Val.sl?] at e; cases e
    | true =>
      simp only [Val.sl?, Option.some.injEq] at e; subst e
      obtain ⟨p, rfl, h1, h2⟩ := n
      obtain ⟨a', vs, e, h, l⟩ := r
      cases e
      exact S2.set ⟨p, vs, rfl, h, h2, b0 p h1, l⟩ (fun _ => apart p rfl h1 (.dt ts))
  | ob _ _ _ => simp only [Val.sl?] at e; cases e
/-- a result that is kept -/
theorem keep {H1 F1 : Hp} (a : Grow H1 F1 H F) {x : Val} {t : T} {v : V} (r : VRep g H F v x) (n : NewOk H1 H F v x) (e : x.t? = some t) : ∃ F', Grow H1 F1 H F' ∧ Same F F' ∧ Rep g F' v t := by
  cases x with
  | v u =>
    simp only [Val.t?, Option.some.injEq] at e; subst e
    exact ⟨F, a, Same.refl _, r⟩
  | l nw ts =>
    cases nw with
    | false => simp only [Val.t?] at e; cases e
    | true =>
      simp only [Val.t?, Option.some.injEq] at e; subst e
      obtain ⟨p, rfl, h1, h2⟩ := n
      obtain ⟨a', vs, e, h, l⟩ := r
      cases e
      exact ⟨_, a.frz h1 h h2, same_upd h2, .lst (.inl upd_same) (l.mono (same_upd h2))⟩
  | dk nw kvs =>
    cases nw with
    | false => simp only [Val.t?] at e; cases e
    | true =>
      simp only [Val.t?, Option.some.injEq] at e; subst e
      obtain ⟨p, rfl, h1, h2⟩ := n
      obtain ⟨a', xs, e, h, l⟩ := r
      cases e
      obtain ⟨ws, q1, q2, q3⟩ := RepK.split l
      exact ⟨_, a.frz h1 h h2, same_upd h2, .dct (by rw [upd_same, q1]) q2 (q3.mono (same_upd h2))⟩
  | _ => simp only [Val.t?] at e; cases e
/-- freezing -/
theorem SR.frz1 (S : SR g B ρ σ H F) (i : Nat) : ∃ F', Same F F' ∧ SR g B (match ρ[i]? with
    | some s => ρ.set i s.frz
    | none => ρ) σ H F' := by
  cases e : ρ[i]? with
  | none => exact ⟨F, Same.refl _, S⟩
  | some s =>
    obtain ⟨o, h1, h2⟩ := S.sl i s e
    have hlt : i < ρ.length := (List.getElem?_eq_some_iff.mp e).1
    have same : s.frz = s → ∃ F', Same F F' ∧ SR g B (ρ.set i s.frz) σ H F' := fun z => by
      rw [z]
      have z2 : ρ.set i s = ρ := by
        obtain ⟨h, e'⟩ := List.getElem?_eq_some_iff.mp e
        rw [← e']
        exact List.set_getElem_self h
      rw [z2]
      exact ⟨F, Same.refl _, S⟩
    cases s with
    | ow ts =>
      obtain ⟨a, vs, rfl, h3, h4, h5, l⟩ := h2
      have sm : Same F (upd F a (.lst vs)) := same_upd h4
      have hσ : σ.set i (some (V.ref a)) = σ := by
        obtain ⟨h, e'⟩ := List.getElem?_eq_some_iff.mp h1
        rw [← e']
        exact List.set_getElem_self h
      refine ⟨upd F a (.lst vs), sm, ⟨fun b x q => ?_, S.wd.h0, S.wd.f0.trans sm, fun b x q => ?_⟩, by rw [List.length_set]; exact S.len, fun j s e' => ?_, fun j k s t b hjk e1 e2 o1 o2 q1 q2 => ?_⟩
      · by_cases hb : b = a
        · subst hb; rw [upd_same] at q; rw [h3, ← q]
        · rw [upd_ne hb] at q; exact S.wd.fh _ _ q
      · by_cases hb : b = a
        · subst hb; exact .inr (.inl h5)
        · rw [upd_ne hb] at q; exact S.wd.nw _ _ q
      · by_cases hij : i = j
        · subst hij
          rw [List.getElem?_set_self hlt] at e'
          cases e'
          exact ⟨_, h1, _, rfl, .lst (.inl upd_same) (l.mono sm)⟩
        · rw [List.getElem?_set_ne hij] at e'
          obtain ⟨o', k1, k2⟩ := S.sl j s e'
          refine ⟨o', k1, ?_⟩
          have ne : ∀ b, s.own = true → o' = some (.ref b) → b ≠ a := fun b ho eb z => by
            subst z eb
            exact S.inj i j _ s b hij e e' rfl ho h1 k1
          cases s with
          | un => trivial
          | im t => obtain ⟨v, e2, r⟩ := k2; exact ⟨v, e2, r.mono sm⟩
          | ow us => obtain ⟨b, ws, e2, q1, q2, q3, q4⟩ := k2; exact ⟨b, ws, e2, q1, by rw [upd_ne (ne b rfl e2)]; exact q2, q3, q4.mono sm⟩
          | dk us => obtain ⟨b, ws, e2, q1, q2, q3, q4⟩ := k2; exact ⟨b, ws, e2, q1, by rw [upd_ne (ne b rfl e2)]; exact q2, q3, RepK.mono sm q4⟩
          | dt us => obtain ⟨b, ws, e2, q1, q2, q3, q4⟩ := k2; exact ⟨b, ws, e2, q1, by rw [upd_ne (ne b rfl e2)]; exact q2, q3, RepK.mono sm q4⟩
          | ob c ns us => obtain ⟨b, dx, ws, e2, q1, n, q2, q3, q4⟩ := k2; exact ⟨b, dx, ws, e2, q1, n, by rw [upd_ne (ne b rfl e2)]; exact q2, q3, q4.mono sm⟩
      · by_cases hij : i = j
        · subst hij
          rw [List.getElem?_set_self hlt] at e1
          cases e1
          cases o1
        · by_cases hik : i = k
          · subst hik
            rw [List.getElem?_set_self hlt] at e2
            cases e2
            cases o2
          · rw [List.getElem?_set_ne hij] at e1
            rw [List.getElem?_set_ne hik] at e2
            exact S.inj j k s t b hjk e1 e2 o1 o2 q1 q2
    | dk ts =>
      obtain ⟨a, vs, rfl, h3, h4, h5, l⟩ := h2
      have sm : Same F (upd F a (.dK vs)) := same_upd h4
      have hσ : σ.set i (some (V.ref a)) = σ := by
        obtain ⟨h, e'⟩ := List.getElem?_eq_some_iff.mp h1
        rw [← e']
        exact List.set_getElem_self h
      refine ⟨upd F a (.dK vs), sm, ⟨fun b x q => ?_, S.wd.h0, S.wd.f0.trans sm, fun b x q => ?_⟩, by rw [List.length_set]; exact S.len, fun j s e' => ?_, fun j k s t b hjk e1 e2 o1 o2 q1 q2 => ?_⟩
      · by_cases hb : b = a
        · subst hb; rw [upd_same] at q; rw [h3, ← q]
        · rw [upd_ne hb] at q; exact S.wd.fh _ _ q
      · by_cases hb : b = a
        · subst hb; exact .inr (.inl h5)
        · rw [upd_ne hb] at q; exact S.wd.nw _ _ q
      · by_cases hij : i = j
        · subst hij
          rw [List.getElem?_set_self hlt] at e'
          cases e'
          obtain ⟨ws, q1, q2, q3⟩ := RepK.split l
          exact ⟨_, h1, _, rfl, .dct (by rw [upd_same, q1]) q2 (q3.mono sm)⟩
        · rw [List.getElem?_set_ne hij] at e'
          obtain ⟨o', k1, k2⟩ := S.sl j s e'
          refine ⟨o', k1, ?_⟩
          have ne : ∀ b, s.own = true → o' = some (.ref b) → b ≠ a := fun b ho eb z => by
            subst z eb
            exact S.inj i j _ s b hij e e' rfl ho h1 k1
          cases s with
          | un => trivial
          | im t => obtain ⟨v, e2, r⟩ := k2; exact ⟨v, e2, r.mono sm⟩
          | ow us => obtain ⟨b, ws, e2, q1, q2, q3, q4⟩ := k2; exact ⟨b, ws, e2, q1, by rw [upd_ne (ne b rfl e2)]; exact q2, q3, q4.mono sm⟩
          | dk us => obtain ⟨b, ws, e2, q1, q2, q3, q4⟩ := k2; exact ⟨b, ws, e2, q1, by rw [upd_ne (ne b rfl e2)]; exact q2, q3, RepK.mono sm q4⟩
          | dt us => obtain ⟨b, ws, e2, q1, q2, q3, q4⟩ := k2; exact ⟨b, ws, e2, q1, by rw [upd_ne (ne b rfl e2)]; exact q2, q3, RepK.mono sm q4⟩
          | ob c ns us => obtain ⟨b, dx, ws, e2, q1, n, q2, q3, q4⟩ := k2; exact ⟨b, dx, ws, e2, q1, n, by rw [upd_ne (ne b rfl e2)]; exact q2, q3, q4.mono sm⟩
      · by_cases hij : i = j
        · subst hij
          rw [List.getElem?_set_self hlt] at e1
          cases e1
          cases o1
        · by_cases hik : i = k
          · subst hik
            rw [List.getElem?_set_self hlt] at e2
            cases e2
            cases o2
          · rw [List.getElem?_set_ne hij] at e1
            rw [List.getElem?_set_ne hik] at e2
            exact S.inj j k s t b hjk e1 e2 o1 o2 q1 q2
    | un => exact same rfl
    | im t => exact same rfl
    | dt ts => exact same rfl
    | ob c ns ts => exact same rfl
theorem SR.frz : ∀ (z : List Nat) {ρ : Env} {F : Hp}, SR g B ρ σ H F → ∃ F', Same F F' ∧ SR g B (Lr.frz z ρ) σ H F'
  | [], _, F, S => ⟨F, Same.refl _, S⟩
  | i :: z, _, _, S => by
    obtain ⟨F1, s1, S1⟩ := S.frz1 i
    obtain ⟨F2, s2, S2⟩ := SR.frz z S1
    exact ⟨F2, s1.trans s2, S2⟩
/-- slots forgotten -/
theorem SR.un (S : SR g B ρ σ H F) (i : Nat) : SR g B (ρ.set i .un) (σ.set i none) H F := by
  refine ⟨S.wd, by rw [List.length_set, List.length_set]; exact S.len, fun j t e => ?_, fun j k t u a hjk e1 e2 o1 o2 q1 q2 => ?_⟩
  · by_cases hi : i = j
    · subst hi
      by_cases hl : i < ρ.length
      · rw [List.getElem?_set_self hl] at e
        cases e
        exact ⟨none, List.getElem?_set_self (by rw [← S.len]; exact hl), trivial⟩
      · rw [List.getElem?_eq_none (by rw [List.length_set]; omega)] at e; cases e
    · rw [List.getElem?_set_ne hi] at e
      obtain ⟨o, h1, h2⟩ := S.sl j t e
      exact ⟨o, by rw [List.getElem?_set_ne hi]; exact h1, h2⟩
  · have no : ∀ j t, (ρ.set i Sl.un)[j]? = some t → t.own = true → j ≠ i ∧ ρ[j]? = some t := fun j t e o => by
      by_cases hi : i = j
      · subst hi
        by_cases hl : i < ρ.length
        · rw [List.getElem?_set_self hl] at e
          cases e
          cases o
        · rw [List.getElem?_eq_none (by rw [List.length_set]; omega)] at e; cases e
      · rw [List.getElem?_set_ne hi] at e
        exact ⟨Ne.symm hi, e⟩
    obtain ⟨n1, e1⟩ := no j t e1 o1
    obtain ⟨n2, e2⟩ := no k u e2 o2
    rw [List.getElem?_set_ne (Ne.symm n1)] at q1
    rw [List.getElem?_set_ne (Ne.symm n2)] at q2
    exact S.inj j k t u a hjk e1 e2 o1 o2 q1 q2
theorem SR.wipe (S : SR g B ρ σ H F) : ∀ z : List Nat, SR g B (wipeE z ρ) (L2.wipe σ z) H F
  | [] => S
  | i :: z => (SR.wipe S z).un i
end
end Lr

set_option Elab.async false
set_option linter.all false
set_option maxRecDepth 100000
set_option maxHeartbeats 2000000
/-! SndEn: enumerate(tuple), walked. -/
namespace PySem
namespace LrE
open Sem (wp)
open AutoSeq1 (wpAny_loadPart')
theorem meets_enumerate_new1B {v : Value} {o : Obj} {H : Heap → Prop} (B : Begins v o H) :
    Meets (Builtin.«enumerate.__new__» ⟨[.type "enumerate", v], []⟩) (fun _ R s => H s.heap ∧
      R (.ok (.ret (.ref (s.heap.push o).objs.size))) { s with heap := (s.heap.push o).push { cls := .type "enumerate", data := .fields #[.none, .bool false, .ref s.heap.objs.size, rawInt 0, .none, .none] } }) :=
  .of_wp fun prog w A R s h => by
    obtain ⟨hp, g, d, tk, os⟩ := s; obtain ⟨h1, h⟩ := h
    have hsub := sub_enumerate
    have q1 : ∀ {A' : Around} {E : Value → Shared → Prop} {Q : Value → Shared → Prop}, Q (.ref hp.objs.size) ⟨hp.push o, g, d, tk, os⟩ → wpAny (model prog w) A' (pyIter v) Q E ⟨hp, g, d, tk, os⟩ :=
      fun q => B.iter prog w _ _ ⟨hp, g, d, tk, os⟩ _ h1 q
    wp_walk using q1
    refine wpAny_stack_any fun st => wpAny_pure ?_
    split
    · rename_i c _ _ _ _ _
      cases (c == Value.type "enumerate")
      · wp_walk using q1
        exact ⟨_, rfl, h⟩
      · wp_walk using q1
        exact ⟨_, rfl, h⟩
    · wp_walk using q1
      exact ⟨_, rfl, h⟩
section
variable {prog : Program} {w : World} {A : Around} {E : Value → Shared → Prop} {s : Shared}
theorem enum_begins1 {v : Value} {o : Obj} {H : Heap → Prop} {Q : Value → Shared → Prop} (B : Begins v o H) (h1 : H s.heap)
    (h : ∀ h', IsEnum h' (s.heap.objs.size + 1) s.heap.objs.size 0 .none → h'.get? s.heap.objs.size = some o → h'.objs.size = s.heap.objs.size + 2 →
      (∀ b o, s.heap.get? b = some o → h'.get? b = some o) → Q (.ref (s.heap.objs.size + 1)) { s with heap := h' }) :
    wpAny (model prog w) A (call (.type "enumerate") [v]) Q E s := by
  refine callType_new F.called_enumerate (by decide) (F.typeCall_enumerate_1 _) (F.newCall_enumerate_1 _) (fun obj => F.args_object_init_2 obj _) F.entry_enumerate_new
    (meets_enumerate_new1B B) ⟨h1, ?_⟩
  have hz : (s.heap.push o).objs.size = s.heap.objs.size + 1 := Heap.size_push ..
  show _ ∧ _
  rw [hz]
  have he : IsEnum ((s.heap.push o).push { cls := .type "enumerate", data := .fields #[.none, .bool false, .ref s.heap.objs.size, rawInt 0, .none, .none] }) (s.heap.objs.size + 1) s.heap.objs.size 0 .none := by
    have := Heap.get?_push_size (s.heap.push o) (o := { cls := .type "enumerate", data := .fields #[.none, .bool false, .ref s.heap.objs.size, rawInt 0, .none, .none] }) rfl
    rw [hz] at this; exact this
  refine ⟨⟨_, he, rfl⟩, h _ he (Heap.get?_push_of_some _ (Heap.get?_push_size _ B.free)) (by rw [Heap.size_push, hz]) fun b o x => Heap.get?_push_of_some _ (Heap.get?_push_of_some _ x)⟩
end
end LrE
end PySem
namespace Lr
open PySem PySem.Spec PyProof.Rows L2
/-- the tuple at a, its items in new pairs with their numbers -/
def IteT (K : PySem.W.Frag) (a : Addr) : L2.It :=
  ⟨fun i H => ∃ (xs : List V) (x : V), SqT K H a xs ∧ xs[i]? = some x, fun i H v H' => ∃ T x, v = .ref T ∧ H T = none ∧ H' = upd H T (.tup [.int (i : Nat), x]) ∧ ∀ xs, SqT K H a xs → xs[i]? = some x, fun i H => ∃ xs : List V, SqT K H a xs ∧ xs.length = i⟩
theorem turn_enumT {P : Program} {w : World} {K : PySem.W.Frag} {elts : List Expr} {kk : Nat} {tpos : Pos} (a e it : Addr) :
    Turn P w K (.Tuple elts kk tpos) (IteT K a) [e, it] e (fun i h => (∃ old, IsEnum h e it ((i : Nat) : Int) old) ∧ h.IsTupleIter it a i ∧ e ≠ it ∧ a ≠ it ∧ a ≠ e) where
  mem := by simp
  obj := fun i h st b hb => by
    obtain ⟨⟨old, he⟩, ⟨o, ho, hc, hd⟩, _⟩ := st
    have e' : b = e ∨ b = it := by simpa using hb
    rcases e' with z | z
    · rw [z]; exact ⟨_, he, fun v q => nomatch q⟩
    · rw [z]; exact ⟨o, ho, fun v q => by rw [hd] at q; cases q⟩
  keep := fun i h h' st k => let ⟨⟨old, he⟩, hi, hne⟩ := st; ⟨⟨old, k e (by simp) _ he⟩, hi.at fun o q => k it (by simp) o q, hne⟩
  item := by
    intro X hP hw hK hc i pins s σ H E I hf st hg
    subst hP hw hK
    obtain ⟨⟨old, he⟩, hit, hne, hai, hae⟩ := st
    obtain ⟨xs, x, hq, hx⟩ := hg
    obtain ⟨its, rv, p, hz⟩ := I.tuple hq
    obtain ⟨u, hu, ru⟩ := rv.get hx
    have hel : e < s.heap.objs.size := Heap.lt_size he
    have hil : it < s.heap.objs.size := by obtain ⟨_, q, _⟩ := hit; exact Heap.lt_size q
    have hh : X.A.in1.handled = none := I.ok.hd hc
    have D := Draws.tuple (prog := X.prog) (w := X.w) (A := X.A.in1) hh it a hai its.toArray
    have hi : i < its.toArray.size := by
      have := (List.getElem?_eq_some_iff.mp hu).1
      simpa using this
    have hef : e ∉ [it, a] := by simp [hne, Ne.symm hae]
    refine wpAny_pyNext_enum_itemD D he ⟨hit, show s.heap.IsTuple a its.toArray from p⟩ hi hne hef fun y h' tk hy ho hst hT hsz hk => ?_
    obtain ⟨hit', _⟩ := hst
    have ey : y = u := by
      have h1 : its.toArray[i]? = some y := hy
      rw [List.getElem?_toArray, hu] at h1
      exact (Option.some.inj h1).symm
    subst ey
    refine ⟨_, rfl, wpAny_letOwnedTupleGo_enum (s := { s with heap := h', toks := tk + 1 }) ho fun h'' he' sb => ?_⟩
    have hT2 : h''.get? s.heap.objs.size = some { cls := .type "tuple", data := .seq #[.int i tk, y] } := (sb.2 _ (Nat.ne_of_gt hel)).trans hT
    have new : ObjOk X.prog X.w (upd H s.heap.objs.size (.tup [.int (i : Nat), x])) h'' s.heap.objs.size (.tup [.int (i : Nat), x]) :=
      ⟨by show 2 ≤ sizeLine; decide, [.int i tk, y], .cons ⟨_, rfl⟩ (.cons ru .nil), ⟨_, hT2, rfl, _, rfl⟩⟩
    have I1 : Inv X pins σ (upd H s.heap.objs.size (.tup [.int (i : Nat), x])) { s with heap := h'', toks := tk + 1 } :=
      I.turnedNew (ch := [e, it]) (fun b ob hb q => (sb.2 b (fun z => hb (by simp [z]))).trans (hk b ob (fun z => hb (by simp [z])) (fun z => hb (by simp [z])) q)) hf (Nat.le_refl _) new
    refine ⟨.ref s.heap.objs.size, _, I1, rfl, ⟨_, x, rfl, I.hok.fresh (Nat.le_refl _), rfl, fun ys hy => by rw [I.tuple_inj hy hq]; exact hx⟩, ⟨⟨y, ?_⟩, hit'.at fun o q => (sb.2 it (Ne.symm hne)).trans q, hne, hai, hae⟩, fun b hb => ?_⟩
    · have e1 : ((i + 1 : Nat) : Int) = (i : Int) + 1 := by omega
      rw [e1]; exact he'
    · have hb' : b < s.heap.objs.size := by
        have e' : b = e ∨ b = it := by simpa using hb
        rcases e' with z | z
        · rw [z]; exact hel
        · rw [z]; exact hil
      rw [upd_ne (Nat.ne_of_lt hb')]
      exact (hf b hb).1
  done := by
    intro X hP hw hK hc i pins s σ H E I hf st hg
    subst hP hw hK
    obtain ⟨⟨old, he⟩, hit, hne, hai, hae⟩ := st
    obtain ⟨xs, hq, hx⟩ := hg
    obtain ⟨its, rv, p, hz⟩ := I.tuple hq
    obtain ⟨f0, f1, f2, f3, f4, f5⟩ := hf it (by simp)
    have hl := rv.length
    have hn : its.toArray.size = i := by simp; omega
    have D := Draws.tuple (prog := X.prog) (w := X.w) (A := X.A.in1) (I.ok.hd hc) it a hai its.toArray
    exact wpAny_pyNext_enum_endD D he (by rw [hn]; exact ⟨hit, show s.heap.IsTuple a its.toArray from p⟩) fun h' eb => ⟨rfl, I.turned (t' := s.toks) (fun b o hb q => eb b o hb q) f0 f1 f3 f4 f5⟩
  self := fun A i s Q E st h => let ⟨⟨_, he⟩, _⟩ := st; wpAny_pyIter_enum he h
def iEnumT (K : PySem.W.Frag) (ta : TA) : TI := fun σ H R => ta σ H fun vs H1 => ∃ a xs, vs = [.ref a] ∧ SqT K H1 a xs ∧ R (IteT K a) H1
theorem pi_enumT {X : Cx} {e : Expr} {ta : TA} {p pos tpos : Pos} {elts : List Expr} {kk : Nat} (hg : Gl X "enumerate") (hm : X.mg "enumerate" = none) (ha : PA X [e] ta) (hs : starEach [e] X.env = [(false, eval e X.env)] := by rfl) :
    PI X (.Tuple elts kk tpos) (.Call (.Name "enumerate" p) [e] [] pos) (iEnumT X.K ta) := by
  refine ⟨fun pins s σ H R I h => ?_⟩
  refine Call_ (ld_blt I hg hm boot_enumerate (PyProof.Rows.callWith_type1 (thn (ha.run pos pins s σ H _ I h) fun us s1 ⟨vs, H1, I1, r1, q1⟩ => ?_) hs rfl))
  obtain ⟨a, xs, ex, hq, q⟩ := q1
  subst ex
  cases r1 with
  | cons r rr =>
    cases rr
    cases r
    obtain ⟨its, rv, p', hz⟩ := I1.tuple hq
    have al : a < s1.heap.objs.size := by obtain ⟨_, e, _⟩ := p'; exact Heap.lt_size e
    refine LrE.enum_begins1 (begins_tuple a its.toArray) (show s1.heap.IsTuple a its.toArray from p') fun h' he hit hsz hk => wpAny_pyIter_enum he ?_
    have I2 : Inv X pins σ H1 { s1 with heap := h' } := I1.kept (t' := s1.toks) hk
    refine ⟨s1.heap.objs.size + 1, [s1.heap.objs.size + 1, s1.heap.objs.size], _, _, H1, rfl, I2, turn_enumT a (s1.heap.objs.size + 1) s1.heap.objs.size, ⟨⟨.none, he⟩, ⟨_, hit, rfl, rfl⟩, Nat.succ_ne_self _, Nat.ne_of_lt al, Nat.ne_of_lt (Nat.lt_succ_of_lt al)⟩, fun b hb => ?_, q⟩
    have e' : b = s1.heap.objs.size + 1 ∨ b = s1.heap.objs.size := by simpa using hb
    have hle : s1.heap.objs.size ≤ b := by
      rcases e' with z | z
      · rw [z]; exact Nat.le_add_right _ _
      · rw [z]; exact Nat.le_refl _
    exact I1.fpOk hle (I1.hok.fresh hle)
end Lr

set_option Elab.async false
set_option linter.all false
set_option maxRecDepth 100000
set_option maxHeartbeats 2000000
/-! SndZp: zip(tuple, list), walked. -/
namespace Lr
open PySem PySem.Spec PyProof.Rows L2
/-- the tuple at a, the list at b, the items in new pairs -/
def ItzM (K : PySem.W.Frag) (a b : Addr) : L2.It :=
  ⟨fun i H => ∃ (xs ys : List V) (x y : V), SqT K H a xs ∧ SqL K H b ys ∧ xs[i]? = some x ∧ ys[i]? = some y,
    fun i H v H' => ∃ T x y, v = .ref T ∧ H T = none ∧ H' = upd H T (.tup [x, y]) ∧ (∀ xs, SqT K H a xs → xs[i]? = some x) ∧ ∀ ys, SqL K H b ys → ys[i]? = some y,
    fun i H => ∃ xs ys : List V, SqT K H a xs ∧ SqL K H b ys ∧ i = min xs.length ys.length⟩
theorem turn_zipM {P : Program} {w : World} {K : PySem.W.Frag} {elts : List Expr} {kk : Nat} {tpos : Pos} {a b z TI TO i1 i2 : Addr} (D : ZipSep2 z TI TO i1 i2 [i1, a] [i2, b]) (hai : a ≠ i1) (hbi : b ≠ i2) :
    Turn P w K (.Tuple elts kk tpos) (ItzM K a b) [z, TI, TO, i1, i2] z (fun i h => IsZip h z TI TO .none ∧ IsTupOf2 h TI (.ref i1) (.ref i2) ∧ (∃ x y, IsTupOf2 h TO x y) ∧ h.IsTupleIter i1 a i ∧ h.IsListIter i2 b i) where
  mem := by simp
  obj := fun i h st c hc => by
    obtain ⟨hz, hTI, ⟨x, y, hTO⟩, ⟨o1, e1, _, d1⟩, ⟨o2, e2, _, d2⟩⟩ := st
    have e' : c = z ∨ c = TI ∨ c = TO ∨ c = i1 ∨ c = i2 := by simpa using hc
    rcases e' with q | q | q | q | q
    · rw [q]; exact ⟨_, hz, fun v q => nomatch q⟩
    · rw [q]; exact ⟨_, hTI, fun v q => nomatch q⟩
    · rw [q]; exact ⟨_, hTO, fun v q => nomatch q⟩
    · rw [q]; exact ⟨o1, e1, fun v q => by rw [d1] at q; cases q⟩
    · rw [q]; exact ⟨o2, e2, fun v q => by rw [d2] at q; cases q⟩
  keep := fun i h h' st k => by
    obtain ⟨hz, hTI, ⟨x, y, hTO⟩, h1, h2⟩ := st
    exact ⟨k z (by simp) _ hz, k TI (by simp) _ hTI, ⟨x, y, k TO (by simp) _ hTO⟩, h1.at fun o q => k i1 (by simp) o q, h2.at fun o q => k i2 (by simp) o q⟩
  item := by
    intro X hP hw hK hc i pins s σ H E I hf st hg
    subst hP hw hK
    obtain ⟨hz, hTI, ⟨x0, y0, hTO⟩, h1, h2⟩ := st
    obtain ⟨xs, ys, x, y, hqx, hqy, hx, hy⟩ := hg
    obtain ⟨its, rv, p, _⟩ := I.tuple hqx
    obtain ⟨its2, rv2, p2, _⟩ := I.list hqy
    obtain ⟨u, hu, ru⟩ := rv.get hx
    obtain ⟨u2, hu2, ru2⟩ := rv2.get hy
    have hzl : z < s.heap.objs.size := Heap.lt_size hz
    have hh : X.A.in1.handled = none := I.ok.hd hc
    have D1 := Draws.tuple (prog := X.prog) (w := X.w) (A := X.A.in1) hh i1 a hai its.toArray
    have D2 := Draws.list (prog := X.prog) (w := X.w) (A := X.A.in1) hh i2 b hbi its2.toArray
    have n1 : i < its.toArray.size := by
      have := (List.getElem?_eq_some_iff.mp hu).1
      simpa using this
    have n2 : i < its2.toArray.size := by
      have := (List.getElem?_eq_some_iff.mp hu2).1
      simpa using this
    have zi1 : i1 ≠ z := fun q => D.zf1 (by rw [q]; simp)
    have zi2 : i2 ≠ z := fun q => D.zf2 (by rw [q]; simp)
    refine wpAny_pyNext_zipD2_item D D1 D2 hz hTI hTO ⟨h1, show s.heap.IsTuple a its.toArray from p⟩ ⟨h2, p2.isList⟩ n1 n2 fun x1 x2 h' tk y1 y2 z' TO' st1 st2 hT hsz hk => ?_
    have e1 : x1 = u := by
      have q : its.toArray[i]? = some x1 := y1
      rw [List.getElem?_toArray, hu] at q
      exact (Option.some.inj q).symm
    have e2 : x2 = u2 := by
      have q : its2.toArray[i]? = some x2 := y2
      rw [List.getElem?_toArray, hu2] at q
      exact (Option.some.inj q).symm
    subst e1 e2
    obtain ⟨h1', _⟩ := st1
    obtain ⟨h2', _⟩ := st2
    refine ⟨_, rfl, wpAny_letOwnedTupleGo_zip (s := { s with heap := h', toks := tk }) z' fun h'' z'' sb => ?_⟩
    have hT2 : h''.get? s.heap.objs.size = some { cls := .type "tuple", data := .seq #[x1, x2] } := (sb.2 _ (Nat.ne_of_gt hzl)).trans hT
    have new : ObjOk X.prog X.w (upd H s.heap.objs.size (.tup [x, y])) h'' s.heap.objs.size (.tup [x, y]) :=
      ⟨by show 2 ≤ sizeLine; decide, [x1, x2], .cons ru (.cons ru2 .nil), ⟨_, hT2, rfl, _, rfl⟩⟩
    have I1 : Inv X pins σ (upd H s.heap.objs.size (.tup [x, y])) { s with heap := h'', toks := tk } :=
      I.turnedNew (t' := tk) (ch := [z, TI, TO, i1, i2]) (fun c o hb q => (sb.2 c (fun q' => hb (by simp [q']))).trans (hk c o (fun q' => hb (by simp [q'])) (fun q' => hb (by simp [q'])) (fun q' => hb (by simp [q'])) (fun q' => hb (by simp [q'])) q)) hf (Nat.le_refl _) new
    refine ⟨.ref s.heap.objs.size, _, I1, rfl, ⟨_, x, y, rfl, I.hok.fresh (Nat.le_refl _), rfl, fun l hl => by rw [I.tuple_inj hl hqx]; exact hx, fun l hl => by rw [I.list_inj hl hqy]; exact hy⟩, ⟨z'', ?_, ⟨x1, x2, ?_⟩, ?_, ?_⟩, fun c hcm => ?_⟩
    · exact (sb.2 _ D.TIz).trans (hk _ _ D.TIz D.TITO D.TIi1 D.TIi2 hTI)
    · exact (sb.2 _ D.TOz).trans TO'
    · exact h1'.at fun o q => (sb.2 _ zi1).trans q
    · exact h2'.at fun o q => (sb.2 _ zi2).trans q
    · have hlt : c < s.heap.objs.size := by
        have e' : c = z ∨ c = TI ∨ c = TO ∨ c = i1 ∨ c = i2 := by simpa using hcm
        rcases e' with q | q | q | q | q
        · rw [q]; exact hzl
        · rw [q]; exact Heap.lt_size hTI
        · rw [q]; exact Heap.lt_size hTO
        · rw [q]; obtain ⟨_, e1, _⟩ := h1; exact Heap.lt_size e1
        · rw [q]; obtain ⟨_, e2, _⟩ := h2; exact Heap.lt_size e2
      rw [upd_ne (Nat.ne_of_lt hlt)]
      exact (hf c hcm).1
  done := by
    intro X hP hw hK hc i pins s σ H E I hf st hg
    subst hP hw hK
    obtain ⟨hz, hTI, ⟨x0, y0, hTO⟩, h1, h2⟩ := st
    obtain ⟨xs, ys, hqx, hqy, hend⟩ := hg
    obtain ⟨its, rv, p, _⟩ := I.tuple hqx
    obtain ⟨its2, rv2, p2, _⟩ := I.list hqy
    have l1 := rv.length
    have l2 := rv2.length
    have hh : X.A.in1.handled = none := I.ok.hd hc
    have D1 := Draws.tuple (prog := X.prog) (w := X.w) (A := X.A.in1) hh i1 a hai its.toArray
    have D2 := Draws.list (prog := X.prog) (w := X.w) (A := X.A.in1) hh i2 b hbi its2.toArray
    exact wpAny_pyNext_zipD2_end D D1 D2 hz hTI hTO ⟨h1, show s.heap.IsTuple a its.toArray from p⟩ ⟨h2, p2.isList⟩ (by simp; omega) (by simp; omega) (by simp; omega) fun h' tk hk => ⟨rfl, I.turnedL (t' := tk) (ch := [z, TI, TO, i1, i2]) (fun c o hb q =>
      hk c o (fun q' => hb (by simp [q'])) (fun q' => hb (by simp [q'])) (fun q' => hb (by simp [q'])) (fun q' => hb (by simp [q'])) q) hf⟩
  self := fun A i s Q E st h => wpAny_pyIter_zip st.1 h
def iZipM (K : PySem.W.Frag) (ta : TA) : TI := fun σ H R => ta σ H fun vs H1 => ∃ a b xs ys, vs = [.ref a, .ref b] ∧ SqT K H1 a xs ∧ SqL K H1 b ys ∧ R (ItzM K a b) H1
theorem pi_zipM {X : Cx} {e e2 : Expr} {ta : TA} {p pos tpos : Pos} {elts : List Expr} {kk : Nat} (hg : Gl X "zip") (hm : X.mg "zip" = none) (ha : PA X [e, e2] ta)
    (hs : starEach [e, e2] X.env = (false, eval e X.env) :: starEach [e2] X.env := by rfl) (hpl : (backTo pos (starEach [e2] X.env)).any (·.1) = false := by rfl) :
    PI X (.Tuple elts kk tpos) (.Call (.Name "zip" p) [e, e2] [] pos) (iZipM X.K ta) := by
  refine ⟨fun pins s σ H R I h => ?_⟩
  refine Call_ (ld_blt I hg hm PyProof.Rows.boot_zip (PyProof.Rows.callWith_type1 (thn (ha.run pos pins s σ H _ I h) fun us s1 ⟨vs, H1, I1, r1, q1⟩ => ?_) hs hpl))
  obtain ⟨a, b, xs, ys, ex, hqx, hqy, q⟩ := q1
  subst ex
  cases r1 with
  | cons r rr =>
    cases rr with
    | cons r' rr =>
      cases rr
      cases r
      cases r'
      obtain ⟨its, rv, p1, _⟩ := I1.tuple hqx
      obtain ⟨its2, rv2, p2, _⟩ := I1.list hqy
      have la : a < s1.heap.objs.size := by obtain ⟨_, e, _⟩ := p1; exact Heap.lt_size e
      have lb : b < s1.heap.objs.size := p2.lt
      refine zip_begins2 (begins_tuple a its.toArray) (begins_list b its2.toArray) (show s1.heap.IsTuple a its.toArray from p1) p2.isList fun h' hz hTI hTO h1 h2 hsz hk => wpAny_pyIter_zip hz ?_
      have I2 : Inv X pins σ H1 { s1 with heap := h' } := I1.kept (t' := s1.toks) hk
      refine ⟨s1.heap.objs.size + 4, [s1.heap.objs.size + 4, s1.heap.objs.size + 2, s1.heap.objs.size + 3, s1.heap.objs.size, s1.heap.objs.size + 1], _, _, H1, rfl, I2, turn_zipM (zip_sep2 (fp1 := [a]) (fp2 := [b]) (by simpa using la) (by simpa using lb)) (Nat.ne_of_lt la) (Nat.ne_of_lt (Nat.lt_succ_of_lt lb)), ⟨hz, hTI, ⟨_, _, hTO⟩, ⟨_, h1, rfl, rfl⟩, ⟨_, h2, rfl, rfl⟩⟩, fun c hcm => ?_, q⟩
      have e' : c = s1.heap.objs.size + 4 ∨ c = s1.heap.objs.size + 2 ∨ c = s1.heap.objs.size + 3 ∨ c = s1.heap.objs.size ∨ c = s1.heap.objs.size + 1 := by simpa using hcm
      have hle : s1.heap.objs.size ≤ c := by
        rcases e' with z | z | z | z | z
        · rw [z]; exact Nat.le_add_right _ _
        · rw [z]; exact Nat.le_add_right _ _
        · rw [z]; exact Nat.le_add_right _ _
        · rw [z]; exact Nat.le_refl _
        · rw [z]; exact Nat.le_add_right _ _
      exact I1.fpOk hle (I1.hok.fresh hle)
end Lr

set_option Elab.async false
set_option linter.all false
set_option maxRecDepth 100000
set_option maxHeartbeats 1000000
/-! SndCt: l.count(x), l.index(x). -/
namespace Lr
open PySem PySem.Spec PyProof.Rows L2
theorem hu65_of {A : Around} {k : Nat} (hr : Room k A) : A.units + 65 < cLine := by
  have := hr.un
  omega
section
variable {X : Cx}
def rCountD (K : PySem.W.Frag) : V → List V → Hp → VK → Prop := fun x xs H Q => ∃ (a : Addr) (y : V) (d : PyData) (ds : List PyData), x = V.ref a ∧ xs = [y] ∧ Dp K H (V.ref a) (.list ds) ∧ Dp K H y d ∧
  SeqAt.shaped (.list ds) = true ∧ SeqAt.shaped d = true ∧ Q (.int ((ds.countP fun z => PyData.eqv z d : Nat) : Int)) H
theorem mt_countD (hu : X.A.units + 65 < cLine) : MtR X "list.count" (rCountD X.K) := by
  intro pins s σ H x xs v us Q I rx rxs h
  obtain ⟨a, y, d, ds, rfl, rfl, hl, hy, sl, sd, q⟩ := h
  cases rx
  cases rxs with
  | cons ry rt =>
    rename_i uy ut
    cases rt
    obtain ⟨bs, r1⟩ := Dp.reads I d y uy hy ry
    have hxs : PyData.canLayAll0 ds = true := SeqAt.canLay_of_shaped sl
    have hroom : X.A.units + 1 + min (PyData.depthAll ds) d.depth < cLine := room_in_shaped sd hu
    cases hl with
    | lst hs ha =>
      obtain ⟨its, rv, ⟨⟨cls, dd, data, sls⟩, n, ho, hc, hdn, hdt⟩, hlen⟩ := I.list hs
      simp only at hc hdt
      subst hc hdt
      obtain ⟨as, h4⟩ := Dp.readsAll I ds _ its ha rv
      have hmap : its.map (SeqAt.readOf s.heap) = ds := SeqAt.readsAll_map ds its as hxs h4
      have ec : its.toArray.toList.countP (fun u => PyData.eqv (SeqAt.readOf s.heap u) d) = ds.countP fun z => PyData.eqv z d := by
        rw [← hmap, List.countP_map]
        rfl
      refine call_meets PySem.F.slot_list_count ⟨_, ho, rfl⟩ PySem.F.entry_list_count (PySem.F.args_list_count_2 _ _)
        (SeqAt.list_countAt a its.toArray n dd sls uy (fun u => PyData.eqv (SeqAt.readOf s.heap u) d)) ⟨ho, SeqAt.items_eqAt (vs := its.toArray) (show ReadsAll s.heap its.toArray.toList ds as from h4) r1 hxs (SeqAt.canLay_of_shaped sd) hroom, ?_⟩
      exact ⟨.int _, H, I.tok _, ⟨_, by rw [ec]⟩, q⟩
end
section
variable {X : Cx} {g : Gx}
theorem me_count (hK : X.K = g.K) (hu : X.A.units + 65 < cLine) : MtR X "list.count" (rM g countF) := by
  intro pins s σ H x xs v us Q I rx rxs h
  obtain ⟨F, u, ws, sF, ra, rw', hp⟩ := h
  unfold countF at hp
  split at hp
  · rename_i y ts hts
    cases rw' with
    | cons ry rn =>
      cases rn
      split at hp
      · rename_i ds d e1 e2
        split at hp
        · rename_i hs
          rw [Bool.and_eq_true] at hs
          obtain ⟨a, vs, rfl, _, _⟩ := ra.lst sF hts
          refine mt_countD hu pins s σ H _ _ v us Q I rx rxs ⟨a, _, d, ds, rfl, rfl, ?_, ?_, hs.1, hs.2, hp.now sF (.int _)⟩
          · rw [hK]; exact ra.dp sF e1
          · rw [hK]; exact ry.dp sF e2
        · exact hp.elim
      · exact hp.elim
  · exact hp.elim
theorem me_index (hK : X.K = g.K) (hu : X.A.units + 65 < cLine) : MtR X "list.index" (rM g indexF) := by
  intro pins s σ H x xs v us Q I rx rxs h
  obtain ⟨F, u, ws, sF, ra, rw', hp⟩ := h
  unfold indexF at hp
  split at hp
  · rename_i y ts hts
    cases rw' with
    | cons ry rn =>
      cases rn
      split at hp
      · rename_i ds d e1 e2
        split at hp
        · rename_i hs
          rw [Bool.and_eq_true] at hs
          obtain ⟨a, vs, rfl, _, _⟩ := ra.lst sF hts
          split at hp
          · rename_i j hj
            obtain ⟨hjl, hz, hno⟩ := List.findIdx?_eq_some_iff_getElem.mp hj
            refine mt_indexD hu pins s σ H _ _ v us Q I rx rxs ⟨a, _, d, ds, j, ds[j], rfl, rfl, ?_, ?_, hs.1, hs.2, List.getElem?_eq_getElem hjl, hz, fun m z' hm hz' => ?_, hp.now sF (.int _)⟩
            · rw [hK]; exact ra.dp sF e1
            · rw [hK]; exact ry.dp sF e2
            · obtain ⟨hml, rfl⟩ := List.getElem?_eq_some_iff.mp hz'
              simpa using hno m hm
          · exact hp.elim
        · exact hp.elim
      · exact hp.elim
  · exact hp.elim
end
end Lr

set_option Elab.async false
set_option linter.all false
set_option maxRecDepth 100000
set_option maxHeartbeats 1000000
/-! SndF: what a result asks; contexts; the form's small facts. -/
namespace Lr
open PySem PySem.Spec PyProof.Rows L2
/-- an exception in the heap -/
def ErrR (g : Gx) (H F : Hp) (c : String) (fs : List T) (cls : Value) (d : Option Addr) : Prop := cls = .ref (g.cls c) ∧ (match fs with
  | [] => d = none
  | [t] => ∃ a v, d = some a ∧ H a = some (exd a [(Str.ofString "at", v)]) ∧ Rep g F v t
  | _ => False)
def po {α : Type} (r : R α) (P : α → Prop) (X : String → List T → Prop) : Prop := match r with
  | .ok a => P a
  | .exc c fs => X c fs
  | .no => False
def exq (g : Gx) (H F : Hp) (W : XK) (c : String) (fs : List T) : Prop := ∀ H' F' cls d, Grow H F H' F' → ErrR g H' F' c fs cls d → W cls d H'
def pV (g : Gx) (H F : Hp) (Q : VK) (x : Val) : Prop := ∀ v H' F', Grow H F H' F' → VRep g H' F' v x → NewOk H H' F' v x → Q v H'
def pP {α : Type} (H F : Hp) (Q : α → Hp → Prop) (x : α) : Prop := ∀ H' F', Grow H F H' F' → Q x H'
/-- arguments as they come -/
inductive Ar (g : Gx) : Hp → Hp → List V → List Val → Hp → Hp → Prop
  | nil {H F : Hp} : Same F H → Ar g H F [] [] H F
  | cons {H F H1 F1 H2 F2 : Hp} {v : V} {x : Val} {vs : List V} {xs : List Val} : Grow H F H1 F1 → VRep g H1 F1 v x → NewOk H H1 F1 v x → Ar g H1 F1 vs xs H2 F2 → Ar g H F (v :: vs) (x :: xs) H2 F2
def pA (g : Gx) (H F : Hp) (Q : List V → Hp → Prop) (xs : List Val) : Prop := ∀ vs H0 F0 H' F', Grow H F H0 F0 → Ar g H0 F0 vs xs H' F' → Q vs H'
section
variable {α β : Type} {g : Gx} {H F H' F' : Hp}
theorem po.bind {r : R α} {f : α → R β} {P : β → Prop} {X : String → List T → Prop} (h : po (r.bind f) P X) : po r (fun a => po (f a) P X) X := by
  cases r <;> exact h
theorem po.imp {r : R α} {P P' : α → Prop} {X X' : String → List T → Prop} (h : po r P X) (k : ∀ a, P a → P' a) (l : ∀ c fs, X c fs → X' c fs) : po r P' X' := by
  cases r
  · exact k _ h
  · exact l _ _ h
  · exact h
theorem po.im {r : R α} {P P' : α → Prop} {X : String → List T → Prop} (h : po r P X) (k : ∀ a, P a → P' a) : po r P' X := h.imp k fun _ _ x => x
theorem exq.grow {W : XK} {c : String} {fs : List T} (a : Grow H F H' F') (h : exq g H F W c fs) : exq g H' F' W c fs := fun H2 F2 cls d b e => h H2 F2 cls d (a.trans b) e
theorem NewOk.grow {K L : Hp} {v : V} (a : Same H K) : ∀ {x : Val}, NewOk K H' F' v x → NewOk H H' F' v x
  | .v _, h => h
  | .l true _, ⟨p, e, h1, h2⟩ => ⟨p, e, a.free h1, h2⟩
  | .l false _, h => h
  | .dk true _, ⟨p, e, h1, h2⟩ => ⟨p, e, a.free h1, h2⟩
  | .dk false _, h => h
  | .dt true _, ⟨p, e, h1, h2⟩ => ⟨p, e, a.free h1, h2⟩
  | .dt false _, h => h
  | .ob _ _ _, h => h
theorem pV.grow {Q : VK} {x : Val} (a : Grow H F H' F') (h : pV g H F Q x) : pV g H' F' Q x := fun v H2 F2 b r n => h v H2 F2 (a.trans b) r (NewOk.grow (L := H) a.h n)
theorem pP.grow {Q : α → Hp → Prop} {x : α} (a : Grow H F H' F') (h : pP H F Q x) : pP H' F' Q x := fun H2 F2 b => h H2 F2 (a.trans b)
theorem pA.grow {Q : List V → Hp → Prop} {x : List Val} (a : Grow H F H' F') (h : pA g H F Q x) : pA g H' F' Q x := fun vs H0 F0 H2 F2 b r => h vs H0 F0 H2 F2 (a.trans b) r
theorem po.gV {r : R Val} {Q : VK} {W : XK} (h : po r (pV g H F Q) (exq g H F W)) (a : Grow H F H' F') : po r (pV g H' F' Q) (exq g H' F' W) := h.imp (fun _ => pV.grow a) fun _ _ => exq.grow a
theorem po.gP {r : R α} {Q : α → Hp → Prop} {W : XK} (h : po r (pP H F Q) (exq g H F W)) (a : Grow H F H' F') : po r (pP H' F' Q) (exq g H' F' W) := h.imp (fun _ => pP.grow a) fun _ _ => exq.grow a
theorem po.gA {r : R (List Val)} {Q : List V → Hp → Prop} {W : XK} (h : po r (pA g H F Q) (exq g H F W)) (a : Grow H F H' F') : po r (pA g H' F' Q) (exq g H' F' W) := h.imp (fun _ => pA.grow a) fun _ _ => exq.grow a
/-- an operation never raises -/
def R.ne : R α → Prop
  | .exc _ _ => False
  | _ => True
theorem po.op {r : R Val} {Q : VK} {X : String → List T → Prop} (h : po r (pV g H F Q) X) (n : r.ne) : postE g r H F Q := by
  cases r
  · exact h
  · exact n.elim
  · exact h
theorem po.opB {r : R Bool} {Q : Bool → Hp → Prop} {X : String → List T → Prop} (h : po r (pP H F Q) X) (n : r.ne) : postB r H F Q := by
  cases r
  · exact h
  · exact n.elim
  · exact h
theorem ne_bind {r : R α} {f : α → R β} (h : r.ne) (k : ∀ a, (f a).ne) : (r.bind f).ne := by
  cases r
  · exact k _
  · exact h
  · trivial
theorem ne_ite {c : Prop} [Decidable c] {r s : R α} (h : r.ne) (k : s.ne) : (if c then r else s).ne := by split <;> assumption
theorem ne_of {o : Option α} : (R.of o).ne := by cases o <;> trivial
theorem Ar.fh : ∀ {H F : Hp} {vs : List V} {xs : List Val} {H' F' : Hp}, Ar g H F vs xs H' F' → Grow H F H' F'
  | _, _, _, _, _, _, .nil s => .refl s
  | _, _, _, _, _, _, .cons a _ _ t => a.trans t.fh
theorem Ar.rep : ∀ {H F : Hp} {vs : List V} {xs : List Val} {H' F' : Hp}, Ar g H F vs xs H' F' → VRepL g H' F' vs xs
  | _, _, _, _, _, _, .nil _ => .nil
  | _, _, _, _, _, _, .cons _ r _ t => .cons (r.grow t.fh) t.rep
/-- what is kept of them -/
theorem Ar.keep : ∀ {H F : Hp} {vs : List V} {xs : List Val} {H' F' : Hp} {ts : List T}, Ar g H F vs xs H' F' → keeps? xs = some ts → ∃ F2, Grow H F H' F2 ∧ Same F' F2 ∧ RepL g F2 vs ts
  | _, _, _, _, _, F', _, .nil s, e => by
    simp only [keeps?, Option.some.injEq] at e
    subst e
    exact ⟨F', .refl s, Same.refl _, .nil⟩
  | H, F, _, _, H', F', _, @Ar.cons _ _ _ H1 F1 _ _ v x vs xs a r n t, e => by
    cases h1 : x.t? with
    | none => simp only [keeps?, h1] at e; cases e
    | some u =>
      cases h2 : keeps? xs with
      | none => simp only [keeps?, h1, h2] at e; cases e
      | some us =>
        simp only [keeps?, h1, h2, Option.some.injEq] at e
        subst e
        obtain ⟨F2, b, s2, l⟩ := t.keep h2
        have n2 : NewOk H H' F2 v x := by
          cases x with
          | l nw ts =>
            cases nw with
            | true =>
              obtain ⟨p, rfl, h3, h4⟩ := n
              obtain ⟨_, vs', e', h5, _⟩ := r
              cases e'
              exact ⟨p, rfl, h3, b.noneF h4 h5⟩
            | false => trivial
          | dk nw ts =>
            cases nw with
            | true =>
              obtain ⟨p, rfl, h3, h4⟩ := n
              obtain ⟨_, vs', e', h5, _⟩ := r
              cases e'
              exact ⟨p, rfl, h3, b.noneF h4 h5⟩
            | false => trivial
          | v t => trivial
          | _ => simp only [Val.t?] at h1; cases h1
        obtain ⟨F3, c, s3, r3⟩ := Lr.keep (a.trans b) (r.grow b) n2 h1
        exact ⟨F3, c, s2.trans s3, .cons r3 (l.mono s3)⟩
end
section
variable {g : Gx} {H F H' F' : Hp}
mutual
theorem flat_rep {F3 F4 : Hp} (k : ∀ a o, F3 a = some o → F4 a = some o ∨ ∃ us, o = .lst us) (k2 : ∀ a o ob, F3 a = some (.frz ob o) → F4 a = some (.frz ob o)) : ∀ {v : V} {t : T}, Rep g F3 v t → t.flat = true → Rep g F4 v t
  | _, _, .non, _ => .non
  | _, _, .bl b, _ => .bl b
  | _, _, .int b, _ => .int b
  | _, _, .str b, _ => .str b
  | _, _, .tup h l, e => by
    rcases k _ _ h with z | ⟨us, z⟩
    · exact .tup z (flats_rep k k2 l (by simpa only [T.flat] using e))
    · cases z
  | _, _, .lst h l, e => by simp only [T.flat] at e; cases e
  | _, _, .ins h n l, e => by
    rcases k _ _ h with z | ⟨us, z⟩
    · exact .ins z n (flats_rep k k2 l (by simpa only [T.flat] using e))
    · cases z
  | _, _, .err h, e => by
    rcases h with h | h
    · rcases k _ _ h with z | ⟨us, z⟩
      · exact .err (.inl z)
      · exact nomatch (show (HO.ext _ : HO) = .lst us from z)
    · exact .err (.inr h)
theorem flats_rep {F3 F4 : Hp} (k : ∀ a o, F3 a = some o → F4 a = some o ∨ ∃ us, o = .lst us) (k2 : ∀ a o ob, F3 a = some (.frz ob o) → F4 a = some (.frz ob o)) : ∀ {vs : List V} {ts : List T}, RepL g F3 vs ts → flats ts = true → RepL g F4 vs ts
  | _, _, .nil, _ => .nil
  | _, _, .cons r l, e => by
    simp only [flats, Bool.and_eq_true] at e
    exact .cons (flat_rep k k2 r e.1) (flats_rep k k2 l e.2)
end
/-- arguments lent -/
theorem Ar.lend : ∀ {H F : Hp} {vs : List V} {xs : List Val} {H' F' : Hp} {ts : List T}, Ar g H F vs xs H' F' → args? xs = some ts →
    ∃ F2 L, Grow H F H' F2 ∧ Same F' F2 ∧ Same F2 L ∧ Same L H' ∧ RepL g L vs ts ∧ (∀ a o, L a = some o → F2 a = some o ∨ ∃ us, o = .lst us) ∧ (xs.any Val.bor = false → L = F2)
  | _, _, _, _, _, F', _, .nil s, e => by
    simp only [args?, Option.some.injEq] at e
    subst e
    exact ⟨F', F', .refl s, Same.refl _, Same.refl _, s, .nil, fun a o h => .inl h, fun _ => rfl⟩
  | H, F, _, _, H', F', _, @Ar.cons _ _ _ H1 F1 _ _ v x vs xs a r n t, e => by
    cases h1 : x.arg? with
    | none => simp only [args?, h1] at e; cases e
    | some u =>
      cases h2 : args? xs with
      | none => simp only [args?, h1, h2] at e; cases e
      | some us =>
        simp only [args?, h1, h2, Option.some.injEq] at e
        subst e
        obtain ⟨F2, L, b, s2, sL, sH, l, hL, hn⟩ := t.lend h2
        cases x with
        | v t' =>
          simp only [Val.arg?, Option.some.injEq] at h1
          subst h1
          exact ⟨F2, L, a.trans b, s2, sL, sH, .cons ((Rep.mono b.f r).mono sL) l, hL, fun q => hn (by simpa [Val.bor] using q)⟩
        | l nw ts =>
          simp only [Val.arg?, Option.some.injEq] at h1
          subst h1
          obtain ⟨p, vs', e', h5, l5⟩ := r
          subst e'
          have h6 : H' p = some (.lst vs') := b.h _ _ h5
          cases nw with
          | true =>
            obtain ⟨p', e', h3, h4⟩ := n
            cases e'
            have h7 : F2 p = none := b.noneF h4 h5
            have z : Same F2 (upd F2 p (.lst vs')) := same_upd h7
            cases h8 : L p with
            | none =>
              have z2 : Same L (upd L p (.lst vs')) := same_upd h8
              refine ⟨upd F2 p (.lst vs'), upd L p (.lst vs'), (a.trans b).frz h3 h6 h7, s2.trans z, fun c o q => ?_, fun c o q => ?_, .cons (.lst (.inl upd_same) ((l5.mono b.f).mono (sL.trans z2))) (l.mono z2), fun c o q => ?_, fun q => ?_⟩
              · by_cases hc : c = p
                · subst hc; rw [upd_same] at q ⊢; exact q
                · rw [upd_ne hc] at q ⊢; exact sL _ _ q
              · by_cases hc : c = p
                · subst hc; rw [upd_same] at q; rw [h6]; exact q
                · rw [upd_ne hc] at q; exact sH _ _ q
              · by_cases hc : c = p
                · subst hc; rw [upd_same] at q ⊢; exact .inl q
                · rw [upd_ne hc] at q ⊢; exact hL _ _ q
              · rw [hn (by simpa [Val.bor] using q)]
            | some o =>
              have eo : o = .lst vs' := by
                have := sH _ _ h8
                rw [h6] at this
                exact (Option.some.inj this).symm
              subst eo
              refine ⟨upd F2 p (.lst vs'), L, (a.trans b).frz h3 h6 h7, s2.trans z, fun c o q => ?_, sH, .cons (.lst (.inl h8) ((l5.mono b.f).mono sL)) l, fun c o q => ?_, fun q => ?_⟩
              · by_cases hc : c = p
                · subst hc; rw [upd_same] at q; rw [h8]; exact q
                · rw [upd_ne hc] at q; exact sL _ _ q
              · by_cases hc : c = p
                · subst hc; rw [upd_same]; rw [h8] at q; exact .inl q
                · rw [upd_ne hc]; exact hL _ _ q
              · have := hn (by simpa [Val.bor] using q)
                rw [this] at h8
                rw [h7] at h8
                cases h8
          | false =>
            cases h8 : L p with
            | none =>
              have z2 : Same L (upd L p (.lst vs')) := same_upd h8
              refine ⟨F2, upd L p (.lst vs'), a.trans b, s2, sL.trans z2, fun c o q => ?_, .cons (.lst (.inl upd_same) ((l5.mono b.f).mono (sL.trans z2))) (l.mono z2), fun c o q => ?_, fun q => by simp [Val.bor] at q⟩
              · by_cases hc : c = p
                · subst hc; rw [upd_same] at q; rw [h6]; exact q
                · rw [upd_ne hc] at q; exact sH _ _ q
              · by_cases hc : c = p
                · subst hc; rw [upd_same] at q; exact .inr ⟨_, (Option.some.inj q).symm⟩
                · rw [upd_ne hc] at q; exact hL _ _ q
            | some o =>
              have eo : o = .lst vs' := by
                have := sH _ _ h8
                rw [h6] at this
                exact (Option.some.inj this).symm
              subst eo
              exact ⟨F2, L, a.trans b, s2, sL, sH, .cons (.lst (.inl h8) ((l5.mono b.f).mono sL)) l, hL, fun q => by simp [Val.bor] at q⟩
        | _ => simp only [Val.arg?] at h1; cases h1
/-- behind the call: what was lent is the caller's again -/
def isTup : Option HO → Bool
  | some (.tup _) => true
  | _ => false
def backF (H' F2 F3 : Hp) : Hp := fun a => if isTup (F3 a) then F3 a else match H' a with
  | none => F3 a
  | some _ => F2 a
theorem backF_tup {H' F2 F3 : Hp} {a : Addr} {xs : List V} (h : F3 a = some (.tup xs)) : backF H' F2 F3 a = some (.tup xs) := by unfold backF; rw [h]; rfl
theorem backF_none {H' F2 F3 : Hp} {a : Addr} (h : H' a = none) : backF H' F2 F3 a = F3 a := by unfold backF; rw [h]; split <;> rfl
theorem backF_some {H' F2 F3 : Hp} {a : Addr} {o : HO} (h : H' a = some o) (n : isTup (F3 a) = false) : backF H' F2 F3 a = F2 a := by unfold backF; rw [h, n]; rfl
theorem isTup_of {o : Option HO} (h : isTup o = true) : ∃ xs, o = some (.tup xs) := by
  unfold isTup at h
  split at h
  · exact ⟨_, rfl⟩
  · cases h
theorem back_grow {F2 L H3 F3 : Hp} (s2 : Same F2 H') (sL : Same F2 L) (gr : Grow H' L H3 F3) : Grow H' F2 H3 (backF H' F2 F3) := ⟨gr.h, fun a o q => by
  cases ht : isTup (F3 a) with
  | true =>
    obtain ⟨xs, e⟩ := isTup_of ht
    rw [backF_tup e, ← e]
    exact gr.f _ _ (sL _ _ q)
  | false => rw [backF_some (s2 _ _ q) ht]; exact q, fun a o q => by
  cases ht : isTup (F3 a) with
  | true =>
    obtain ⟨xs, e⟩ := isTup_of ht
    rw [backF_tup e, ← e] at q
    exact gr.fh _ _ q
  | false =>
    cases h : H' a with
    | none => rw [backF_none h] at q; exact gr.fh _ _ q
    | some u => rw [backF_some h ht] at q; exact gr.h _ _ (s2 _ _ q), fun a o q => by
  cases ht : isTup (F3 a) with
  | true =>
    obtain ⟨xs, e⟩ := isTup_of ht
    rw [backF_tup e] at q
    cases q
    exact .inr (.inr ⟨_, rfl⟩)
  | false =>
    cases h : H' a with
    | none => exact .inr (.inl rfl)
    | some u => rw [backF_some h ht] at q; exact .inl q⟩
theorem back_k {F2 L H3 F3 : Hp} (hL : ∀ a o, L a = some o → F2 a = some o ∨ ∃ us, o = .lst us) (gr : Grow H' L H3 F3) : ∀ a o, F3 a = some o → backF H' F2 F3 a = some o ∨ ∃ us, o = .lst us := fun a o q => by
  cases ht : isTup (F3 a) with
  | true =>
    obtain ⟨xs, e⟩ := isTup_of ht
    rw [backF_tup e, ← e]
    exact .inl q
  | false =>
    cases h : H' a with
    | none => rw [backF_none h]; exact .inl q
    | some u =>
      rw [backF_some h ht]
      rcases gr.nw a o q with z | z | ⟨xs, z⟩
      · exact hL a o z
      · rw [h] at z; cases z
      · rw [q, z] at ht; cases ht
theorem call_ok {Q : VK} {W : XK} {h : List T → R Val} {H0 F0 : Hp} {vs : List V} {xs : List Val} (a : Grow H F H0 F0) (r : Ar g H0 F0 vs xs H' F') (q : po (callV h xs) (pV g H F Q) (exq g H F W)) :
    ∃ L ts, Same L H' ∧ RepL g L vs ts ∧ po (h ts) (pV g H' L Q) (exq g H' L W) ∧ (∀ x, h ts = .ok x → (∃ t, x = .v t) ∨ (∃ us, x = .l true us) ∨ ∃ us, x = .dk true us) := by
  unfold callV at q
  cases e : args? xs with
  | none => rw [e] at q; exact q.elim
  | some ts =>
    simp only [e] at q
    obtain ⟨F2, L, b, s2, sL, sH, l, hL, hn⟩ := r.lend e
    have sF2 : Same F2 H' := sL.trans sH
    refine ⟨L, ts, sH, l, ?_, ?_⟩
    · have fin : ∀ {H3 F3 : Hp}, Grow H' L H3 F3 → Grow H F H3 (backF H' F2 F3) := fun gr => (a.trans b).trans (back_grow sF2 sL gr)
      have k2 : ∀ {H3 F3 : Hp}, Grow H' L H3 F3 → ∀ a o ob, F3 a = some (.frz ob o) → backF H' F2 F3 a = some (.frz ob o) := fun gr a o ob q => by
        rcases back_k hL gr a _ q with z | ⟨us, z⟩
        · exact z
        · cases z
      have dir : xs.any Val.bor = false → ∀ {H3 F3 : Hp}, Grow H' L H3 F3 → Grow H F H3 F3 := fun hb {H3 F3} gr => by
        rw [hn hb] at gr
        exact (a.trans b).trans gr
      cases e2 : h ts with
      | no => simp only [e2] at q; exact q
      | ok x =>
        simp only [e2] at q
        intro v H3 F3 gr rx nx
        cases x with
        | v t =>
          by_cases hb : xs.any Val.bor = false
          · simp only [hb, Bool.false_and] at q
            exact q v H3 F3 (dir hb gr) rx trivial
          · rw [Bool.not_eq_false] at hb
            by_cases hf : t.flat = true
            · simp only [hb, hf, Bool.true_and] at q
              exact q v H3 _ (fin gr) (flat_rep (back_k hL gr) (k2 gr) rx hf) trivial
            · rw [Bool.not_eq_true] at hf
              simp only [hb, hf, Bool.true_and] at q
              exact q.elim
        | l nw us =>
          cases nw with
          | false => exact q.elim
          | true =>
            obtain ⟨p, ep, n1, n2⟩ := nx
            subst ep
            have hH : H p = none := (a.trans b).h.free n1
            by_cases hb : xs.any Val.bor = false
            · simp only [hb, Bool.false_and] at q
              exact q _ H3 F3 (dir hb gr) rx ⟨p, rfl, hH, n2⟩
            · rw [Bool.not_eq_false] at hb
              by_cases hf : flats us = true
              · simp only [hb, hf, Bool.true_and] at q
                obtain ⟨p', vs', ep, r1, r2⟩ := rx
                refine q _ H3 _ (fin gr) ⟨p', vs', ep, r1, flats_rep (back_k hL gr) (k2 gr) r2 hf⟩ ⟨p, rfl, hH, ?_⟩
                rw [backF_none n1]
                exact n2
              · rw [Bool.not_eq_true] at hf
                simp only [hb, hf, Bool.true_and] at q
                exact q.elim
        | dk nw us =>
          cases nw with
          | false => exact q.elim
          | true =>
            obtain ⟨p, ep, n1, n2⟩ := nx
            subst ep
            have hH : H p = none := (a.trans b).h.free n1
            by_cases hb : xs.any Val.bor = false
            · simp only [hb] at q
              exact q _ H3 F3 (dir hb gr) rx ⟨p, rfl, hH, n2⟩
            · rw [Bool.not_eq_false] at hb
              simp only [hb] at q
              exact q.elim
        | _ => exact q.elim
      | exc c fs =>
        simp only [e2] at q
        intro H3 F3 cls d gr er
        by_cases hb : xs.any Val.bor = false
        · simp only [hb, Bool.false_and] at q
          exact q H3 F3 cls d (dir hb gr) er
        · rw [Bool.not_eq_false] at hb
          by_cases hf : flats fs = true
          · simp only [hb, hf, Bool.true_and] at q
            refine q H3 _ cls d (fin gr) ⟨er.1, ?_⟩
            have e2 := er.2
            cases fs with
            | nil => exact e2
            | cons t ts => cases ts with
              | nil =>
                obtain ⟨a', v, e3, e4, e5⟩ := e2
                simp only [flats, Bool.and_true] at hf
                exact ⟨a', v, e3, e4, flat_rep (back_k hL gr) (k2 gr) e5 hf⟩
              | cons _ _ => exact e2
          · rw [Bool.not_eq_true] at hf
            simp only [hb, hf, Bool.true_and] at q
            exact q.elim
    · intro x ex
      simp only [ex] at q
      cases x with
      | v t => exact .inl ⟨t, rfl⟩
      | l nw us => cases nw with
        | true => exact .inr (.inl ⟨us, rfl⟩)
        | false => exact q.elim
      | dk nw us => cases nw with
        | true => exact .inr (.inr ⟨us, rfl⟩)
        | false => exact q.elim
      | _ => exact q.elim
end
/-! ### no operation raises -/
theorem addV_ne (x y : Val) : (addV x y).ne := by unfold addV; (repeat' split) <;> trivial
theorem mulV_ne (x y : Val) : (mulV x y).ne := by unfold mulV; (repeat' split) <;> trivial
theorem binV_ne (op : Operator) (x y : Val) : (binV op x y).ne := by
  unfold binV
  (repeat' split) <;> first | trivial | exact addV_ne _ _ | exact mulV_ne _ _
theorem eqV_ne (x y : Val) : (eqV x y).ne := by unfold eqV; (repeat' split) <;> trivial
theorem isV_ne (x y : Val) : (isV x y).ne := by unfold isV; (repeat' split) <;> trivial
theorem inV_ne (x y : Val) : (inV x y).ne := by unfold inV inSeq; (repeat' split) <;> trivial
theorem ordV_ne (op : CmpOp) (x y : Val) : (ordV op x y).ne := by unfold ordV; (repeat' split) <;> trivial
theorem cmpV_ne (op : CmpOp) (x y : Val) : (cmpV op x y).ne := by
  unfold cmpV
  split <;> first | exact eqV_ne _ _ | exact isV_ne _ _ | exact inV_ne _ _ | exact ordV_ne _ _ _ | exact ne_bind (eqV_ne _ _) fun _ => trivial | exact ne_bind (isV_ne _ _) fun _ => trivial | exact ne_bind (inV_ne _ _) fun _ => trivial
theorem ixV_ne (x y : Val) : (ixV x y).ne := by unfold ixV; (repeat' split) <;> trivial
theorem slV_ne (x : Val) (l h : Option Int) : (slV x l h).ne := by unfold slV; (repeat' split) <;> trivial
theorem biV_ne (f : String) (xs : List Val) : (biV f xs).ne := by
  unfold biV lenF absF minF maxF sumF anyF allF sortF dmF
  split <;> (repeat' split) <;> trivial
theorem tyV_ne (f : String) (xs : List Val) : (tyV f xs).ne := by
  unfold tyV intF strF listF tupF
  split <;> (repeat' split) <;> trivial
theorem meV_ne (f : String) (x : Val) (xs : List Val) : (meV f x xs).ne := by
  unfold meV getF joinF splitF countF indexF
  split <;> (repeat' split) <;> trivial

/-! ### a def's promise -/
def spF (g : Gx) (n : Nat) (h : List T → R Val) : Sp := fun vs H Q E => ∃ F ts, Same F H ∧ RepL g F vs ts ∧ ts.length = n ∧ po (h ts) (pV g H F Q) (exq g H F E)
/-- .. of an __init__: the new object is the caller's no more -/
def cutA (H : Hp) (x : Addr) : Hp := fun a => if a = x then none else H a
def spI (g : Gx) (n : Nat) (c : String) (h : List T → R Val) : Sp := fun vs H Q E => ∃ F ts x dx ws, vs = .ref x :: ws ∧ H x = some (.ins (g.cls c) dx []) ∧ F x = none ∧ Same F H ∧ RepL g F ws ts ∧ ts.length = n ∧
  po (h ts) (fun y => ∀ H' F', Grow (cutA H x) F H' F' → VRep g H' F' (.ref x) y → (match y with
    | .v _ => True
    | _ => False) → Q .non H') (exq g (cutA H x) F E)

/-! ### defs called where an exception is held -/
/-- what is said of the exceptions that are held at p -/
def PinsAt (g : Gx) (p : Addr × Obj) : Prop := ∀ a c d, g.pin a = some (c, d) → a = p.1 ∧ L2N.Zn (.ref (g.cls c)) d p.2 ∧ ∃ vs, p.2.data = .fields vs
structure FnP (P : Program) (w : World) (K : PySem.W.Frag) (mg : Str → Option Value) (base : Heap) (CX : CXT) (k : Nat) (f : Addr) (fd : FuncData) (ps : List Str) (sp : Addr × Obj → Sp) : Prop where
  len : ∀ p vs H Q E, sp p vs H Q E → vs.length = ps.length
  run : ∀ (A : Around) (outer : List PySem.Env) (s : Shared) (H : Hp) (args : Args) (us : List Value) (vs : List V) (Q : VK) (E : XK) (p : Addr × Obj), L2H.RoomH k A → L2H.PinOk outer H s p → Env0 P w K mg base A outer s H → BindsTo s fd args (ps.zip us) → Vals vs us → sp p vs H Q E →
    codeAny (model P w) A (.call (.ref f) args) (CR CX outer P w H s Q E) s
def spP (g : Gx) (n : Nat) (h : List T → R Val) : Addr × Obj → Sp := fun p vs H Q E => ∃ (g' : Gx) (F : Hp) (ts : List T), g'.K = g.K ∧ g'.cls = g.cls ∧ PinsAt g' p ∧ Same F H ∧ RepL g' F vs ts ∧ ts.length = n ∧ po (h ts) (pV g' H F Q) (exq g' H F E)
theorem FunD.okP {P : Program} {w : World} {K : PySem.W.Frag} {mg : Str → Option Value} {base : Heap} {x qual : Str} {params : Arguments} {body : List Stmt} {scope : Scope} {dvs : List V} {kws : List (Str × V)} {f : Addr} {fd : FuncData} {CX : CXT} {N ps : List Str} {k : Nat} {sp : Addr × Obj → Sp}
    (F : FunD K x qual params body scope dvs kws f fd) (S : FnScope N ps scope) (len : ∀ p vs H Q E, sp p vs H Q E → vs.length = ps.length)
    (hbody : ∀ (cdv : Value) (A : Around) (outer : List PySem.Env) (s : Shared) (H : Hp) (vs : List V) (Q : VK) (E : XK) (p : Addr × Obj), L2H.RoomH k (A.deeper (envOfC qual scope s.heap.objs.size f cdv)) → sp p vs H Q E →
      ∃ t, PSs (L2H.cxH CX P w K mg base N qual scope f cdv A outer s H E p) body t ∧ t { nx := fun _ H' => Q .non H', rt := Q } (L2.start N vs) H) : FnP P w K mg base CX (k + 1) f fd ps sp := by
  obtain ⟨oc, od, dV, kV, doc, pm, an, cdv, ct, osl, rfl, lk, hcd, _, _⟩ := F.ex
  refine ⟨len, fun A outer s H args us vs Q E p hr hpin e0 hb r hsp => ?_⟩
  have hl := len p _ _ _ _ hsp
  have KX : K.In s.heap := e0.mod.kin.keeps fun b o e => (e0.bs b o e).1
  have lim : s.heap.NoLimit := e0.mod.nolimit.keeps fun b o e => (e0.bs b o e).1
  have hkind : ∀ y ∈ ps.zip us, scope.names.lookup y.1 = some .local ∨ (scope.names.lookup y.1 = some .cell ∧ ((cellsFrom (s.heap.objs.size + 1) scope.names []).lookup y.1).isSome = true) := fun ⟨n, v⟩ hy =>
    (S.par n (List.of_mem_zip hy).1).imp id fun q => ⟨q, PySem.W.cellsFrom_some _ _ _ (.inl q)⟩
  refine codeAny_call_function hr.depth (KX _ _ lk) rfl S.co S.gen rfl (PySem.W.codeRec_of KX hcd) (hb _ _ _ _ ?_)
  refine wpAny_newFunctionEnv_cells S.kind hkind fun env he s1 x => ?_
  subst he
  refine ⟨lim.keeps x.toInCall.keep, codeAny_func ?_⟩
  obtain ⟨t, ht, hq⟩ := hbody cdv A outer s H vs Q E p (hr.deeper _) hsp
  have I := L2H.inv_startH (CX := CX) (P := P) (E := E) S hpin e0 hl r x
  refine wpAny_mono (ht.run [] s1 (L2.start N vs) H _ I hq) (fun fl s' hs => ?_) fun e s' hs => hs
  have fin : ∀ {σ' : L2.St} {H' : Hp} {v : V} {u : Value}, Inv (L2H.cxH CX P w K mg base N qual scope f cdv A outer s H E p) [] σ' H' s' → RelV v u → Q v H' → CE outer P w H s Q u s' :=
    fun {σ' H' v u} J rv q => ⟨v, H', J.os, J.bare, J.base, J.hok, rv, q⟩
  cases fl with
  | next => obtain ⟨σ', H', J, q⟩ := hs; exact fin (v := V.non) (u := Value.none) J rfl q
  | ret u => obtain ⟨v, σ', H', J, rv, q⟩ := hs; exact fin J rv q
  | brk => obtain ⟨_, _, _, q⟩ := hs; exact q.elim
  | cont => obtain ⟨_, _, _, q⟩ := hs; exact q.elim
section
variable {X : Cx} {CX : CXT} {k : Nat} {f : Addr} {fd : FuncData} {ps : List Str} {sp : Addr × Obj → Sp} {E : L2.St → XK} {x : Str} {q pos : Pos} {e : Expr} {es : List Expr} {t : TA} {p : Addr × Obj}
theorem run_fnP {pins : List (Addr × Obj)} {σ : L2.St} {H : Hp} {s : Shared} {Q : VK} {us : List Value} {vs : List V} (F : FnP X.prog X.w X.K X.mg X.base CX k f fd ps sp) (hr : L2H.RoomH k X.A) (hp : p ∈ X.pn) (hb : Binds X.K fd ps []) (hx : PassesAt CX X σ (E σ))
    (I : Inv X pins σ H s) (r : Vals vs us) (h : sp p vs H Q (E σ)) : wpAny (model X.prog X.w) X.A (call (.ref f) us) (EP X pins σ Q) X.xe s := by
  have hl : us.length = ps.length := by rw [← r.length]; exact F.len _ _ _ _ _ h
  have b := hb s us I.kIn (by rw [List.append_nil]; exact hl)
  rw [List.append_nil] at b
  obtain ⟨p1, p2, p3, p4, p5⟩ := I.pin p (List.mem_append_left _ hp)
  have hpin : L2H.PinOk X.stack H s p := ⟨p1, p2, fun hm => (List.mem_cons.mp (I.stkSub p.1 hm)).elim p3 p4, p5⟩
  refine wpAny_call (codeAny_mono (F.run X.A X.stack s H ⟨us, []⟩ us vs Q (E σ) p hr hpin I.env0 b r h) fun r s' hq => ?_)
  cases r with
  | error e => exact hx pins H s e s' I hq
  | ok fl => cases fl with
    | ret u => exact I.after hq
    | next => exact hq.elim
    | brk => exact hq.elim
    | cont => exact hq.elim
theorem pe_callP (F : FnP X.prog X.w X.K X.mg X.base CX k f fd ps sp) (hr : L2H.RoomH k X.A) (hp : p ∈ X.pn) (hg : Gl X x) (hm : X.mg x = some (.ref f)) (hk : PySem.W.keepIn X.K (.ref f) = true) (hb : Binds X.K fd ps []) (hx : ∀ σ, PassesAt CX X σ (E σ))
    (ha : PA X (e :: es) t) (hdb : (x == ("__debug__" : Str)) = false) (he : starEach (e :: es) X.env = (false, eval e X.env) :: starEach es X.env) (hpl : (backTo pos (starEach es X.env)).any (·.1) = false) :
    PE X (.Call (.Name x q) (e :: es) [] pos) (tCallS (sp p) E t) :=
  ⟨fun pins s σ H Q I h => wpAny_Call_Name_kw (ld_glob I hg hm (PySem.W.callWith_K (h₀ := X.base) I.ok.mod.kin hk (thn (ha.run pos pins s σ H _ I h) fun us s1 ⟨vs, H1, I1, r, q⟩ => ⟨I1.kIn, run_fnP F hr hp hb (hx σ) I1 r q⟩) he hpl) hdb)⟩
theorem pe_callP0 (F : FnP X.prog X.w X.K X.mg X.base CX k f fd ps sp) (hr : L2H.RoomH k X.A) (hp : p ∈ X.pn) (hg : Gl X x) (hm : X.mg x = some (.ref f)) (hk : PySem.W.keepIn X.K (.ref f) = true) (hb : Binds X.K fd ps []) (hx : ∀ σ, PassesAt CX X σ (E σ)) (hdb : (x == ("__debug__" : Str)) = false) :
    PE X (.Call (.Name x q) [] [] pos) (tCallS (sp p) E tNil) :=
  ⟨fun pins s σ H Q I h => wpAny_Call_Name_kw (ld_glob I hg hm (PySem.W.callWith_K0 I.kIn hk (run_fnP (us := []) F hr hp hb (hx σ) I .nil h)) hdb)⟩
end
/-! ### contexts -/
/-- the written scope and the one that stands -/
def ScR (sc sc' : Scope) : Prop := ∀ x, sc'.names.lookup x = sc.names.lookup x ∨ (sc.names.lookup x = some .free ∧ sc'.names.lookup x = some .cell)
structure DefOk (cm : Bool) (X : Cx) (cx : CXT) (g : Gx) (k : Nat) (x : String) (h : List T → R Val) : Prop where
  ex : ∃ (a : Addr) (fd : FuncData) (ps : List Str) (n j : Nat), (cm = true → FnOk X.prog X.w X.K X.mg X.base cx j a fd ps (spF g n h)) ∧ (cm = false → FnP X.prog X.w X.K X.mg X.base cx j a fd ps (spP g n h)) ∧ j ≤ k ∧ X.mg (Str.ofString x) = some (.ref a) ∧ PySem.W.keepIn X.K (.ref a) = true ∧ Binds X.K fd ps [] ∧ ∀ ts, ts.length ≠ n → h ts = .no
structure ClsOk (X : Cx) (cx : CXT) (g : Gx) (k : Nat) (x : String) (h : List T → R Val) : Prop where
  ex : ∃ (a : Addr) (fd : FuncData) (ps : List Str) (n j : Nat), Mk X.K (g.cls x) a ∧ FnOk X.prog X.w X.K X.mg X.base cx j a fd ps (spI g n x h) ∧ j + 1 ≤ k ∧ X.mg (Str.ofString x) = some (.ref (g.cls x)) ∧ Binds X.K fd ps [] ∧ ∀ ts, ts.length ≠ n → h ts = .no
/-- an exception's class -/
structure ErrC (X : Cx) (C : Addr) : Prop where
  ex : ExcC X.K C
  exi : PySem.W.excIn X.K C [.type "ValueError", .type "Exception", .type "BaseException", .type "object"] "ValueError.__new__" = true
  kp : PySem.W.keepIn X.K (.ref C) = true
  ty : PySem.W.typeIn X.K (.ref C) = some (.type "type")
structure Gd (cm : Bool) (g : Gx) (Φ : Fe) (cx : CXT) (k : Nat) (N : List Str) (sc : Scope) (W : WX) (X : Cx) : Prop where
  hK : X.K = g.K
  hN : X.N = N
  nd : N.Nodup
  scr : ScR sc X.env.scope
  fnc : ∀ x, sc.names.lookup x = some .cell → X.fn x = true
  calm : cm = true → X.calm = true
  hdl : cm = true → X.A.handled = none
  room : L2H.RoomH k X.A
  np : cm = true → ∀ a, g.pin a = none
  hot : cm = false → ∃ p, p ∈ X.pn ∧ PinsAt g p
  own : PassesOwn (model X.prog X.w) X.A X.env X.xe
  pas : ∀ σ, PassesAt cx X σ (WE W σ)
  nov : ∀ (l : List PySem.Env) (H : Hp) (s : Shared) (e : Value) (s' : Shared), cx l H s (fun _ _ _ => False) e s' → False
  free : ∀ f ∈ FR, X.mg (Str.ofString f) = none
  glb : ∀ x v, Φ.glb x = .ok v → ∃ t w u, v = .v t ∧ X.mg (Str.ofString x) = some u ∧ RelV w u ∧ ∀ F, Rep g F w t
  glx : ∀ x, (Φ.glb x).ne
  dfs : ∀ x h, Φ.fn x = some h → DefOk cm X cx g k x h
  hfs : ∀ x h, Φ.hfn x = some h → DefOk false X cx g k x h
  cls : ∀ x h, Φ.cs x = some h → ClsOk X cx g k x h
  isa : ∀ d c b, Φ.isa d c = some b → PySem.W.kitOne X.K (clV g d) (clV g c) = some b ∧ (∀ n, d = .own n → InsOk X.K (g.cls n)) ∧ (∀ n, d = .exn n → ExcC X.K (g.cls n))
  exm : ∀ d c b, Φ.exm d c = some b → PySem.W.exmOne X.K (.ref (g.cls d)) (.ref (g.cls c)) = some b ∧ X.mg (Str.ofString c) = some (.ref (g.cls c))
  r1f : ∀ c, Φ.r1 c = false
  ers : ∀ c, Φ.rm c = true → ErrC X (g.cls c) ∧ X.mg (Str.ofString c) = some (.ref (g.cls c))
  cmg : ∀ n, Φ.cn n = true → X.mg (Str.ofString n) = some (.ref (g.cls n))
  fok : ∀ c f, Φ.fok c f = true → Cls X.K (g.cls c) ∧ NoAttr X.K (g.cls c) (Str.ofString f)

theorem Gd.roomR {cm : Bool} {g : Gx} {Φ : Fe} {cx : CXT} {k : Nat} {N : List Str} {sc : Scope} {W : WX} {X : Cx} (C : Gd cm g Φ cx k N sc W X) (h : cm = true) : Room k X.A := ⟨C.hdl h, C.room.dp, C.room.un⟩
theorem rh64 {k : Nat} {A : Around} (r : L2H.RoomH k A) : A.units + 65 < cLine := by have := r.un; omega
section
variable {N : List Str} {sc : Scope}
theorem ScR.vis {sc' : Scope} (h : ScR sc sc') {i : Nat} (v : visB N sc i = true) : Vis sc' (nmOf N i) ∧ N[i]? = some (nmOf N i) ∧ (nmOf N i == ("__debug__" : Str)) = false ∧ (nmOf N i == ("__classdict__" : Str)) = false := by
  unfold visB at v
  simp only [Bool.and_eq_true, decide_eq_true_eq, Bool.not_eq_true'] at v
  obtain ⟨⟨⟨h1, h2⟩, h3⟩, h4⟩ := v
  refine ⟨?_, ?_, h3, h4⟩
  · rcases h (nmOf N i) with e | ⟨e1, e2⟩
    · unfold Vis
      rw [e]
      split at h2 <;> first | exact .inl (by assumption) | exact .inr (.inl (by assumption)) | exact .inr (.inr (by assumption)) | cases h2
    · exact .inr (.inl e2)
  · unfold nmOf
    rw [List.getD_eq_getElem?_getD, List.getElem?_eq_getElem h1]
    rfl
theorem ScR.loc {sc' : Scope} (h : ScR sc sc') {i : Nat} (v : locB N sc i = true) : L2.Loc sc' (nmOf N i) ∧ N[i]? = some (nmOf N i) ∧ (sc.names.lookup (nmOf N i) = some .cell ∨ sc'.names.lookup (nmOf N i) = some .local) := by
  unfold locB at v
  simp only [Bool.and_eq_true, decide_eq_true_eq] at v
  obtain ⟨h1, h2⟩ := v
  have hi : N[i]? = some (nmOf N i) := by
    unfold nmOf
    rw [List.getD_eq_getElem?_getD, List.getElem?_eq_getElem h1]
    rfl
  rcases h (nmOf N i) with e | ⟨e1, e2⟩
  · unfold L2.Loc
    split at h2
    · rename_i z
      exact ⟨.inl (e.trans z), hi, .inr (e.trans z)⟩
    · rename_i z
      exact ⟨.inr (e.trans z), hi, .inl z⟩
    · cases h2
  · rw [e1] at h2
    cases h2
theorem ScR.glo {X : Cx} (h : ScR sc X.env.scope) {x : String} (v : glB sc x = true) : Gl X (Str.ofString x) ∧ (Str.ofString x == ("__debug__" : Str)) = false ∧ (Str.ofString x == ("super" : Str)) = false ∧ Str.ofString x ≠ "__name__" := by
  unfold glB at v
  simp only [Bool.and_eq_true, Bool.not_eq_true'] at v
  obtain ⟨⟨⟨h1, h2⟩, h3⟩, h4⟩ := v
  refine ⟨?_, h2, h3, fun z => by
    have z' : Str.ofString x = Str.ofString "__name__" := z
    rw [z'] at h4
    have : (Str.ofString "__name__" == Str.ofString "__name__") = true := by decide
    rw [this] at h4
    cases h4⟩
  show X.env.scope.names.lookup (Str.ofString x) = some .globalImplicit
  rcases h (Str.ofString x) with e | ⟨e1, e2⟩
  · rw [e]
    split at h1
    · assumption
    · cases h1
  · rw [e1] at h1
    cases h1
end
end Lr

set_option Elab.async false
set_option linter.all false
set_option maxRecDepth 100000
set_option maxHeartbeats 1000000
/-! SndG: the rules for expressions. -/
namespace Lr
open PySem PySem.Spec PyProof.Rows L2
/-! ### the form's small facts -/
section
variable {N : List Str} {env : PySem.Env}
theorem st_cons (m : E) (π : PT) (es : List Expr) : starEach (pyE N m π :: es) env = (false, eval (pyE N m π) env) :: starEach es env := by cases m <;> rfl
theorem st_any : ∀ (es : Es) (l : List PT) (pos : Pos), (backTo pos (starEach (pyEs N es l) env)).any (·.1) = false
  | .nil, _, _ => rfl
  | .cons e es, l, pos => by
    show (backTo pos (starEach (pyE N e (hd l) :: pyEs N es l.tail) env)).any (·.1) = false
    rw [st_cons]
    show (false || (backTo pos (starEach (pyEs N es l.tail) env)).any (·.1)) = false
    rw [st_any es l.tail pos]
    rfl
theorem st_few : ∀ (es : Es) (l : List PT) (pos : Pos), (backTo pos (starEach (pyEs N es l) env)).all (fun x => !x.1) = true
  | .nil, _, _ => rfl
  | .cons e es, l, pos => by
    show (backTo pos (starEach (pyE N e (hd l) :: pyEs N es l.tail) env)).all (fun x => !x.1) = true
    rw [st_cons]
    show (true && (backTo pos (starEach (pyEs N es l.tail) env)).all (fun x => !x.1)) = true
    rw [st_few es l.tail pos]
    rfl
theorem py_len : ∀ (es : Es) (l : List PT), (pyEs N es l).length = es.len
  | .nil, _ => rfl
  | .cons e es, l => congrArg (· + 1) (py_len es l.tail)
theorem ab_pl (m : E) (π : PT) (f : Str) (wh : Sem Value) (h : m.pl = true) : attributeBase (pyE N m π) f env wh = wh := by
  cases m with
  | call f es => cases es with
    | nil => cases h
    | cons e es => rfl
  | mk f es => cases es with
    | nil => cases h
    | cons e es => rfl
  | bi f es => cases es with
    | nil => cases h
    | cons e es => rfl
  | ty f es => cases es with
    | nil => cases h
    | cons e es => rfl
  | _ => rfl
theorem bm_py (op : CmpOp) (m : E) (π : PT) : behindInMarks op (pyE N m π) = false := by cases m <;> rfl
theorem ix_py (m : E) (π : PT) : PlainIx (pyE N m π) := by intro o i; cases m <;> rfl
theorem fs_py (m : E) (π : PT) (x : Value) : foldedSetIterable (pyE N m π) env x = pure x := by cases m <;> rfl
end

section
variable {cm : Bool} {g : Gx} {Φ : Fe} {cx : CXT} {k : Nat} {N : List Str} {sc : Scope} {W : WX} {X : Cx}
def tR (g : Gx) (W : WX) (f : Lr.Env → R Val) : TE := fun σ H Q => ∃ B ρ F, SR g B ρ σ H F ∧ po (f ρ) (pV g H F Q) (exq g H F (WE W σ))
def tRB {α : Type} (g : Gx) (W : WX) (f : Lr.Env → R α) : L2.St → Hp → (α → Hp → Prop) → Prop := fun σ H Q => ∃ B ρ F, SR g B ρ σ H F ∧ po (f ρ) (pP H F Q) (exq g H F (WE W σ))
def tRA (g : Gx) (W : WX) (f : Lr.Env → R (List Val)) : TA := fun σ H Q => ∃ B ρ F, SR g B ρ σ H F ∧ po (f ρ) (pA g H F Q) (exq g H F (WE W σ))
theorem PE.imp {e : Expr} {t t' : TE} (h : PE X e t) (k : ∀ σ H Q, t' σ H Q → t σ H Q) : PE X e t' := ⟨fun pins s σ H Q I q => h.run pins s σ H Q I (k σ H Q q)⟩
theorem PT.imp {e : Expr} {t t' : TT} (h : L2.PT X e t) (k : ∀ σ H Q, t' σ H Q → t σ H Q) : L2.PT X e t' := ⟨fun pins s σ H Q I q => h.run pins s σ H Q I (k σ H Q q)⟩
theorem PW.imp {e : Expr} {t t' : TT} (h : L2.PW X e t) (k : ∀ σ H Q, t' σ H Q → t σ H Q) : L2.PW X e t' := ⟨fun wh pins s σ H Q I q => h.run wh pins s σ H Q I (k σ H Q q)⟩
theorem PA.imp {e : List Expr} {t t' : TA} (h : PA X e t) (k : ∀ σ H Q, t' σ H Q → t σ H Q) : PA X e t' := ⟨fun pos pins s σ H Q I q => h.run pos pins s σ H Q I (k σ H Q q)⟩
/-- a value now -/
theorem pV.now {H F : Hp} {Q : VK} {t : T} {v : V} (s : Same F H) (h : pV g H F Q (.v t)) (r : Rep g F v t) : Q v H := h v H F (.refl s) r trivial
theorem SR.fh {B : Bs} {ρ : Lr.Env} {σ : L2.St} {H F : Hp} (S : SR g B ρ σ H F) : Same F H := S.wd.fh
/-- the next part -/
theorem tR.step {B : Bs} {ρ : Lr.Env} {σ : L2.St} {H F : Hp} {fa : Lr.Env → R Val} {f : Val → R Val} {Q : VK} (S : SR g B ρ σ H F) (h : po ((fa ρ).bind f) (pV g H F Q) (exq g H F (WE W σ))) {Q1 : VK}
    (k : ∀ x v H1 F1, Grow H F H1 F1 → SR g B ρ σ H1 F1 → VRep g H1 F1 v x → po (f x) (pV g H1 F1 Q) (exq g H1 F1 (WE W σ)) → Q1 v H1) : tR g W fa σ H Q1 :=
  ⟨B, ρ, F, S, h.bind.im fun x hx v H1 F1 gr r _ => k x v H1 F1 gr (S.grow gr) r (hx.gV gr)⟩
theorem tR.stepP {α : Type} {B : Bs} {ρ : Lr.Env} {σ : L2.St} {H F : Hp} {fa : Lr.Env → R Val} {f : Val → R α} {Q : α → Hp → Prop} (S : SR g B ρ σ H F) (h : po ((fa ρ).bind f) (pP H F Q) (exq g H F (WE W σ))) {Q1 : VK}
    (k : ∀ x v H1 F1, Grow H F H1 F1 → SR g B ρ σ H1 F1 → VRep g H1 F1 v x → po (f x) (pP H1 F1 Q) (exq g H1 F1 (WE W σ)) → Q1 v H1) : tR g W fa σ H Q1 :=
  ⟨B, ρ, F, S, h.bind.im fun x hx v H1 F1 gr r _ => k x v H1 F1 gr (S.grow gr) r (hx.gP gr)⟩
theorem tRA.step {B : Bs} {ρ : Lr.Env} {σ : L2.St} {H F : Hp} {fa : Lr.Env → R (List Val)} {f : List Val → R Val} {Q : VK} (S : SR g B ρ σ H F) (h : po ((fa ρ).bind f) (pV g H F Q) (exq g H F (WE W σ))) {Q1 : List V → Hp → Prop}
    (k : ∀ xs vs H0 F0 H1 F1, Grow H F H0 F0 → Ar g H0 F0 vs xs H1 F1 → SR g B ρ σ H1 F1 → po (f xs) (pV g H F Q) (exq g H F (WE W σ)) → Q1 vs H1) : tRA g W fa σ H Q1 :=
  ⟨B, ρ, F, S, h.bind.im fun xs hx vs H0 F0 H1 F1 gr r => k xs vs H0 F0 H1 F1 gr r (S.grow (gr.trans r.fh)) hx⟩
theorem asI_po {x : Val} {α : Type} {f : Int → R α} {P : α → Prop} {Z : String → List T → Prop} {H F : Hp} {v : V} (h : po ((asI x).bind f) P Z) (r : VRep g H F v x) : ∃ i, v = .int i ∧ po (f i) P Z := by
  cases x with
  | v t => cases t with
    | int i => cases r; exact ⟨i, rfl, h⟩
    | _ => exact h.elim
  | _ => exact h.elim
theorem asB_po {x : Val} {α : Type} {f : Bool → R α} {P : α → Prop} {Z : String → List T → Prop} {H F : Hp} {v : V} (h : po ((asB x).bind f) P Z) (r : VRep g H F v x) : ∃ i, v = .bl i ∧ x = .v (.bl i) ∧ po (f i) P Z := by
  cases x with
  | v t => cases t with
    | bl i => cases r; exact ⟨i, rfl, rfl, h⟩
    | _ => exact h.elim
  | _ => exact h.elim
theorem asB_p {x : Val} {P : Bool → Prop} {Z : String → List T → Prop} {H F : Hp} {v : V} (h : po (asB x) P Z) (r : VRep g H F v x) : ∃ i, v = .bl i ∧ P i := by
  cases x with
  | v t => cases t with
    | bl i => cases r; exact ⟨i, rfl, h⟩
    | _ => exact h.elim
  | _ => exact h.elim
/-! ### names, constants -/
theorem g_v (C : Gd cm g Φ cx k N sc W X) {i : Nat} {pos : Pos} (ok : visB N sc i = true) : PE X (.Name (nmOf N i) pos) (tR g W (evE Φ (.v i))) := by
  obtain ⟨h1, h2, h3, h4⟩ := C.scr.vis ok
  refine PE.imp (pe_var (i := i) (by rw [C.hN]; exact h2) h1 h3 h4) fun σ H Q => ?_
  rintro ⟨B, ρ, F, S, h⟩
  rw [evE] at h
  cases e : rd ρ i with
  | ok x =>
    rw [e] at h
    obtain ⟨v, h5, h6, h7⟩ := S.rd e
    exact ⟨v, h5, h v H F (.refl S.fh) h6 h7⟩
  | exc c fs =>
    unfold rd at e
    split at e <;> cases e
  | no => rw [e] at h; exact h.elim
theorem g_int {i : Int} {j : Nat} {pos : Pos} : PE X (.Constant (.int i) j pos) (tR g W (evE Φ (.int i))) := PE.imp pe_int fun σ H Q ⟨B, ρ, F, S, h⟩ => pV.now S.fh (by rw [evE] at h; exact h) (.int i)
theorem g_bl {i : Bool} {j : Nat} {pos : Pos} : PE X (.Constant (.bool i) j pos) (tR g W (evE Φ (.bl i))) := PE.imp pe_bl fun σ H Q ⟨B, ρ, F, S, h⟩ => pV.now S.fh (by rw [evE] at h; exact h) (.bl i)
theorem g_non {j : Nat} {pos : Pos} : PE X (.Constant .none j pos) (tR g W (evE Φ .non)) := PE.imp pe_non fun σ H Q ⟨B, ρ, F, S, h⟩ => pV.now S.fh (by rw [evE] at h; exact h) .non
theorem g_str {i : String} {j : Nat} {pos : Pos} : PE X (.Constant (.str (Str.ofString i)) j pos) (tR g W (evE Φ (.str i))) := PE.imp pe_str fun σ H Q ⟨B, ρ, F, S, h⟩ => pV.now S.fh (by rw [evE] at h; exact h) (.str _)
theorem PE.never {e : Expr} {t : TE} (h : ∀ σ H Q, ¬ t σ H Q) : PE X e t := ⟨fun _ _ σ H Q _ q => (h σ H Q q).elim⟩
theorem g_glb (C : Gd cm g Φ cx k N sc W X) {x : String} {pos : Pos} (ok : glB sc x = true) : PE X (.Name (Str.ofString x) pos) (tR g W (evE Φ (.glb x))) := by
  obtain ⟨h1, h2, h3, h4⟩ := C.scr.glo ok
  cases e : Φ.glb x with
  | ok v =>
    obtain ⟨t, w, u, rfl, h5, h6, h7⟩ := C.glb x v e
    exact PE.imp (pe_glob h1 h5 h6 h2) fun σ H Q ⟨B, ρ, F, S, h⟩ => pV.now S.fh (by rw [evE, e] at h; exact h) (h7 F)
  | exc c fs =>
    have := C.glx x
    rw [e] at this
    exact this.elim
  | no => exact PE.never fun σ H Q ⟨B, ρ, F, S, h⟩ => by rw [evE, e] at h; exact h
/-! ### operators -/
theorem cmp_fin {H F : Hp} {r : R Bool} {Q : VK} {Z : String → List T → Prop} (h : po (r.bind fun k => .ok (.v (.bl k))) (pV g H F Q) Z) (n : r.ne) : postB r H F (fun b H' => Q (.bl b) H') := by
  cases r with
  | ok b => exact fun H' F' gr => h (.bl b) H' F' gr (.bl b) trivial
  | exc c fs => exact n.elim
  | no => exact h
theorem cmp_finT {H F : Hp} {r : R Bool} {Q : Bool → Hp → Prop} {Z : String → List T → Prop} (h : po (r.bind fun k => asB (.v (.bl k))) (pP H F Q) Z) (n : r.ne) : postB r H F (fun b H' => ∃ k, V.bl b = .bl k ∧ Q k H') := by
  cases r with
  | ok b => exact fun H' F' gr => ⟨b, rfl, h H' F' gr⟩
  | exc c fs => exact n.elim
  | no => exact h
theorem g_bin {op : Operator} {a b : E} {ea eb : Expr} {pos : Pos} (ha : PE X ea (tR g W (evE Φ a))) (hb : PE X eb (tR g W (evE Φ b))) : PE X (.BinOp ea op eb pos) (tR g W (evE Φ (.bin op a b))) := by
  refine PE.imp (pe_op (op_binV (g := g) op) ha hb) fun σ H Q ⟨B, ρ, F, S, h⟩ => ?_
  rw [evE] at h
  exact tR.step S h fun x v H1 F1 _ S1 r h => tR.step S1 h fun y w H2 F2 g2 S2 r2 h =>
    ⟨F2, x, y, S2.fh, r.grow g2, r2, h.op (binV_ne op x y)⟩
theorem g_neg {a : E} {ea : Expr} {pos : Pos} (ha : PE X ea (tR g W (evE Φ a))) : PE X (.UnaryOp .USub ea pos) (tR g W (evE Φ (.neg a))) := by
  refine PE.imp (pe_un un_neg ha) fun σ H Q ⟨B, ρ, F, S, h⟩ => ?_
  rw [evE] at h
  exact tR.step S h fun x v H1 F1 _ S1 r h => by
    obtain ⟨i, rfl, h⟩ := asI_po h r
    exact ⟨i, rfl, pV.now S1.fh h (.int (-i))⟩
theorem bind_assoc' {α β γ : Type} (r : R α) (f : α → R β) (h : β → R γ) : (r.bind f).bind h = r.bind fun a => (f a).bind h := by cases r <;> rfl
theorem g_cmp (C : Gd cm g Φ cx k N sc W X) {op : CmpOp} {a b : E} {ea : Expr} {π : PT} {pos : Pos} (ha : PE X ea (tR g W (evE Φ a))) (hb : PE X (pyE N b π) (tR g W (evE Φ b))) : PE X (.Compare ea [op] [pyE N b π] pos) (tR g W (evE Φ (.cmp op a b))) := by
  refine PE.imp (pe_cmpR (op_cmpV C.hK op (by have := rh64 C.room; omega)) ha hb (bm_py op b π)) fun σ H Q ⟨B, ρ, F, S, h⟩ => ?_
  rw [evE] at h
  exact tR.step S h fun x v H1 F1 _ S1 r h => tR.step S1 h fun y w H2 F2 g2 S2 r2 h =>
    ⟨F2, x, y, S2.fh, r.grow g2, r2, cmp_fin h (cmpV_ne op x y)⟩
theorem g_cmpT (C : Gd cm g Φ cx k N sc W X) {op : CmpOp} {a b : E} {ea : Expr} {π : PT} {pos : Pos} (ha : PE X ea (tR g W (evE Φ a))) (hb : PE X (pyE N b π) (tR g W (evE Φ b))) : L2.PT X (.Compare ea [op] [pyE N b π] pos) (tRB g W (fun ρ => (evE Φ (.cmp op a b) ρ).bind asB)) := by
  refine PT.imp (pt_cmpR (op_cmpV C.hK op (by have := rh64 C.room; omega)) ha hb (bm_py op b π)) fun σ H Q ⟨B, ρ, F, S, h⟩ => ?_
  simp only [evE, bind_assoc', R.bind_ok] at h
  exact tR.stepP S h fun x v H1 F1 _ S1 r h => tR.stepP S1 h fun y w H2 F2 g2 S2 r2 h =>
    ⟨F2, x, y, S2.fh, r.grow g2, r2, cmp_finT h (cmpV_ne op x y)⟩
theorem g_cmp2 (C : Gd cm g Φ cx k N sc W X) {op op2 : CmpOp} {a b c : E} {ea : Expr} {π π2 : PT} {pos : Pos} (ha : PE X ea (tR g W (evE Φ a))) (hb : PE X (pyE N b π) (tR g W (evE Φ b))) (hc : PE X (pyE N c π2) (tR g W (evE Φ c))) : PE X (.Compare ea [op, op2] [pyE N b π, pyE N c π2] pos) (tR g W (evE Φ (.cmp2 op op2 a b c))) := by
  refine PE.imp (pe_chain (op_cmpV C.hK op (by have := rh64 C.room; omega)) (op_cmpV C.hK op2 (by have := rh64 C.room; omega)) ha hb hc (bm_py op2 c π2)) fun σ H Q ⟨B, ρ, F, S, h⟩ => ?_
  rw [evE] at h
  exact tR.step S h fun x v H1 F1 _ S1 r h => tR.step S1 h fun y w H2 F2 g2 S2 r2 h => by
    refine ⟨F2, x, y, S2.fh, r.grow g2, r2, ?_⟩
    have hn := cmpV_ne op x y
    cases e : cmpV op x y with
    | ok j =>
      rw [e] at h
      intro H3 F3 g3
      refine ⟨j, rfl, ?_⟩
      have h3 := po.gV h g3
      cases j with
      | false => exact pV.now (S2.grow g3).fh h3 (.bl false)
      | true => exact tR.step (S2.grow g3) h3 fun z u H4 F4 g4 S4 r4 h => ⟨F4, y, z, S4.fh, (r2.grow g3).grow g4, r4, cmp_fin h (cmpV_ne op2 y z)⟩
    | exc d fs => rw [e] at hn; exact hn.elim
    | no => rw [e] at h; exact h
theorem g_cmp2T (C : Gd cm g Φ cx k N sc W X) {op op2 : CmpOp} {a b c : E} {ea : Expr} {π π2 : PT} {pos : Pos} (ha : PE X ea (tR g W (evE Φ a))) (hb : PE X (pyE N b π) (tR g W (evE Φ b))) (hc : PE X (pyE N c π2) (tR g W (evE Φ c))) : L2.PT X (.Compare ea [op, op2] [pyE N b π, pyE N c π2] pos) (tRB g W (fun ρ => (evE Φ (.cmp2 op op2 a b c) ρ).bind asB)) := by
  refine PT.imp (pt_chain (op_cmpV C.hK op (by have := rh64 C.room; omega)) (op_cmpV C.hK op2 (by have := rh64 C.room; omega)) ha hb hc (bm_py op2 c π2)) fun σ H Q ⟨B, ρ, F, S, h⟩ => ?_
  simp only [evE, bind_assoc', R.bind_ok] at h
  exact tR.stepP S h fun x v H1 F1 _ S1 r h => tR.stepP S1 h fun y w H2 F2 g2 S2 r2 h => by
    refine ⟨F2, x, y, S2.fh, r.grow g2, r2, ?_⟩
    have hn := cmpV_ne op x y
    cases e : cmpV op x y with
    | ok j =>
      rw [e] at h
      intro H3 F3 g3
      refine ⟨j, rfl, ?_⟩
      have h3 := po.gP h g3
      cases j with
      | false => exact ⟨false, rfl, h3 H3 F3 (Grow.refl (S2.grow g3).fh)⟩
      | true =>
        have h3 : po (((evE Φ c ρ).bind fun z => (cmpV op2 y z).bind fun j => .ok (.v (.bl j))).bind asB) (pP H3 F3 Q) (exq g H3 F3 (WE W σ)) := h3
        simp only [bind_assoc', R.bind_ok] at h3
        exact tR.stepP (S2.grow g3) h3 fun z u H4 F4 g4 S4 r4 h => ⟨F4, y, z, S4.fh, (r2.grow g3).grow g4, r4, cmp_finT h (cmpV_ne op2 y z)⟩
    | exc d fs => rw [e] at hn; exact hn.elim
    | no => rw [e] at h; exact h
/-- a test by its value -/
theorem t_val {f : Lr.Env → R Val} {e : Expr} (h : PE X e (tR g W f)) (he : ∀ whole, isTrue e X.env whole = (do let v ← whole; standAt e.pos; holding [v] (truthy v))) : L2.PT X e (tRB g W (fun ρ => (f ρ).bind asB)) :=
  PT.imp (pt_val h he) fun σ H Q ⟨B, ρ, F, S, h⟩ => tR.stepP S h fun x v H1 F1 _ S1 r h => by
    obtain ⟨i, rfl, h⟩ := asB_p h r
    exact ⟨i, rfl, h H1 F1 (.refl S1.fh)⟩
/-- a step of a test -/
theorem tRB.step {α β : Type} {B : Bs} {ρ : Lr.Env} {σ : L2.St} {H F : Hp} {fa : Lr.Env → R α} {f : α → R β} {Q : β → Hp → Prop} (S : SR g B ρ σ H F) (h : po ((fa ρ).bind f) (pP H F Q) (exq g H F (WE W σ))) {Q1 : α → Hp → Prop}
    (k : ∀ x H1 F1, Grow H F H1 F1 → SR g B ρ σ H1 F1 → po (f x) (pP H1 F1 Q) (exq g H1 F1 (WE W σ)) → Q1 x H1) : tRB g W fa σ H Q1 :=
  ⟨B, ρ, F, S, h.bind.im fun x hx H1 F1 gr => k x H1 F1 gr (S.grow gr) (hx.gP gr)⟩
theorem tRB.stepV {α : Type} {B : Bs} {ρ : Lr.Env} {σ : L2.St} {H F : Hp} {fa : Lr.Env → R α} {f : α → R Val} {Q : VK} (S : SR g B ρ σ H F) (h : po ((fa ρ).bind f) (pV g H F Q) (exq g H F (WE W σ))) {Q1 : α → Hp → Prop}
    (k : ∀ x H1 F1, Grow H F H1 F1 → SR g B ρ σ H1 F1 → po (f x) (pV g H1 F1 Q) (exq g H1 F1 (WE W σ)) → Q1 x H1) : tRB g W fa σ H Q1 :=
  ⟨B, ρ, F, S, h.bind.im fun x hx H1 F1 gr => k x H1 F1 gr (S.grow gr) (hx.gV gr)⟩
theorem g_not {a : E} {ea : Expr} {pos : Pos} (ha : PE X ea (tR g W (evE Φ a))) : PE X (.UnaryOp .Not ea pos) (tR g W (evE Φ (.not a))) := by
  refine PE.imp (pe_not ha) fun σ H Q ⟨B, ρ, F, S, h⟩ => ?_
  rw [evE] at h
  exact tR.step S h fun x v H1 F1 _ S1 r h => by
    obtain ⟨i, rfl, _, h⟩ := asB_po h r
    exact ⟨i, rfl, pV.now S1.fh h (.bl (!i))⟩
theorem g_notT {a : E} {ea : Expr} {pos : Pos} (ha : L2.PT X ea (tRB g W fun ρ => (evE Φ a ρ).bind asB)) : L2.PT X (.UnaryOp .Not ea pos) (tRB g W fun ρ => (evE Φ (.not a) ρ).bind asB) := by
  refine PT.imp (pt_not ha) fun σ H Q ⟨B, ρ, F, S, h⟩ => ?_
  have h : po (((evE Φ a ρ).bind asB).bind fun b => asB (.v (.bl (!b)))) (pP H F Q) (exq g H F (WE W σ)) := by
    simp only [evE, bind_assoc', R.bind_ok] at h ⊢
    exact h
  exact tRB.step (fa := fun ρ => (evE Φ a ρ).bind asB) S h fun b H1 F1 _ S1 h => h H1 F1 (.refl S1.fh)
/-! ### and, or -/
theorem g_and {a : E} {r : Es} {ea b : Expr} {rest : List Expr} {pos : Pos} (ha : PE X ea (tR g W (evE Φ a))) (hr : PE X (.BoolOp .And (b :: rest) pos) (tR g W (evAnd Φ r))) : PE X (.BoolOp .And (ea :: b :: rest) pos) (tR g W (evAnd Φ (.cons a r))) := by
  refine PE.imp (pe_and ha hr) fun σ H Q ⟨B, ρ, F, S, h⟩ => ?_
  rw [evAnd] at h
  exact tR.step S h fun x v H1 F1 _ S1 r h => by
    obtain ⟨i, rfl, _, h⟩ := asB_po h r
    refine ⟨i, rfl, ?_⟩
    cases i with
    | true => exact ⟨B, ρ, F1, S1, h⟩
    | false => exact pV.now S1.fh h (.bl false)
theorem g_or {a : E} {r : Es} {ea b : Expr} {rest : List Expr} {pos : Pos} (ha : PE X ea (tR g W (evE Φ a))) (hr : PE X (.BoolOp .Or (b :: rest) pos) (tR g W (evOr Φ r))) : PE X (.BoolOp .Or (ea :: b :: rest) pos) (tR g W (evOr Φ (.cons a r))) := by
  refine PE.imp (pe_or ha hr) fun σ H Q ⟨B, ρ, F, S, h⟩ => ?_
  rw [evOr] at h
  exact tR.step S h fun x v H1 F1 _ S1 r h => by
    obtain ⟨i, rfl, _, h⟩ := asB_po h r
    refine ⟨i, rfl, ?_⟩
    cases i with
    | false => exact ⟨B, ρ, F1, S1, h⟩
    | true => exact pV.now S1.fh h (.bl true)
theorem g_and1 {a : E} {ea : Expr} {pos : Pos} (ha : PE X ea (tR g W (evE Φ a))) : PE X (.BoolOp .And [ea] pos) (tR g W (evAnd Φ (.cons a .nil))) := by
  refine PE.imp (pe_one ha) fun σ H Q ⟨B, ρ, F, S, h⟩ => ?_
  rw [evAnd] at h
  exact tR.step S h fun x v H1 F1 _ S1 r h => by
    obtain ⟨i, rfl, _, h⟩ := asB_po h r
    cases i with
    | true => rw [if_pos rfl, evAnd] at h; exact pV.now S1.fh h (.bl true)
    | false => exact pV.now S1.fh h (.bl false)
theorem g_or1 {a : E} {ea : Expr} {pos : Pos} (ha : PE X ea (tR g W (evE Φ a))) : PE X (.BoolOp .Or [ea] pos) (tR g W (evOr Φ (.cons a .nil))) := by
  refine PE.imp (pe_one ha) fun σ H Q ⟨B, ρ, F, S, h⟩ => ?_
  rw [evOr] at h
  exact tR.step S h fun x v H1 F1 _ S1 r h => by
    obtain ⟨i, rfl, _, h⟩ := asB_po h r
    cases i with
    | false => rw [if_neg (by decide), evOr] at h; exact pV.now S1.fh h (.bl false)
    | true => exact pV.now S1.fh h (.bl true)
theorem w_and {a : E} {r : Es} {ea b : Expr} {rest : List Expr} {pos : Pos} (ha : L2.PT X ea (tRB g W fun ρ => (evE Φ a ρ).bind asB)) (hr : L2.PW X (.BoolOp .And (b :: rest) pos) (tRB g W fun ρ => (evAnd Φ r ρ).bind asB)) :
    L2.PW X (.BoolOp .And (ea :: b :: rest) pos) (tRB g W fun ρ => (evAnd Φ (.cons a r) ρ).bind asB) := by
  refine PW.imp (pw_and ha hr) fun σ H Q ⟨B, ρ, F, S, h⟩ => ?_
  have h : po (((evE Φ a ρ).bind asB).bind fun b => (if b then evAnd Φ r ρ else .ok (.v (.bl false))).bind asB) (pP H F Q) (exq g H F (WE W σ)) := by
    simp only [evAnd, bind_assoc'] at h ⊢
    exact h
  exact tRB.step (fa := fun ρ => (evE Φ a ρ).bind asB) S h fun b H1 F1 _ S1 h => by
    cases b with
    | true => exact ⟨B, ρ, F1, S1, h⟩
    | false => exact h H1 F1 (.refl S1.fh)
theorem w_or {a : E} {r : Es} {ea b : Expr} {rest : List Expr} {pos : Pos} (ha : L2.PT X ea (tRB g W fun ρ => (evE Φ a ρ).bind asB)) (hr : L2.PW X (.BoolOp .Or (b :: rest) pos) (tRB g W fun ρ => (evOr Φ r ρ).bind asB)) :
    L2.PW X (.BoolOp .Or (ea :: b :: rest) pos) (tRB g W fun ρ => (evOr Φ (.cons a r) ρ).bind asB) := by
  refine PW.imp (pw_or ha hr) fun σ H Q ⟨B, ρ, F, S, h⟩ => ?_
  have h : po (((evE Φ a ρ).bind asB).bind fun b => (if b then .ok (.v (.bl true)) else evOr Φ r ρ).bind asB) (pP H F Q) (exq g H F (WE W σ)) := by
    simp only [evOr, bind_assoc'] at h ⊢
    exact h
  exact tRB.step (fa := fun ρ => (evE Φ a ρ).bind asB) S h fun b H1 F1 _ S1 h => by
    cases b with
    | false => exact ⟨B, ρ, F1, S1, h⟩
    | true => exact h H1 F1 (.refl S1.fh)
theorem w_and1 {a : E} {ea : Expr} {pos : Pos} (ha : L2.PT X ea (tRB g W fun ρ => (evE Φ a ρ).bind asB)) : L2.PW X (.BoolOp .And [ea] pos) (tRB g W fun ρ => (evAnd Φ (.cons a .nil) ρ).bind asB) := by
  refine PW.imp (pw_and1 ha) fun σ H Q ⟨B, ρ, F, S, h⟩ => ?_
  have h : po (((evE Φ a ρ).bind asB).bind fun b => (if b then R.ok (Val.v (.bl true)) else R.ok (Val.v (.bl false))).bind asB) (pP H F Q) (exq g H F (WE W σ)) := by
    simp only [evAnd, bind_assoc'] at h ⊢
    exact h
  exact tRB.step (fa := fun ρ => (evE Φ a ρ).bind asB) S h fun b H1 F1 _ S1 h => by
    cases b <;> exact h H1 F1 (.refl S1.fh)
theorem w_or1 {a : E} {ea : Expr} {pos : Pos} (ha : L2.PT X ea (tRB g W fun ρ => (evE Φ a ρ).bind asB)) : L2.PW X (.BoolOp .Or [ea] pos) (tRB g W fun ρ => (evOr Φ (.cons a .nil) ρ).bind asB) := by
  refine PW.imp (pw_or1 ha) fun σ H Q ⟨B, ρ, F, S, h⟩ => ?_
  have h : po (((evE Φ a ρ).bind asB).bind fun b => (if b then R.ok (Val.v (.bl true)) else R.ok (Val.v (.bl false))).bind asB) (pP H F Q) (exq g H F (WE W σ)) := by
    simp only [evOr, bind_assoc'] at h ⊢
    exact h
  exact tRB.step (fa := fun ρ => (evE Φ a ρ).bind asB) S h fun b H1 F1 _ S1 h => by
    cases b <;> exact h H1 F1 (.refl S1.fh)
/-! ### if-expressions -/
theorem valT_po {x : Val} {H F : Hp} {Q : VK} {Z : String → List T → Prop} {v : V} (h : po (valT x) (pV g H F Q) Z) (s : Same F H) (r : VRep g H F v x) : Q v H := by
  cases x with
  | v t => exact pV.now s h r
  | _ => exact h.elim
theorem g_ite {c a b : E} {ec ea eb : Expr} {pos : Pos} (hc : L2.PT X ec (tRB g W fun ρ => (evE Φ c ρ).bind asB)) (ha : PE X ea (tR g W (evE Φ a))) (hb : PE X eb (tR g W (evE Φ b))) : PE X (.IfExp ec ea eb pos) (tR g W (evE Φ (.ite c a b))) := by
  refine PE.imp (pe_ifExp hc ha hb) fun σ H Q ⟨B, ρ, F, S, h⟩ => ?_
  have h : po (((evE Φ c ρ).bind asB).bind fun k => if k then (evE Φ a ρ).bind valT else (evE Φ b ρ).bind valT) (pV g H F Q) (exq g H F (WE W σ)) := by
    simp only [evE, bind_assoc'] at h ⊢
    exact h
  exact tRB.stepV (fa := fun ρ => (evE Φ c ρ).bind asB) S h fun k H1 F1 _ S1 h => by
    cases k with
    | true =>
      rw [if_pos rfl] at h ⊢
      exact tR.step S1 h fun x v H2 F2 _ S2 r h => valT_po h S2.fh r
    | false =>
      rw [if_neg (by decide)] at h ⊢
      exact tR.step S1 h fun x v H2 F2 _ S2 r h => valT_po h S2.fh r
theorem g_iteT {c a b : E} {ec ea eb : Expr} {pos : Pos} (hc : L2.PT X ec (tRB g W fun ρ => (evE Φ c ρ).bind asB)) (ha : L2.PT X ea (tRB g W fun ρ => (evE Φ a ρ).bind asB)) (hb : L2.PT X eb (tRB g W fun ρ => (evE Φ b ρ).bind asB)) :
    L2.PT X (.IfExp ec ea eb pos) (tRB g W fun ρ => (evE Φ (.ite c a b) ρ).bind asB) := by
  refine ⟨fun pins s σ H Q I ⟨B, ρ, F, S, h⟩ => ?_⟩
  have h : po (((evE Φ c ρ).bind asB).bind fun k => (if k then (evE Φ a ρ).bind valT else (evE Φ b ρ).bind valT).bind asB) (pP H F Q) (exq g H F (WE W σ)) := by
    simp only [evE, bind_assoc'] at h ⊢
    exact h
  have vb : ∀ {r : R Val} {H1 F1 : Hp}, po ((r.bind valT).bind asB) (pP H1 F1 Q) (exq g H1 F1 (WE W σ)) → po (r.bind asB) (pP H1 F1 Q) (exq g H1 F1 (WE W σ)) := fun {r H1 F1} h => by
    cases r with
    | ok x => cases x with
      | v t => exact h
      | _ => exact h.elim
    | _ => exact h
  refine isTrue_IfExp (thn (hc.run pins s σ H (fun k H1 => if k = true then tRB g W (fun ρ => (evE Φ a ρ).bind asB) σ H1 Q else tRB g W (fun ρ => (evE Φ b ρ).bind asB) σ H1 Q) I (tRB.step (fa := fun ρ => (evE Φ c ρ).bind asB) S h fun k H1 F1 _ S1 h => ?_)) fun d s1 ⟨H1, I1, q1⟩ => ?_)
  · cases k with
    | true => exact ⟨B, ρ, F1, S1, vb h⟩
    | false => exact ⟨B, ρ, F1, S1, vb h⟩
  · cases d with
    | true => exact ha.run pins s1 σ H1 Q I1 q1
    | false => exact hb.run pins s1 σ H1 Q I1 q1
/-! ### lists of arguments -/
theorem a_nil : PA X [] (tRA g W (evEs Φ .nil)) := PA.imp pa_nil fun σ H Q ⟨B, ρ, F, S, h⟩ => by
  rw [evEs] at h
  exact h [] H F H F (.refl S.fh) (.nil S.fh)
theorem a_cons {e : E} {es : Es} {π : PT} {r : List Expr} (h1 : PE X (pyE N e π) (tR g W (evE Φ e))) (h2 : PA X r (tRA g W (evEs Φ es))) : PA X (pyE N e π :: r) (tRA g W (evEs Φ (.cons e es))) := by
  refine PA.imp (pa_cons h1 h2 (st_cons _ _ _)) fun σ H Q ⟨B, ρ, F, S, h⟩ => ?_
  rw [evEs] at h
  refine ⟨B, ρ, F, S, h.bind.im fun x hx v H1 F1 gr r n => ⟨B, ρ, F1, S.grow gr, hx.bind.imp (fun xs hxs vs H2 F2 H3 F3 gr2 ar => ?_) fun _ _ => exq.grow gr⟩⟩
  have n2 : NewOk H H2 F2 v x := by
    cases x with
    | v t => trivial
    | ob _ _ _ => trivial
    | l nw ts => cases nw with
      | false => trivial
      | true =>
        obtain ⟨p, rfl, n1, n2⟩ := n
        obtain ⟨_, vs', e', h5, _⟩ := r
        cases e'
        exact ⟨p, rfl, n1, gr2.noneF n2 h5⟩
    | dk nw ts => cases nw with
      | false => trivial
      | true =>
        obtain ⟨p, rfl, n1, n2⟩ := n
        obtain ⟨_, vs', e', h5, _⟩ := r
        cases e'
        exact ⟨p, rfl, n1, gr2.noneF n2 h5⟩
    | dt nw ts => cases nw with
      | false => trivial
      | true =>
        obtain ⟨p, rfl, n1, n2⟩ := n
        obtain ⟨_, vs', e', h5, _⟩ := r
        cases e'
        exact ⟨p, rfl, n1, gr2.noneF n2 h5⟩
  exact hxs (v :: vs) H F H3 F3 (.refl S.fh) (.cons (gr.trans gr2) (r.grow gr2) n2 ar)
theorem g_tup {es : Es} {e : List Expr} {x1 : Nat} {pos : Pos} (ha : PA X e (tRA g W (evEs Φ es))) : PE X (.Tuple e x1 pos) (tR g W (evE Φ (.tup es))) := by
  refine PE.imp (pe_tup ha) fun σ H Q ⟨B, ρ, F, S, h⟩ => ?_
  rw [evE] at h
  exact tRA.step S h fun xs vs H0 F0 H1 F1 gr ar S1 h => by
    cases e : keeps? xs with
    | none => simp only [e] at h; exact h.elim
    | some ts =>
      simp only [e] at h
      obtain ⟨F2, b, _, l⟩ := ar.keep e
      by_cases hf : fitsL ts.length = true
      · rw [if_pos hf] at h
        refine ⟨by rw [l.length]; exact of_decide_eq_true hf, fun p hp => ?_⟩
        have n := Grow.new (o := .tup vs) b.fh hp
        exact h _ _ _ ((gr.trans b).trans n) (.tup upd_same (l.mono n.f)) trivial
      · rw [if_neg hf] at h
        exact h.elim
theorem g_lst {es : Es} {e : List Expr} {pos : Pos} (ha : PA X e (tRA g W (evEs Φ es))) : PE X (.List e pos) (tR g W (evE Φ (.lst es))) := by
  refine PE.imp (pe_lst ha) fun σ H Q ⟨B, ρ, F, S, h⟩ => ?_
  rw [evE] at h
  exact tRA.step S h fun xs vs H0 F0 H1 F1 gr ar S1 h => by
    cases e : keeps? xs with
    | none => simp only [e] at h; exact h.elim
    | some ts =>
      simp only [e] at h
      obtain ⟨F2, b, _, l⟩ := ar.keep e
      by_cases hf : fitsL ts.length = true
      · rw [if_pos hf] at h
        refine ⟨by rw [l.length]; exact of_decide_eq_true hf, fun p hp => ?_⟩
        have n := Grow.own (o := .lst vs) b.fh hp
        exact h _ _ _ ((gr.trans b).trans n) ⟨p, vs, rfl, upd_same, l⟩ ⟨p, rfl, (gr.trans b).h.free hp, b.fh.free hp⟩
      · rw [if_neg hf] at h
        exact h.elim
theorem g_dk {pos : Pos} : PE X (.Dict [] [] pos) (tR g W (evE Φ .dk)) := PE.imp pe_dnewK fun σ H Q ⟨B, ρ, F, S, h⟩ p hp => by
  rw [evE] at h
  exact h _ _ _ (Grow.own S.fh hp) ⟨p, [], rfl, upd_same, .nil⟩ ⟨p, rfl, hp, S.fh.free hp⟩
theorem g_dt {pos : Pos} : PE X (.Dict [] [] pos) (tR g W (evE Φ .dt)) := PE.imp pe_dnewT fun σ H Q ⟨B, ρ, F, S, h⟩ p hp => by
  rw [evE] at h
  exact h _ _ _ (Grow.own S.fh hp) ⟨p, [], rfl, upd_same, .nil⟩ ⟨p, rfl, hp, S.fh.free hp⟩
/-! ### calls -/
theorem pe_callS0 {f : Addr} {fd : FuncData} {ps : List Str} {sp : Sp} {E : L2.St → XK} {x : Str} {p pos : Pos} {k : Nat} (F : FnOk X.prog X.w X.K X.mg X.base cx k f fd ps sp) (hr : Room k X.A) (hg : Gl X x) (hm : X.mg x = some (.ref f)) (hk : PySem.W.keepIn X.K (.ref f) = true) (hb : Binds X.K fd ps []) (hx : ∀ σ, PassesAt cx X σ (E σ))
    (hdb : (x == ("__debug__" : Str)) = false) : PE X (.Call (.Name x p) [] [] pos) (tCallS sp E tNil) := by
  refine ⟨fun pins s σ H Q I h => ?_⟩
  refine wpAny_Call_Name_kw (ld_glob I hg hm ?_ hdb)
  exact PySem.W.callWith_K0 I.kIn hk (run_fnS (us := []) F hr hb (hx σ) I .nil h)
theorem g_call (C : Gd cm g Φ cx k N sc W X) {f : String} {es : Es} {l : List PT} {p pos : Pos} (ok : glB sc f = true) (ha : PA X (pyEs N es l) (tRA g W (evEs Φ es))) :
    PE X (.Call (.Name (Str.ofString f) p) (pyEs N es l) [] pos) (tR g W (evE Φ (.call f es))) := by
  obtain ⟨h1, h2, h3, h4⟩ := C.scr.glo ok
  cases e : Φ.fn f with
  | none => exact PE.never fun σ H Q ⟨B, ρ, F, S, h⟩ => by simp only [evE, e] at h; exact h
  | some h =>
    obtain ⟨a, fd, ps, n, j, G, G0, hj, hm, kp, hb, hn⟩ := (C.dfs f h e).ex
    have fin : ∀ σ H Q, tR g W (evE Φ (.call f es)) σ H Q → tRA g W (evEs Φ es) σ H fun vs H1 => spF g n h vs H1 Q (WE W σ) := fun σ H Q ⟨B, ρ, F, S, q⟩ => by
      simp only [evE, e] at q
      exact tRA.step S q fun xs vs H0 F0 H1 F1 gr ar S1 q => by
        obtain ⟨L, ts, sL, lr, q, qv⟩ := call_ok gr ar q
        refine ⟨L, ts, sL, lr, ?_, q⟩
        cases Nat.decEq ts.length n with
        | isTrue z => exact z
        | isFalse z => rw [hn ts z] at q; exact q.elim
    cases hcm : cm with
    | true =>
      cases es with
      | nil =>
        refine PE.imp (pe_callS0 (G hcm) ((C.roomR hcm).mono hj) h1 hm kp hb C.pas h2) fun σ H Q q => ?_
        obtain ⟨B, ρ, F, S, q⟩ := fin σ H Q q
        rw [evEs] at q
        exact q [] H F H F (.refl S.fh) (.nil S.fh)
      | cons e1 es1 => exact PE.imp (pe_callS (G hcm) ((C.roomR hcm).mono hj) h1 hm kp hb C.pas ha h2 (st_cons _ _ _) (st_any _ _ _)) fin
    | false =>
      obtain ⟨p, hp, hpa⟩ := C.hot hcm
      have up : ∀ {vs H Q σ}, spF g n h vs H Q (WE W σ) → spP g n h p vs H Q (WE W σ) := fun ⟨F, ts, s, l, e, q⟩ => ⟨g, F, ts, rfl, rfl, hpa, s, l, e, q⟩
      cases es with
      | nil =>
        refine PE.imp (pe_callP0 (G0 hcm) (C.room.mono hj) hp h1 hm kp hb C.pas h2) fun σ H Q q => ?_
        obtain ⟨B, ρ, F, S, q⟩ := fin σ H Q q
        rw [evEs] at q
        exact up (q [] H F H F (.refl S.fh) (.nil S.fh))
      | cons e1 es1 =>
        refine PE.imp (pe_callP (G0 hcm) (C.room.mono hj) hp h1 hm kp hb C.pas ha h2 (st_cons _ _ _) (st_any _ _ _)) fun σ H Q q => ?_
        obtain ⟨B, ρ, F, S, q⟩ := fin σ H Q q
        exact ⟨B, ρ, F, S, q.im fun xs q vs H0 F0 H1 F1 gr ar => up (q vs H0 F0 H1 F1 gr ar)⟩
section
variable {CX : CXT} {j : Nat} {f C : Addr} {fd : FuncData} {ps : List Str} {sp : Sp} {E : L2.St → XK} {x : Str} {p pos : Pos} {e : Expr} {es : List Expr} {t : TA}
def tMakeS (C : Addr) (sp : Sp) (E : L2.St → XK) (t : TA) : TE := fun σ H Q => t σ H fun vs H1 => ∀ x dx, H1 x = none → H1 dx = none → dx ≠ x →
  sp (.ref x :: vs) (upd (upd H1 dx (.own x)) x (.ins C dx [])) (fun v H2 => v = .non ∧ Q (.ref x) H2) (E σ)
theorem run_makeS {pins : List (Addr × Obj)} {σ : L2.St} {H : Hp} {s : Shared} {Q : VK} {us : List Value} {vs : List V} (M : Mk X.K C f) (F : FnOk X.prog X.w X.K X.mg X.base CX j f fd ps sp) (hr : Room (j + 1) X.A) (hb : Binds X.K fd ps []) (hx : PassesAt CX X σ (E σ))
    (I : Inv X pins σ H s) (r : Vals vs us) (h : ∀ x dx, H x = none → H dx = none → dx ≠ x → sp (.ref x :: vs) (upd (upd H dx (.own x)) x (.ins C dx [])) (fun v H2 => v = .non ∧ Q (.ref x) H2) (E σ)) :
    wpAny (model X.prog X.w) X.A (call (.ref C) us) (EP X pins σ Q) X.xe s := by
  have h1 := h (s.heap.objs.size + 1) s.heap.objs.size (I.hok.fresh (Nat.le_succ _)) (I.hok.fresh (Nat.le_refl _)) (Nat.ne_of_lt (Nat.lt_succ_self _))
  have J := Inv.made (C := C) I
  have r2 : Vals (V.ref (s.heap.objs.size + 1) :: vs) (Value.ref (s.heap.objs.size + 1) :: us) := .cons rfl r
  have hl : (Value.ref (s.heap.objs.size + 1) :: us).length = ps.length := by rw [← r2.length]; exact F.len _ _ _ _ h1
  have b := hb _ (Value.ref (s.heap.objs.size + 1) :: us) J.kIn (by rw [List.append_nil]; exact hl)
  rw [List.append_nil] at b
  refine wpAny_call (make_map (f := f) I.kIn M.makes M.init (beq_iff_eq.mp M.fn) (codeAny_mono (F.run _ X.stack _ _ _ _ _ _ (E σ) (hr.make C us []) (J.env0.make C us []) b r2 h1) fun r s' hq => ?_))
  cases r with
  | error e => exact hx pins _ _ e s' J hq
  | ok fl => cases fl with
    | ret u =>
      obtain ⟨v, H', I3, rv, ev, q3⟩ := J.after hq
      subst ev
      exact ⟨rv, ⟨V.ref (s.heap.objs.size + 1), H', I3, rfl, q3⟩⟩
    | next => exact hq.elim
    | brk => exact hq.elim
    | cont => exact hq.elim
theorem pe_makeS (M : Mk X.K C f) (F : FnOk X.prog X.w X.K X.mg X.base CX j f fd ps sp) (hr : Room (j + 1) X.A) (hg : Gl X x) (hm : X.mg x = some (.ref C)) (hb : Binds X.K fd ps []) (hx : ∀ σ, PassesAt CX X σ (E σ))
    (ha : PA X (e :: es) t) (hdb : (x == ("__debug__" : Str)) = false) (he : starEach (e :: es) X.env = (false, eval e X.env) :: starEach es X.env) (hpl : (backTo pos (starEach es X.env)).any (·.1) = false) :
    PE X (.Call (.Name x p) (e :: es) [] pos) (tMakeS C sp E t) :=
  ⟨fun pins s σ H Q I h => wpAny_Call_Name_kw (ld_glob I hg hm (PySem.W.callWith_K (h₀ := X.base) I.ok.mod.kin M.kp (thn (ha.run pos pins s σ H _ I h) fun us s1 ⟨vs, H1, I1, r, q⟩ => ⟨I1.kIn, run_makeS M F hr hb (hx σ) I1 r q⟩) he hpl) hdb)⟩
theorem pe_makeS0 (M : Mk X.K C f) (F : FnOk X.prog X.w X.K X.mg X.base CX j f fd ps sp) (hr : Room (j + 1) X.A) (hg : Gl X x) (hm : X.mg x = some (.ref C)) (hb : Binds X.K fd ps []) (hx : ∀ σ, PassesAt CX X σ (E σ)) (hdb : (x == ("__debug__" : Str)) = false) :
    PE X (.Call (.Name x p) [] [] pos) (tMakeS C sp E tNil) :=
  ⟨fun pins s σ H Q I h => wpAny_Call_Name_kw (ld_glob I hg hm (PySem.W.callWith_K0 I.kIn M.kp (run_makeS (us := []) M F hr hb (hx σ) I .nil h)) hdb)⟩
end
theorem g_mk (C : Gd cm g Φ cx k N sc W X) (hcm : cm = true) {f : String} {es : Es} {l : List PT} {p pos : Pos} (ok : glB sc f = true) (ha : PA X (pyEs N es l) (tRA g W (evEs Φ es))) :
    PE X (.Call (.Name (Str.ofString f) p) (pyEs N es l) [] pos) (tR g W (evE Φ (.mk f es))) := by
  obtain ⟨h1, h2, h3, h4⟩ := C.scr.glo ok
  cases e : Φ.cs f with
  | none => exact PE.never fun σ H Q ⟨B, ρ, F, S, h⟩ => by simp only [evE, e] at h; exact h
  | some h =>
    obtain ⟨a, fd, ps, n, j, M, G, hj, hm, hb, hn⟩ := (C.cls f h e).ex
    have fin : ∀ σ H Q, tR g W (evE Φ (.mk f es)) σ H Q → tRA g W (evEs Φ es) σ H fun vs H1 => ∀ x dx, H1 x = none → H1 dx = none → dx ≠ x →
        spI g n f h (.ref x :: vs) (upd (upd H1 dx (.own x)) x (.ins (g.cls f) dx [])) (fun v H2 => v = .non ∧ Q (.ref x) H2) (WE W σ) := fun σ H Q ⟨B, ρ, F, S, q⟩ => by
      simp only [evE, e] at q
      exact tRA.step S q fun xs vs H0 F0 H1 F1 gr ar S1 q => by
        obtain ⟨L, ts, sL, lr, q, qv⟩ := call_ok gr ar q
        intro x dx hx hdx hne
        have s1 : Same H1 (upd (upd H1 dx (.own x)) x (.ins (g.cls f) dx [])) := fun b o q => by
          rw [upd_ne (ne_of_none q hx), upd_ne (ne_of_none q hdx)]
          exact q
        have s2 : Same H1 (cutA (upd (upd H1 dx (.own x)) x (.ins (g.cls f) dx [])) x) := fun b o q => by
          unfold cutA
          rw [if_neg (ne_of_none q hx)]
          exact s1 _ _ q
        have g3 : ∀ {H' F' : Hp}, Grow (cutA (upd (upd H1 dx (.own x)) x (.ins (g.cls f) dx [])) x) L H' F' → Grow H1 L H' F' := fun gr2 => ⟨s2.trans gr2.h, gr2.f, gr2.fh, fun b o q => by
          rcases gr2.nw b o q with z | z | z
          · exact .inl z
          · exact .inr (.inl (s2.free z))
          · exact .inr (.inr z)⟩
        refine ⟨L, ts, x, dx, vs, rfl, upd_same, sL.free hx, sL.trans s1, lr, ?_, q.imp (fun y hy H' F' gr2 ry hv => ⟨rfl, ?_⟩) fun c fs hy H' F' cls d gr2 er => hy H' F' cls d (g3 gr2) er⟩
        · cases Nat.decEq ts.length n with
          | isTrue z => exact z
          | isFalse z => rw [hn ts z] at q; exact q.elim
        · cases y with
          | v t => exact hy _ H' F' (g3 gr2) ry trivial
          | _ => exact hv.elim
    cases es with
    | nil =>
        refine PE.imp (pe_makeS0 M G ((C.roomR hcm).mono hj) h1 hm hb C.pas h2) fun σ H Q q => ?_
        obtain ⟨B, ρ, F, S, q⟩ := fin σ H Q q
        rw [evEs] at q
        exact q [] H F H F (.refl S.fh) (.nil S.fh)
    | cons e1 es1 => exact PE.imp (pe_makeS M G ((C.roomR hcm).mono hj) h1 hm hb C.pas ha h2 (st_cons _ _ _) (st_any _ _ _)) fin
theorem g_bi (C : Gd cm g Φ cx k N sc W X) {f : String} (hcm : (cm || decide (f = "len")) = true) {es : Es} {l : List PT} {p pos : Pos} (ok : glB sc f = true) (hf : f ∈ BI) (hn : es.isNil = false) (ha : PA X (pyEs N es l) (tRA g W (evEs Φ es))) :
    PE X (.Call (.Name (Str.ofString f) p) (pyEs N es l) [] pos) (tR g W (evE Φ (.bi f es))) := by
  obtain ⟨h1, h2, h3, h4⟩ := C.scr.glo ok
  have hm : X.mg (Str.ofString f) = none := C.free f (by simp only [BI, List.mem_cons, List.not_mem_nil, or_false] at hf; rcases hf with rfl | rfl | rfl | rfl | rfl | rfl | rfl | rfl | rfl <;> decide)
  have hcm : f ≠ "len" → cm = true := fun z => (Bool.or_eq_true _ _ ▸ hcm : cm = true ∨ _).resolve_right fun w => z (of_decide_eq_true w)
  have hc : CallR X (.builtin f) (rC g (biV f)) ∧ bootBuiltins (Str.ofString f) = some (.builtin f) := by
    simp only [BI, List.mem_cons, List.not_mem_nil, or_false] at hf
    rcases hf with rfl | rfl | rfl | rfl | rfl | rfl | rfl | rfl | rfl
    · exact ⟨bi_len, by decide +kernel⟩
    · exact ⟨bi_abs, by decide +kernel⟩
    · exact ⟨bi_min (C.calm (hcm fun z => absurd z (by decide))), by decide +kernel⟩
    · exact ⟨bi_max (C.calm (hcm fun z => absurd z (by decide))), by decide +kernel⟩
    · exact ⟨bi_sum (C.calm (hcm fun z => absurd z (by decide))), by decide +kernel⟩
    · exact ⟨bi_any (C.calm (hcm fun z => absurd z (by decide))), by decide +kernel⟩
    · exact ⟨bi_all (C.calm (hcm fun z => absurd z (by decide))), by decide +kernel⟩
    · exact ⟨bi_sorted (C.calm (hcm fun z => absurd z (by decide))), by decide +kernel⟩
    · exact ⟨bi_dm, by decide +kernel⟩
  cases es with
  | nil => cases hn
  | cons e1 es1 =>
    refine PE.imp (pe_callB hc.1 h1 hm hc.2 ha h4 h2 (st_cons _ _ _) (st_any _ _ _)) fun σ H Q ⟨B, ρ, F, S, h⟩ => ?_
    rw [evE] at h
    exact tRA.step S h fun xs vs H0 F0 H1 F1 gr ar S1 h => ⟨F1, xs, S1.fh, ar.rep, (h.gV (gr.trans ar.fh)).op (biV_ne f xs)⟩
theorem g_ty (C : Gd cm g Φ cx k N sc W X) {f : String} {es : Es} {l : List PT} {p pos : Pos} (ok : glB sc f = true) (hf : f ∈ TY) (hn : es.isNil = false) (ha : PA X (pyEs N es l) (tRA g W (evEs Φ es))) :
    PE X (.Call (.Name (Str.ofString f) p) (pyEs N es l) [] pos) (tR g W (evE Φ (.ty f es))) := by
  obtain ⟨h1, h2, h3, h4⟩ := C.scr.glo ok
  have hm : X.mg (Str.ofString f) = none := C.free f (by simp only [TY, List.mem_cons, List.not_mem_nil, or_false] at hf; rcases hf with rfl | rfl | rfl | rfl <;> decide)
  have hc : CallR X (.type f) (rC g (tyV f)) ∧ bootBuiltins (Str.ofString f) = some (.type f) := by
    simp only [TY, List.mem_cons, List.not_mem_nil, or_false] at hf
    rcases hf with rfl | rfl | rfl | rfl
    · exact ⟨ty_int, by decide +kernel⟩
    · exact ⟨ty_str, by decide +kernel⟩
    · exact ⟨ty_list, by decide +kernel⟩
    · exact ⟨ty_tuple, by decide +kernel⟩
  cases es with
  | nil => cases hn
  | cons e1 es1 =>
    refine PE.imp (pe_callTy hc.1 h1 hm hc.2 ha h4 h2 (st_cons _ _ _) (st_any _ _ _)) fun σ H Q ⟨B, ρ, F, S, h⟩ => ?_
    rw [evE] at h
    exact tRA.step S h fun xs vs H0 F0 H1 F1 gr ar S1 h => ⟨F1, xs, S1.fh, ar.rep, (h.gV (gr.trans ar.fh)).op (tyV_ne f xs)⟩
/-! ### fields, places, slices -/
theorem zipLook {F : Hp} {f : Str} : ∀ {ns : List Str} {vs : List V} {ts : List T} {t : T}, ns.length = vs.length → RepL g F vs ts → (ns.zip ts).lookup f = some t → ∃ v, (ns.zip vs).lookup f = some v ∧ Rep g F v t
  | [], _, _, _, _, _, h => by simp at h
  | n :: ns, [], _, _, e, _, _ => by simp at e
  | n :: ns, v :: vs, _, t, e, .cons r l, h => by
    simp only [List.zip_cons_cons, List.lookup_cons] at h ⊢
    cases hb : f == n with
    | true => simp only [hb] at h ⊢; cases h; exact ⟨v, rfl, r⟩
    | false => simp only [hb] at h ⊢; exact zipLook (by simpa using e) l h
theorem g_fld (C : Gd cm g Φ cx k N sc W X) {o : E} {π : PT} {f : String} {pos : Pos} (hp : o.pl = true) (ho : PE X (pyE N o π) (tR g W (evE Φ o))) : PE X (.Attribute (pyE N o π) (Str.ofString f) pos) (tR g W (evE Φ (.fld o f))) := by
  refine PE.imp (pe_fld ho (ab_pl o π _ _ hp)) fun σ H Q ⟨B, ρ, F, S, h⟩ => ?_
  rw [evE] at h
  exact tR.step S h fun x v H1 F1 _ S1 r h => by
    cases x with
    | v t => cases t with
      | ins c ns ts =>
        cases hk : Φ.fok c f with
        | false => simp only [hk] at h; exact h.elim
        | true =>
          simp only [hk, if_true] at h
          cases r with
          | ins h1 n l =>
            cases e : (ns.zip ts).lookup (Str.ofString f) with
            | none => rw [e] at h; exact h.elim
            | some t =>
              rw [e] at h
              obtain ⟨v, h2, h3⟩ := zipLook n l e
              obtain ⟨c1, c2⟩ := C.fok c f hk
              exact ⟨_, _, _, _, v, rfl, S1.fh _ _ h1, c1, c2, h2, pV.now S1.fh h h3⟩
      | _ => exact h.elim
    | ob c ns ts =>
      cases hk : Φ.fok c f with
      | false => simp only [hk] at h; exact h.elim
      | true =>
        simp only [hk, if_true] at h
        obtain ⟨a, dx, xs, rfl, h1, n, l⟩ := r
        cases e : (ns.zip ts).lookup (Str.ofString f) with
        | none => rw [e] at h; exact h.elim
        | some t =>
          rw [e] at h
          obtain ⟨v, h2, h3⟩ := zipLook n l e
          obtain ⟨c1, c2⟩ := C.fok c f hk
          exact ⟨_, _, _, _, v, rfl, h1, c1, c2, h2, pV.now S1.fh h h3⟩
    | _ => exact h.elim
theorem g_ix (C : Gd cm g Φ cx k N sc W X) {a b : E} {ea : Expr} {π : PT} {pos : Pos} (ha : PE X ea (tR g W (evE Φ a))) (hb : PE X (pyE N b π) (tR g W (evE Φ b))) : PE X (.Subscript ea (pyE N b π) pos) (tR g W (evE Φ (.ix a b))) := by
  refine PE.imp (pe_ix (ix_V C.hK ((by have := rh64 C.room; omega))) ha hb (ix_py b π)) fun σ H Q ⟨B, ρ, F, S, h⟩ => ?_
  rw [evE] at h
  exact tR.step S h fun x v H1 F1 _ S1 r h => tR.step S1 h fun y w H2 F2 g2 S2 r2 h => ⟨F2, x, y, S2.fh, r.grow g2, r2, h.op (ixV_ne x y)⟩
theorem o_none : PO X none (tRB g W (evEo Φ .no)) := ⟨fun pins s σ H Q I ⟨B, ρ, F, S, h⟩ => po_none.run pins s σ H Q I (by
  rw [evEo] at h
  exact h H F (.refl S.fh))⟩
theorem o_some {e : E} {ee : Expr} (he : PE X ee (tR g W (evE Φ e))) : PO X (some ee) (tRB g W (evEo Φ (.so e))) := ⟨fun pins s σ H Q I ⟨B, ρ, F, S, h⟩ => (po_some he).run pins s σ H Q I (by
  rw [evEo] at h
  exact tR.stepP S h fun x v H1 F1 _ S1 r h => by
    obtain ⟨i, rfl, h⟩ := asI_po h r
    exact ⟨i, rfl, h H1 F1 (.refl S1.fh)⟩)⟩
theorem g_sl {a : E} {lo hi : Eo} {ea : Expr} {el eh : Option Expr} {pos p2 : Pos} (ha : PE X ea (tR g W (evE Φ a))) (hl : PO X el (tRB g W (evEo Φ lo))) (hh : PO X eh (tRB g W (evEo Φ hi))) :
    PE X (.Subscript ea (.Slice el eh none p2) pos) (tR g W (evE Φ (.sl a lo hi))) := by
  refine PE.imp (pe_slice (sl_V (g := g)) ha hl hh) fun σ H Q ⟨B, ρ, F, S, h⟩ => ?_
  rw [evE] at h
  exact tR.step S h fun x v H1 F1 _ S1 r h => tRB.stepV S1 h fun l H2 F2 g2 S2 h => tRB.stepV S2 h fun u H3 F3 g3 S3 h => ⟨F3, x, S3.fh, r.grow (g2.trans g3), h.op (slV_ne x l u)⟩
/-! ### isinstance -/
theorem pe_tyN {x : Str} {n : String} {pos : Pos} (hg : Gl X x) (hm : X.mg x = none) (hv : bootBuiltins x = some (.type n)) (hn : x ≠ "__name__") (hd : (x == ("__debug__" : Str)) = false) : PE X (.Name x pos) (tC (.ty n)) :=
  ⟨fun pins s σ H Q I h => ld_blt I hg hm hv ⟨.ty n, H, I, rfl, h⟩ hn hd⟩
def clW (g : Gx) : Cl → V
  | .ty n => .ty n
  | .own c => .ref (g.cls c)
  | .exn c => .ref (g.cls c)
theorem g_isi (C : Gd cm g Φ cx k N sc W X) {e : E} {c : Cl} {π : PT} {p p2 pos : Pos} (ok : glB sc "isinstance" = true) (okc : c.okB sc = true) (he : PE X (pyE N e π) (tR g W (evE Φ e))) :
    PE X (.Call (.Name (Str.ofString "isinstance") p) [pyE N e π, .Name c.str p2] [] pos) (tR g W (evE Φ (.isi e c))) := by
  obtain ⟨h1, h2, h3, h4⟩ := C.scr.glo ok
  have hm : X.mg (Str.ofString "isinstance") = none := C.free _ (by decide)
  cases kn : c.known Φ with
  | false => exact PE.never fun σ H Q ⟨B, ρ, F, S, h⟩ => by simp only [evE, kn] at h; exact h
  | true =>
    have hc : PE X (.Name c.str p2) (tC (clW g c)) := by
      cases c with
      | ty n =>
        simp only [Cl.okB, Bool.and_eq_true, decide_eq_true_eq] at okc
        obtain ⟨o1, o2⟩ := okc
        obtain ⟨k1, k2, k3, k4⟩ := C.scr.glo o1
        have hb : bootBuiltins (Str.ofString n) = some (.type n) ∧ n ∈ FR := by
          simp only [IT, List.mem_cons, List.not_mem_nil, or_false] at o2
          rcases o2 with rfl | rfl | rfl | rfl | rfl | rfl <;> exact ⟨by decide +kernel, by decide⟩
        exact pe_tyN k1 (C.free n hb.2) hb.1 k4 k2
      | own n =>
        obtain ⟨k1, k2, k3, k4⟩ := C.scr.glo okc
        exact pe_glob k1 (C.cmg n kn) rfl k2
      | exn n => cases okc
    have hs : starEach [pyE N e π, .Name c.str p2] X.env = (false, eval (pyE N e π) X.env) :: starEach [.Name c.str p2] X.env := st_cons _ _ _
    refine PE.imp (pe_callB (call_isi.or call_isEx) h1 hm (by decide +kernel) (pa_cons he (pa_cons hc pa_nil) hs) h4 h2 hs) fun σ H Q ⟨B, ρ, F, S, h⟩ => ?_
    simp only [evE, kn, if_true] at h
    exact tR.step S h fun x v H1 F1 _ S1 r h => by
      cases e1 : x.cl? with
      | none => simp only [e1] at h; exact h.elim
      | some d =>
        simp only [e1] at h
        cases e2 : Φ.isa d c with
        | none => simp only [e2] at h; exact h.elim
        | some b =>
          simp only [e2] at h
          obtain ⟨k1, k2, k3⟩ := C.isa d c b e2
          have kc : ClsV (clW g c) (clV g c) := by
            cases c with
            | ty n => exact .ty n
            | own n => exact .own _
            | exn n => exact .own _
          cases d with
          | exn n =>
            have ex := k3 n rfl
            have hx : ∃ a, v = .ref a ∧ HeldE X H1 a (g.cls n) := by
              cases x with
              | v t =>
                cases r with
                | err h5 =>
                  simp only [Val.cl?, Option.some.injEq, Cl.exn.injEq] at e1
                  subst e1
                  refine ⟨_, rfl, ?_⟩
                  rcases h5 with h5 | h5
                  · exact .inl (S1.fh _ _ h5)
                  · cases hcm : cm with
                    | true => rw [C.np hcm] at h5; cases h5
                    | false =>
                      obtain ⟨p, hp, hpa⟩ := C.hot hcm
                      obtain ⟨rfl, hz, hf⟩ := hpa _ _ _ h5
                      exact .inr ⟨p.2, hp, hz, hf⟩
                | _ => simp only [Val.cl?, Option.some.injEq, reduceCtorEq] at e1
              | l nw ts => simp only [Val.cl?, Option.some.injEq, reduceCtorEq] at e1
              | _ => simp only [Val.cl?, reduceCtorEq] at e1
            obtain ⟨a, rfl, hh⟩ := hx
            exact .inr ⟨a, g.cls n, clW g c, clV g c, b, rfl, kc, ex, hh, k1, pV.now S1.fh h (.bl b)⟩
          | ty n => exact .inl ⟨v, clW g c, clV g (.ty n), clV g c, b, rfl, kc, tyX_ok S1.fh r e1 k2 (fun _ z => nomatch z), k1, pV.now S1.fh h (.bl b)⟩
          | own n => exact .inl ⟨v, clW g c, clV g (.own n), clV g c, b, rfl, kc, tyX_ok S1.fh r e1 k2 (fun _ z => nomatch z), k1, pV.now S1.fh h (.bl b)⟩
theorem cls_pe (C : Gd cm g Φ cx k N sc W X) {c : Cl} {p2 : Pos} (okc : c.okB sc = true) (kn : c.known Φ = true) : PE X (.Name c.str p2) (tC (clW g c)) := by
  cases c with
  | ty n =>
    simp only [Cl.okB, Bool.and_eq_true, decide_eq_true_eq] at okc
    obtain ⟨o1, o2⟩ := okc
    obtain ⟨k1, k2, k3, k4⟩ := C.scr.glo o1
    have hb : bootBuiltins (Str.ofString n) = some (.type n) ∧ n ∈ FR := by
      simp only [IT, List.mem_cons, List.not_mem_nil, or_false] at o2
      rcases o2 with rfl | rfl | rfl | rfl | rfl | rfl <;> exact ⟨by decide +kernel, by decide⟩
    exact pe_tyN k1 (C.free n hb.2) hb.1 k4 k2
  | own n =>
    obtain ⟨k1, k2, k3, k4⟩ := C.scr.glo okc
    exact pe_glob k1 (C.cmg n kn) rfl k2
  | exn n => cases okc
theorem cls_pa (C : Gd cm g Φ cx k N sc W X) : ∀ {cs : List Cl} {l : List PT}, (cs.all fun c => c.okB sc) = true → cs.all (Cl.known Φ) = true → PA X (pyCls cs l) (fun σ H Q => Q (cs.map (clW g)) H)
  | [], l, _, _ => PA.imp pa_nil fun σ H Q h => h
  | c :: cs, l, o, kn => by
    simp only [List.all_cons, Bool.and_eq_true] at o kn
    exact PA.imp (pa_cons (cls_pe C o.1 kn.1) (cls_pa C o.2 kn.2) (by rfl)) fun σ H Q h => h
theorem clV_all {g : Gx} : ∀ cs : List Cl, Paired ClsV (cs.map (clW g)) (cs.map (clV g))
  | [] => .nil
  | c :: cs => .cons (by cases c <;> constructor) (clV_all cs)
theorem isa_any {d : Cl} (h : ∀ c b, Φ.isa d c = some b → PySem.W.kitOne X.K (clV g d) (clV g c) = some b) : ∀ (cs : List Cl) (b : Bool), isaAny Φ d cs = some b → PySem.W.kitAny X.K (clV g d) (cs.map (clV g)) = some b
  | [], b, e => by cases e; rfl
  | c :: cs, b, e => by
    unfold isaAny at e
    rw [List.map_cons]
    unfold PySem.W.kitAny
    cases e1 : Φ.isa d c with
    | none => rw [e1] at e; cases e
    | some t =>
      rw [e1] at e
      rw [h c t e1]
      cases t with
      | true => exact e
      | false => exact isa_any h cs b e
theorem g_isiT (C : Gd cm g Φ cx k N sc W X) {e : E} {cs : List Cl} {π : PT} {l : List PT} {p p2 pos : Pos} (ok : glB sc "isinstance" = true) (okc : (cs.all fun c => c.okB sc) = true) (hne : cs ≠ []) (hlen : cs.length < 100) (he : PE X (pyE N e π) (tR g W (evE Φ e))) :
    PE X (.Call (.Name (Str.ofString "isinstance") p) [pyE N e π, .Tuple (pyCls cs l) 0 p2] [] pos) (tR g W (evE Φ (.isiT e cs))) := by
  obtain ⟨h1, h2, h3, h4⟩ := C.scr.glo ok
  have hm : X.mg (Str.ofString "isinstance") = none := C.free _ (by decide)
  cases kn : cs.all (Cl.known Φ) with
  | false => exact PE.never fun σ H Q ⟨B, ρ, F, S, h⟩ => by simp only [evE, kn] at h; exact h
  | true =>
    have hc : PE X (.Tuple (pyCls cs l) 0 p2) (tTup fun σ H Q => Q (cs.map (clW g)) H) := pe_tup (cls_pa C okc kn)
    have hs : starEach [pyE N e π, .Tuple (pyCls cs l) 0 p2] X.env = (false, eval (pyE N e π) X.env) :: starEach [.Tuple (pyCls cs l) 0 p2] X.env := st_cons _ _ _
    refine PE.imp (pe_callB (call_isiT.or call_isExT) h1 hm (by decide +kernel) (pa_cons he (pa_cons hc pa_nil) hs) h4 h2 hs) fun σ H Q ⟨B, ρ, F, S, h⟩ => ?_
    simp only [evE, kn, if_true] at h
    exact tR.step S h fun x v H1 F1 _ S1 r h => by
      cases e1 : x.cl? with
      | none => simp only [e1] at h; exact h.elim
      | some d =>
        simp only [e1] at h
        cases e2 : isaAny Φ d cs with
        | none => simp only [e2] at h; exact h.elim
        | some b =>
          simp only [e2] at h
          refine ⟨by rw [List.length_map, sizeLine_eq]; omega, fun q hq => ?_⟩
          have k1 := isa_any (X := X) (g := g) (d := d) (fun c b z => (C.isa d c b z).1) cs b e2
          have sq : Same H1 (upd H1 q (.tup (cs.map (clW g)))) := same_upd hq
          have fin : Q (.bl b) (upd H1 q (.tup (cs.map (clW g)))) := h (.bl b) _ _ (Grow.own S1.fh hq) (.bl b) trivial
          have ho : (∀ n, d = .own n → InsOk X.K (g.cls n)) ∧ (∀ n, d = .exn n → ExcC X.K (g.cls n)) ∨ cs = [] := by
            cases cs with
            | nil => exact .inr rfl
            | cons c cs =>
              refine .inl ?_
              unfold isaAny at e2
              cases e3 : Φ.isa d c with
              | none => rw [e3] at e2; cases e2
              | some t => exact (C.isa d c t e3).2
          cases d with
          | exn n =>
            have hx : ∃ a, v = .ref a ∧ HeldE X (upd H1 q (.tup (cs.map (clW g)))) a (g.cls n) := by
              cases x with
              | v t =>
                cases r with
                | err h5 =>
                  simp only [Val.cl?, Option.some.injEq, Cl.exn.injEq] at e1
                  subst e1
                  refine ⟨_, rfl, ?_⟩
                  rcases h5 with h5 | h5
                  · exact .inl (sq _ _ (S1.fh _ _ h5))
                  · cases hcm : cm with
                    | true => rw [C.np hcm] at h5; cases h5
                    | false =>
                      obtain ⟨p, hp, hpa⟩ := C.hot hcm
                      obtain ⟨rfl, hz, hf⟩ := hpa _ _ _ h5
                      exact .inr ⟨p.2, hp, hz, hf⟩
                | _ => simp only [Val.cl?, Option.some.injEq, reduceCtorEq] at e1
              | l nw ts => simp only [Val.cl?, Option.some.injEq, reduceCtorEq] at e1
              | _ => simp only [Val.cl?, reduceCtorEq] at e1
            obtain ⟨a, rfl, hh⟩ := hx
            rcases ho with ho | ho
            · exact .inr ⟨a, g.cls n, q, cs.map (clW g), cs.map (clV g), b, rfl, upd_same, clV_all cs, ho.2 n rfl, hh, k1, fin⟩
            · subst ho; exact absurd rfl hne
          | ty n => exact .inl ⟨v, q, cs.map (clW g), clV g (.ty n), cs.map (clV g), b, rfl, upd_same, clV_all cs, tyX_ok (S1.fh.trans sq) (VRep.grow (Grow.own S1.fh hq) r) e1 (fun _ z => nomatch z) (fun _ z => nomatch z), k1, fin⟩
          | own n =>
            rcases ho with ho | ho
            · exact .inl ⟨v, q, cs.map (clW g), clV g (.own n), cs.map (clV g), b, rfl, upd_same, clV_all cs, tyX_ok (S1.fh.trans sq) (VRep.grow (Grow.own S1.fh hq) r) e1 ho.1 (fun _ z => nomatch z), k1, fin⟩
            · subst ho; exact absurd rfl hne
/-! ### methods -/
theorem g_me (C : Gd cm g Φ cx k N sc W X) {m : String} {o : E} {es : Es} {π : PT} {l : List PT} {apos pos : Pos} (hm : m ∈ ME) (hp : o.pl = true) (hn : es.isNil = false) (hl : es.len < 5) (hline : (apos.endLine == pos.line) = true)
    (ho : PE X (pyE N o π) (tR g W (evE Φ o))) (ha : PA X (pyEs N es l) (tRA g W (evEs Φ es))) :
    PE X (.Call (.Attribute (pyE N o π) (Str.ofString m) apos) (pyEs N es l) [] pos) (tR g W (evE Φ (.me m o es))) := by
  have hc : ∃ T id, PlainAttrs T ∧ Slot T (Str.ofString m) id ∧ typeOf (.builtin id) = pure (.type "method_descriptor") ∧ MtR X id (rM g (meV m)) ∧
      ∀ x v H F, Same F H → VRep g H F v x → meTy m x = true → L2.tyV X.K T v H := by
    simp only [ME, List.mem_cons, List.not_mem_nil, or_false] at hm
    rcases hm with rfl | rfl | rfl | rfl | rfl
    · refine ⟨"dict", "dict.get", PySem.F.plainAttrs_dict, PySem.F.slot_dict_get, PySem.F.type_dict_get, me_get ((by have := rh64 C.room; omega)), fun x v H F s r e => ?_⟩
      cases x with
      | dk nw kvs => obtain ⟨a, ys, rfl, h, _⟩ := r; exact .inr (.inr (.inl ⟨rfl, .inl ⟨_, h⟩⟩))
      | dt nw kvs => obtain ⟨a, ys, rfl, h, _⟩ := r; exact .inr (.inr (.inl ⟨rfl, .inr ⟨_, h⟩⟩))
      | v t => cases t <;> simp [meTy] at e
      | _ => simp [meTy] at e
    · refine ⟨"str", "str.join", PySem.F.plainAttrs_str, PySem.F.slot_str_join, PySem.F.type_str_join, me_join, fun x v H F s r e => ?_⟩
      cases x with
      | v t => cases t with
        | str z => cases r; rfl
        | _ => simp [meTy] at e
      | _ => simp [meTy] at e
    · refine ⟨"str", "str.split", PySem.F.plainAttrs_str, PySem.F.slot_str_split, PySem.F.type_str_split, me_split, fun x v H F s r e => ?_⟩
      cases x with
      | v t => cases t with
        | str z => cases r; rfl
        | _ => simp [meTy] at e
      | _ => simp [meTy] at e
    · refine ⟨"list", "list.count", PySem.F.plainAttrs_list, PySem.F.slot_list_count, PySem.F.type_list_count, me_count C.hK (rh64 C.room), fun x v H F s r e => ?_⟩
      cases x with
      | v t => cases t with
        | lst us =>
          obtain ⟨a, vs, rfl, rd, _⟩ := r.lst s (show (Val.v (.lst us)).lst? = some us from rfl)
          exact .inl ⟨rfl, vs, .inl rd⟩
        | _ => simp [meTy] at e
      | l nw us =>
        obtain ⟨a, vs, rfl, rd, _⟩ := r.lst s (show (Val.l nw us).lst? = some us from rfl)
        exact .inl ⟨rfl, vs, .inl rd⟩
      | _ => simp [meTy] at e
    · refine ⟨"list", "list.index", PySem.F.plainAttrs_list, PySem.F.slot_list_index, PySem.F.type_list_index, me_index C.hK (rh64 C.room), fun x v H F s r e => ?_⟩
      cases x with
      | v t => cases t with
        | lst us =>
          obtain ⟨a, vs, rfl, rd, _⟩ := r.lst s (show (Val.v (.lst us)).lst? = some us from rfl)
          exact .inl ⟨rfl, vs, .inl rd⟩
        | _ => simp [meTy] at e
      | l nw us =>
        obtain ⟨a, vs, rfl, rd, _⟩ := r.lst s (show (Val.l nw us).lst? = some us from rfl)
        exact .inl ⟨rfl, vs, .inl rd⟩
      | _ => simp [meTy] at e
  obtain ⟨T, id, c1, c2, c3, c4, c5⟩ := hc
  cases es with
  | nil => cases hn
  | cons e1 es1 =>
    have hf : ((backTo pos (starEach (pyEs N (.cons e1 es1) l) X.env)).all (fun x => !x.1) && (backToKw pos (keywordEach [] X.env)).all (fun x => x.1.isSome)
      && decide ((pyEs N (.cons e1 es1) l).length + ([] : List Keyword).length + (if ([] : List Keyword).isEmpty then 0 else 1) < 30)) = true := by
      rw [st_few, py_len, Bool.true_and]
      show (true && decide ((Es.cons e1 es1).len + 0 + 0 < 30)) = true
      rw [Bool.true_and, decide_eq_true_eq]
      omega
    refine PE.imp (pe_bm c1 c2 c3 c4 ho ha (ab_pl o π _ _ hp) hf hline (st_cons _ _ _) (st_any _ _ _)) fun σ H Q ⟨B, ρ, F, S, h⟩ => ?_
    rw [evE] at h
    exact tR.step S h fun x v H1 F1 _ S1 r h => by
      cases k1 : meTy m x with
      | false => simp only [k1] at h; exact h.elim
      | true =>
        simp only [k1, if_true] at h
        exact ⟨c5 x v H1 F1 S1.fh r k1, tRA.step S1 h fun xs vs H2 F2 H3 F3 gr ar S2 h => ⟨F3, x, xs, S2.fh, r.grow (gr.trans ar.fh), ar.rep, (h.gV (gr.trans ar.fh)).op (meV_ne m x xs)⟩⟩
end
end Lr

set_option Elab.async false
set_option linter.all false
set_option maxRecDepth 100000
set_option maxHeartbeats 1000000
/-! SndSk: sorted(d.keys()), whole-number keys, any number of them. -/
namespace Lr
open PySem PySem.Spec PyProof.Rows L2
section
variable {X : Cx}
def rKeysA : V → List V → Hp → VK → Prop := fun x xs H Q => ∃ (a : Addr), x = .ref a ∧ xs = [] ∧ ((∃ kvs : List (L2.Key × V), H a = some (.dK kvs)) ∨ ∃ kvs : List (List L2.Key × V), H a = some (.dT kvs)) ∧ ∀ p, H p = none → Q (.ref p) (upd H p (keysO p a))
theorem mt_keysA : MtR X "dict.keys" rKeysA := by
  intro pins s σ H x xs v us Q I rx rxs h
  obtain ⟨a, rfl, rfl, ⟨kvs, ha⟩ | ⟨kvs, ha⟩, q⟩ := h
  · cases rx
    cases rxs
    obtain ⟨z, hd, vs, rel, dd⟩ := dk_of I.hok ha
    have hf : H s.heap.objs.size = none := I.hok.fresh (Nat.le_refl _)
    refine call_meetsIn PySem.F.slot_dict_keys dd.typeIs PySem.F.entry_dict_keys (PySem.F.args_dict_keys_1 _) (PySem.W.kdl_meets_keys (mixKind X.prog X.w) a hd) ⟨⟨vs, dd⟩, ?_⟩
    exact ⟨.ref s.heap.objs.size, upd H s.heap.objs.size (keysO s.heap.objs.size a), I.laid (t' := s.toks) (fun b u e => Heap.get?_push_of_some _ e) (Nat.le_refl _) (keysO_ok (Heap.get?_push_size _ rfl)), rfl, q _ hf⟩
  · exact mt_keysTT pins s σ H _ _ v us Q I rx rxs ⟨a, kvs, rfl, rfl, ha, q⟩
def rSortKeys : List V → Hp → VK → Prop := fun xs H Q => ∃ (p a : Addr) (kvs : List (L2.Key × V)) (ks : List Int), xs = [.ref p] ∧ H p = some (keysO p a) ∧ H a = some (.dK kvs) ∧ kvs.map (·.1) = ks.map Sum.inl ∧
  ∀ (ys : List Int) (q : Addr), ys.Perm ks → ys.Pairwise (· ≤ ·) → H q = none → Q (.ref q) (upd H q (.lst (ys.map V.int)))
theorem cr_sortedKeys (hcalm : X.calm = true) : CallR X (.builtin "sorted") rSortKeys := by
  intro pins s σ H xs us Q I r q
  obtain ⟨p, a, kvs, ks, ex, hp, hd, hks, q⟩ := q
  subst ex
  obtain ⟨u, eu, rx⟩ := vals1 r
  subst eu
  cases rx
  obtain ⟨z, lo, vs, rel, dd⟩ := dk_of I.hok hd
  have view : PySem.W.KdlKeysView s.heap p a := (show ObjOk X.prog X.w H s.heap p (keysO p a) from I.hok p _ hp).1
  obtain ⟨ep, hat⟩ := dd.dictAt
  exact sort_ints hcalm I (PySem.W.kdl_keys (knd := mixKind X.prog X.w) (kvs := vs) (ep := ep)) ⟨view, hat⟩ (rel.keys.symm.trans hks) (by rw [← Paired.length rel]; exact z) q
end
/-! ### pairs in order: there is just one such list -/
theorem insP_perm (a : Int × Int) : ∀ l : List (Int × Int), (insP a l).Perm (a :: l)
  | [] => .refl _
  | b :: r => by
    unfold insP
    split
    · exact ((insP_perm a r).cons b).trans (.swap a b r)
    · exact .refl _
theorem psort_perm : ∀ l : List (Int × Int), (psort l).Perm l
  | [] => .refl _
  | a :: r => (insP_perm a _).trans ((psort_perm r).cons a)
theorem lexB_tr {a b c : Int × Int} (h1 : SrtO.lexB b a = false) (h2 : SrtO.lexB c b = false) : SrtO.lexB c a = false := by
  rw [SrtO.lexB_no] at *
  omega
theorem insP_sorted (a : Int × Int) : ∀ l : List (Int × Int), l.Pairwise (fun u v => SrtO.lexB v u = false) → (insP a l).Pairwise (fun u v => SrtO.lexB v u = false)
  | [], _ => by simp [insP]
  | b :: r, h => by
    obtain ⟨h1, h2⟩ := List.pairwise_cons.mp h
    unfold insP
    split
    · rename_i hb
      refine List.pairwise_cons.mpr ⟨fun x hx => ?_, insP_sorted a r h2⟩
      rcases List.mem_cons.mp ((insP_perm a r).mem_iff.mp hx) with rfl | hx
      · have := SrtO.lexB_iff.mp hb
        rw [SrtO.lexB_no]
        omega
      · exact h1 x hx
    · rename_i hb
      rw [Bool.not_eq_true] at hb
      refine List.pairwise_cons.mpr ⟨fun x hx => ?_, h⟩
      rcases List.mem_cons.mp hx with rfl | hx
      · exact hb
      · exact lexB_tr hb (h1 x hx)
theorem psort_sorted : ∀ l : List (Int × Int), (psort l).Pairwise (fun u v => SrtO.lexB v u = false)
  | [] => List.Pairwise.nil
  | a :: r => insP_sorted a _ (psort_sorted r)
theorem psort_uniq : ∀ {l m : List (Int × Int)}, l.Pairwise (fun u v => SrtO.lexB v u = false) → m.Pairwise (fun u v => SrtO.lexB v u = false) → l.Perm m → l = m
  | [], m, _, _, h => (List.Perm.eq_nil h.symm).symm
  | x :: l, [], _, _, h => absurd h.length_eq (by simp)
  | x :: l, y :: m, h1, h2, h => by
    have a1 : SrtO.lexB y x = false := by
      rcases List.mem_cons.mp (h.mem_iff.mpr (List.mem_cons_self ..)) with e | hy
      · rw [e, SrtO.lexB_no]; omega
      · exact (List.pairwise_cons.mp h1).1 y hy
    have a2 : SrtO.lexB x y = false := by
      rcases List.mem_cons.mp (h.mem_iff.mp (List.mem_cons_self ..)) with e | hx
      · rw [e, SrtO.lexB_no]; omega
      · exact (List.pairwise_cons.mp h2).1 x hx
    rw [SrtO.lexB_no] at a1 a2
    have e : x = y := Prod.ext (by omega) (by omega)
    subst e
    rw [psort_uniq (List.pairwise_cons.mp h1).2 (List.pairwise_cons.mp h2).2 h.cons_inv]
theorem psort_only {l m : List (Int × Int)} (h : l.Perm m) (s : l.Pairwise fun u v => SrtO.lexB v u = false) : l = psort m := psort_uniq s (psort_sorted m) (h.trans (psort_perm m).symm)
theorem kPairs_ok : ∀ {kvs : List (List Key × T)} {ps : List (Int × Int)}, kPairs kvs = some ps → kvs.map (·.1) = ps.map fun q => [Sum.inl q.1, Sum.inl q.2]
  | [], ps, h => by cases h; rfl
  | (k, t) :: kvs, ps, h => by
    unfold kPairs at h
    split at h
    · rename_i heq
      cases heq
    · rename_i i j _ r heq
      cases heq
      obtain ⟨ms, h1, rfl⟩ := Option.map_eq_some_iff.mp h
      rw [List.map_cons, kPairs_ok h1]
      rfl
    · cases h
/-- tuples are frozen, one by one -/
theorem freeze_tups {g : Gx} {H : Hp} : ∀ {ys : List V} {F : Hp}, Same F H → (∀ y ∈ ys, ∃ b x z, y = .ref b ∧ H b = some (.tup [.int x, .int z])) → ∃ F', Grow H F H F' ∧ RepL g F' ys ((ys.map (kH H)).map pT)
  | [], F, s, _ => ⟨F, .refl s, .nil⟩
  | y :: ys, F, s, h => by
    obtain ⟨b, x, z, rfl, hb⟩ := h y (List.mem_cons_self ..)
    have g1 : Grow H F H (L2.upd F b (.tup [.int x, .int z])) := Grow.tupF s hb
    obtain ⟨F2, g2, r2⟩ := freeze_tups (ys := ys) g1.fh fun w hw => h w (List.mem_cons_of_mem _ hw)
    refine ⟨F2, g1.trans g2, .cons ?_ r2⟩
    rw [kH_tup hb]
    exact .tup (g2.f _ _ upd_same) (.cons (.int _) (.cons (.int _) .nil))
/-- a key as a value -/
def keyT (p : Key × T) : T := match p.1 with
  | .inl i => T.int i
  | .inr z => T.str z
theorem keyT_ints : ∀ {kvs : List (Key × T)} {ns : List Int}, ints? (kvs.map keyT) = some ns → kvs.map (·.1) = ns.map Sum.inl
  | [], ns, h => by cases h; rfl
  | (.inl i, t) :: kvs, ns, h => by
    rw [List.map_cons] at h
    have h : (ints? (kvs.map keyT)).map (i :: ·) = some ns := h
    obtain ⟨ms, h1, rfl⟩ := Option.map_eq_some_iff.mp h
    rw [List.map_cons, keyT_ints h1]
    rfl
  | (.inr z, t) :: kvs, ns, h => by
    rw [List.map_cons] at h
    have h : (none : Option (List Int)) = some ns := h
    cases h
theorem repK_keys {g : Gx} {F : Hp} : ∀ {xs : List (Key × V)} {ts : List (Key × T)}, RepK g F xs ts → xs.map (·.1) = ts.map (·.1)
  | [], [], _ => rfl
  | [], _ :: _, h => nomatch h
  | _ :: _, [], h => nomatch h
  | x :: xs, t :: ts, h => by
    cases h with
    | cons a b => rw [List.map_cons, List.map_cons, a.1, repK_keys b]
section
variable {cm : Bool} {g : Gx} {Φ : Fe} {cx : CXT} {k : Nat} {N : List Str} {sc : Scope} {W : WX} {X : Cx}
theorem g_skeys (C : Gd cm g Φ cx k N sc W X) (hcm : cm = true) {d : E} {π : PT} {p apos p1 pos : Pos} (ok : glB sc "sorted" = true) (hp : d.pl = true) (hline : (apos.endLine == p1.line) = true) (hd : PE X (pyE N d π) (tR g W (evE Φ d))) :
    PE X (.Call (.Name (Str.ofString "sorted") p) [.Call (.Attribute (pyE N d π) (Str.ofString "keys") apos) [] [] p1] [] pos) (tR g W (evE Φ (.skeys d))) := by
  obtain ⟨h1, h2, h3, h4⟩ := C.scr.glo ok
  have hm : X.mg (Str.ofString "sorted") = none := C.free "sorted" (by decide)
  have hk : PE X (.Call (.Attribute (pyE N d π) (Str.ofString "keys") apos) [] [] p1) (tBM0 X.K "dict" rKeysA (tR g W (evE Φ d))) := pe_bm0 PySem.F.plainAttrs_dict PySem.F.slot_dict_keys PySem.F.type_dict_keys mt_keysA hd (ab_pl d π _ _ hp) hline
  refine PE.imp (pe_callB ((cr_sortedKeys (C.calm hcm)).or (cr_sortedKeysTT (C.calm hcm))) h1 hm (by decide +kernel) (pa_cons hk pa_nil) h4 h2) fun σ H Q ⟨B, ρ, F, S, h⟩ => ?_
  rw [evE] at h
  exact tR.step S h fun x v H1 F1 gr S1 r h => by
    cases x with
    | dk nw kvs =>
      obtain ⟨a, xs, rfl, ha, rk⟩ := r
      refine ⟨.inr (.inr (.inl ⟨rfl, .inl ⟨_, ha⟩⟩)), a, rfl, rfl, .inl ⟨xs, ha⟩, fun p0 hp0 => ?_⟩
      have h : po (match ints? (kvs.map keyT) with
        | some ns => (R.ok (Val.l true ((isort ns).map T.int)))
        | none => R.no) (pV g H1 F1 Q) (exq g H1 F1 (WE W σ)) := h
      cases hi : ints? (kvs.map keyT) with
      | none => rw [hi] at h; exact h.elim
      | some ns =>
        rw [hi] at h
        have hne : a ≠ p0 := fun z => by rw [z] at ha; rw [ha] at hp0; cases hp0
        refine .inl ⟨p0, a, xs, ns, rfl, upd_same, by rw [upd_ne hne]; exact ha, (repK_keys rk).trans (keyT_ints hi), fun ys q hpm hso hq => ?_⟩
        rw [isort_only hpm hso]
        have s1 : Same H1 (upd H1 p0 (keysO p0 a)) := same_upd hp0
        have s2 : Same (upd H1 p0 (keysO p0 a)) (upd (upd H1 p0 (keysO p0 a)) q (.lst ((isort ns).map V.int))) := same_upd hq
        have hq1 : H1 q = none := s1.free hq
        refine h (.ref q) _ F1 ⟨s1.trans s2, Same.refl _, S1.fh.trans (s1.trans s2), fun _ _ h => .inl h⟩ ⟨q, _, rfl, upd_same, .ofInts⟩ ⟨q, rfl, hq1, S1.fh.free hq1⟩
    | dt nw kvs =>
      obtain ⟨a, xs, rfl, ha, rk⟩ := r
      refine ⟨.inr (.inr (.inl ⟨rfl, .inr ⟨_, ha⟩⟩)), a, rfl, rfl, .inr ⟨xs, ha⟩, fun p0 hp0 => ?_⟩
      cases hi : kPairs kvs with
      | none => simp only [hi] at h; exact h.elim
      | some ps =>
        simp only [hi] at h
        have hne : a ≠ p0 := fun z => by rw [z] at ha; rw [ha] at hp0; cases hp0
        have s1 : Same H1 (upd H1 p0 (keysO p0 a)) := same_upd hp0
        refine .inr ⟨p0, a, xs, ps, rfl, upd_same, by rw [upd_ne hne]; exact ha, (repK_keys0 rk).trans (kPairs_ok hi), fun ys q hys hpm hso hq => ?_⟩
        obtain ⟨F2, g2, r2⟩ := freeze_tups (g := g) (S1.fh.trans s1) hys
        rw [psort_only hpm hso] at r2
        have g1 : Grow H1 F1 (upd H1 p0 (keysO p0 a)) F1 := .own S1.fh hp0
        have g3 : Grow (upd H1 p0 (keysO p0 a)) F2 (upd (upd H1 p0 (keysO p0 a)) q (.lst ys)) F2 := .own g2.fh hq
        have hq1 : H1 q = none := s1.free hq
        exact h (.ref q) _ F2 ((g1.trans g2).trans g3) ⟨q, _, rfl, upd_same, r2⟩ ⟨q, rfl, hq1, g2.fh.free hq⟩
    | _ => exact h.elim
end
end Lr

set_option Elab.async false
set_option linter.all false
set_option maxRecDepth 100000
set_option maxHeartbeats 1000000
/-! SndRv: list(reversed(x)), x a list. -/
namespace Lr
open PySem PySem.Spec PyProof.Rows L2
section
variable {prog : Program} {w : World} {A : Around} {E : Value → Shared → Prop} {s : Shared}
theorem ext_rev {R : Result → Shared → Prop} {it l : Addr} {items : Array Value} (hh : A.handled = none) (hit : s.heap.IsRevIter it l ((items.size : Int) - 1)) (hl : s.heap.IsList l items) (hne : l ≠ it) (hn : items.size ≤ sizeLine)
    (S : Addr) (res : Value) (c₀ : Nat) (hSi : S ≠ it) (hSl : S ≠ l) (hS : s.heap.get? S = some { cls := .type "list", data := .seq #[] c₀ })
    (hR : ∀ h' tk acc' c', (∀ b o, b ≠ S → b ≠ it → s.heap.get? b = some o → h'.get? b = some o) → h'.get? S = some { cls := .type "list", dict := none, data := .seq acc' c', slots := #[] } →
      ItemsOf (fun i v => items[items.size - 1 - i]? = some v) acc' items.size → R (.ok (.ret res)) { s with heap := h', toks := tk }) :
    wpAny (model prog w) A.in1 (Builtin.List.listExtendWith (.ref S) (.ref it) res)
      (fun fin s' => match fin with | .done f => R (.ok f) s' | .again c' => c'.quiet = true ∧ codeAny (model prog w) A c' R s') (fun e s' => R (.error e) s') s := by
  have W := (Walks.listRev (prog := prog) (w := w) (A := A.in1) hh it l hne items).toS
  have hSf : S ∉ [it, l] := by simp only [List.mem_cons, List.not_mem_nil, or_false, not_or]; exact ⟨hSi, hSl⟩
  have hT : s.TypeIs (.ref it) "list_reverseiterator" := Heap.IsRevIter.typeIs hit
  have h1 : Builtin.List.listSameRef (.ref S) (.ref it) = false := by simp [Builtin.List.listSameRef, hSi]
  unfold Builtin.List.listExtendWith
  refine wpAny_bind (wpAny_typeOf hT ?_)
  rw [if_neg (by rw [h1]; decide)]
  refine wpAny_bind (wpAny_pyIter_revIter hit ?_)
  refine wpAny_bind (wpAny_holding ?_)
  unfold Builtin.List.listLengthHint
  refine wpAny_bind (wpAny_specialOf hT RT.nolen_lri ?_)
  show wpAny _ A.in1 (specialOf (Value.ref it) (Str.ofString "__length_hint__") >>= _) _ _ _
  refine wpAny_bind (wpAny_specialOf hT RT.hint_lri ?_)
  generalize hid : ("list_reverseiterator.__length_hint__" : String) = id0
  wp_delta
  rw [show splitId id0 = some ("list_reverseiterator", "__length_hint__") from by subst hid; decide +kernel]
  subst hid
  refine wpAny_bind (wpAny_isInstance (b := true) hT (by rw [isSubtype_type]; kernel_rfl) ?_)
  refine wpAny_pure ?_
  rw [if_neg (by decide)]
  have e0 : ((items.size : Nat) : Int) - 1 - ((0 : Nat) : Int) = (items.size : Int) - 1 := by omega
  refine wpAny_pure ⟨plainId_quiet F.plain_extend_loop _, codeAny_extend_loopS W hn S hSf res items.size 0 _ _ _ rfl (Nat.zero_le _) ⟨Nat.zero_le _, by rw [e0]; exact hit, hl⟩ hS (ItemsOf.nil _) fun s' acc' c' hm hS' hacc => ?_⟩
  rw [Moved.eq_with hm]
  refine hR s'.heap s'.toks acc' c' (fun b o hb hbi e => hm.heap b o (fun hmem => ?_) e) hS' hacc
  rcases List.mem_cons.mp hmem with e' | hmem
  · exact hb e'
  · exact hbi (List.mem_singleton.mp hmem)
theorem call_list_rev {it l : Addr} {items : Array Value} {Q : Value → Shared → Prop} (hh : A.handled = none) (hit : s.heap.IsRevIter it l ((items.size : Int) - 1)) (hl : s.heap.IsList l items) (hne : l ≠ it) (hn : items.size ≤ sizeLine)
    (hQ : ∀ h' tk acc' c', (∀ b o, b ≠ it → s.heap.get? b = some o → h'.get? b = some o) →
      h'.get? s.heap.objs.size = some { cls := .type "list", dict := none, data := .seq acc' c', slots := #[] } → ItemsOf (fun i v => items[items.size - 1 - i]? = some v) acc' items.size → Q (.ref s.heap.objs.size) { s with heap := h', toks := tk }) :
    wpAny (model prog w) A (call (.type "list") [.ref it]) Q E s := by
  obtain ⟨oi, hoi, _⟩ := id hit
  obtain ⟨ol, hol, _⟩ := id hl
  have hSi : s.heap.objs.size ≠ it := Nat.ne_of_gt (Heap.lt_size hoi)
  have hSl : s.heap.objs.size ≠ l := Nat.ne_of_gt (Heap.lt_size hol)
  refine callType_codes (Q₁ := fun obj s₁ => obj = .ref s.heap.objs.size ∧ s₁ = { s with heap := s.heap.push { cls := .type "list", data := .seq #[] } }) F.called_list (F.typeCall_list_1 _) F.entry_list_init
    (code_list_new _ ⟨rfl, rfl⟩) fun obj s₁ h₁ => ?_
  obtain ⟨rfl, rfl⟩ := h₁
  have hS : (s.heap.push { cls := .type "list", data := .seq #[] }).get? s.heap.objs.size = some { cls := .type "list", data := .seq #[] } := Heap.get?_push_size _ rfl
  refine ⟨⟨_, hS, rfl⟩, F.args_list_init_2 _ _, ?_⟩
  show wpAny _ _ (do let old ← Builtin.List.listItems (.ref s.heap.objs.size); Builtin.List.listUpdate (.ref s.heap.objs.size) (fun _ => #[]); letGo old.toList.reverse; Builtin.List.listExtendWith (.ref s.heap.objs.size) (.ref it) .none) _ _ _
  refine wpAny_bind ?_
  unfold Builtin.List.listItems
  refine wpAny_bind (wpAny_seqItems hS rfl (wpAny_pure ?_))
  show wpAny _ _ (updateSeq s.heap.objs.size (fun _ => #[]) >>= fun _ => letGo (#[] : Array Value).toList.reverse >>= fun _ => Builtin.List.listExtendWith (.ref s.heap.objs.size) (.ref it) .none) _ _ _
  refine wpAny_bind (wpAny_updateSeq hS rfl ?_)
  have hS₂ := Heap.get?_update_self (Obj.mapSeq (fun _ => (#[] : Array Value))) hS rfl
  have oth : ∀ b o, b ≠ s.heap.objs.size → s.heap.get? b = some o → ((s.heap.push { cls := .type "list", data := .seq #[] }).update s.heap.objs.size (Obj.mapSeq (fun _ => (#[] : Array Value)))).get? b = some o :=
    fun b o hb e => (Heap.get?_update_other _ _ (Ne.symm hb)).trans (Heap.get?_push_of_some _ e)
  refine wpAny_bind (wpAny_letGo ?_)
  have hit2 : Heap.IsRevIter ((s.heap.push { cls := .type "list", data := .seq #[] }).update s.heap.objs.size (Obj.mapSeq (fun _ => (#[] : Array Value)))) it l ((items.size : Int) - 1) := hit.at fun o e => oth it o (Ne.symm hSi) e
  have hl2 : Heap.IsList ((s.heap.push { cls := .type "list", data := .seq #[] }).update s.heap.objs.size (Obj.mapSeq (fun _ => (#[] : Array Value)))) l items := by
    obtain ⟨o, ho, r⟩ := hl
    exact ⟨o, oth l o (Ne.symm hSl) ho, r⟩
  refine ext_rev (A := A.in1) hh hit2 hl2 hne hn _ .none _ hSi hSl hS₂ fun h' tk acc' c' hk hS' hacc => ?_
  exact ⟨rfl, hQ h' tk acc' c' (fun b o hb e => hk b o (Nat.ne_of_lt (Heap.lt_size e)) hb (oth b o (Nat.ne_of_lt (Heap.lt_size e)) e)) hS' hacc⟩
end
/-- list(reversed(x)), x a list: a new list -/
def tListRev (K : PySem.W.Frag) (te : TE) : TE := fun σ H Q => te σ H fun v H1 => ∃ (a : Addr) (xs : List V), v = .ref a ∧ SqL K H1 a xs ∧ ∀ q, H1 q = none → Q (.ref q) (upd H1 q (.lst xs.reverse))
section
variable {X : Cx}
theorem pe_listRev {e : Expr} {te : TE} {p p2 pos pos2 : Pos} (hc : X.calm = true) (hg : Gl X "list") (hm : X.mg "list" = none) (hg2 : Gl X "reversed") (hm2 : X.mg "reversed" = none) (he : PE X e te)
    (hs : starEach [e] X.env = (false, eval e X.env) :: starEach [] X.env := by rfl)
    (hs2 : starEach [.Call (.Name "reversed" p2) [e] [] pos2] X.env = (false, eval (.Call (.Name "reversed" p2) [e] [] pos2) X.env) :: starEach [] X.env := by rfl) :
    PE X (.Call (.Name "list" p) [.Call (.Name "reversed" p2) [e] [] pos2] [] pos) (tListRev X.K te) := by
  refine ⟨fun pins s σ H Q I h => ?_⟩
  refine Call_ (ld_blt I hg hm boot_list (PyProof.Rows.callWith_type1 (args_cons (Call_ (ld_blt I hg2 hm2 PyProof.Rows.boot_reversed (PyProof.Rows.callWith_type1 (args_cons (thn (he.run pins s σ H _ I h) fun u s1 ⟨v, H1, I1, r1, q1⟩ => args_nil ?_) hs) hs rfl))) hs2) hs2 rfl))
  obtain ⟨a, xs, ev, hq, q⟩ := q1
  subst ev
  obtain rfl : u = Value.ref a := r1
  obtain ⟨its, rv, p', hz⟩ := I1.list hq
  refine call_reversed_list p'.isList (args_nil ?_)
  have k0 : ∀ b o, s1.heap.get? b = some o → (s1.heap.push (revObj a ((its.toArray.size : Int) - 1))).get? b = some o := fun b o e => Heap.get?_push_of_some _ e
  have I2 : Inv X pins σ H1 { s1 with heap := s1.heap.push (revObj a ((its.toArray.size : Int) - 1)) } := I1.kept (t' := s1.toks) k0
  obtain ⟨f0, f1, f2, f3, f4, f5⟩ := I1.fpOk (H' := H1) (b := s1.heap.objs.size) (Nat.le_refl _) (I1.hok.fresh (Nat.le_refl _))
  have hl := p'.isList
  obtain ⟨ol, hol, _⟩ := id hl
  have hne : a ≠ s1.heap.objs.size := Nat.ne_of_lt (Heap.lt_size hol)
  have hn : its.toArray.size ≤ sizeLine := by rw [List.size_toArray, ← rv.length]; exact hz
  refine call_list_rev (s := { s1 with heap := s1.heap.push (revObj a ((its.toArray.size : Int) - 1)) }) (I1.ok.hd hc) ⟨_, Heap.get?_push_size _ rfl, rfl, rfl⟩ (hl.push _) hne hn fun h' tk acc c' hk hS hi => ?_
  have hsz : s1.heap.objs.size ≤ (s1.heap.push (revObj a ((its.toArray.size : Int) - 1))).objs.size := by rw [size_push']; exact Nat.le_succ _
  refine ⟨.ref _, upd H1 (s1.heap.push (revObj a ((its.toArray.size : Int) - 1))).objs.size (.lst xs.reverse), I1.laid (t' := tk) (fun b o e => hk b o (Nat.ne_of_lt (Heap.lt_size e)) (k0 b o e)) hsz (show ObjOk X.prog X.w _ _ _ (.lst xs.reverse) from ⟨by rw [List.length_reverse]; exact hz, acc.toList, c', RT.vals_rev rv hi, ?_⟩), rfl, q _ (I1.hok.fresh hsz)⟩
  rw [Array.toArray_toList]
  exact hS
end
section
variable {cm : Bool} {g : Gx} {Φ : Fe} {cx : CXT} {k : Nat} {N : List Str} {sc : Scope} {W : WX} {X : Cx}
theorem g_lrev (C : Gd cm g Φ cx k N sc W X) (hcm : cm = true) {e : E} {π : PT} {p p2 pos pos2 : Pos} (ok : glB sc "list" = true) (ok2 : glB sc "reversed" = true) (he : PE X (pyE N e π) (tR g W (evE Φ e))) :
    PE X (.Call (.Name (Str.ofString "list") p) [.Call (.Name (Str.ofString "reversed") p2) [pyE N e π] [] pos2] [] pos) (tR g W (evE Φ (.lrev e))) := by
  obtain ⟨h1, h2, h3, h4⟩ := C.scr.glo ok
  obtain ⟨k1, k2, k3, k4⟩ := C.scr.glo ok2
  refine PE.imp (pe_listRev (C.calm hcm) h1 (C.free "list" (by decide)) k1 (C.free "reversed" (by decide)) he (st_cons _ _ _)) fun σ H Q ⟨B, ρ, F, S, h⟩ => ?_
  rw [evE] at h
  exact tR.step S h fun x v H1 F1 gr S1 r h => by
    cases hx : x.lst? with
    | none => rw [hx] at h; exact h.elim
    | some ts =>
      rw [hx] at h
      obtain ⟨a, vs, rfl, rd, l⟩ := r.lst S1.fh hx
      refine ⟨a, vs, rfl, .inl rd, fun q hq => ?_⟩
      exact h (.ref q) _ F1 ⟨same_upd hq, Same.refl _, S1.fh.trans (same_upd hq), fun _ _ h => .inl h⟩ ⟨q, _, rfl, upd_same, l.reverse⟩ ⟨q, rfl, hq, S1.fh.free hq⟩
end
end Lr

set_option Elab.async false
set_option linter.all false
set_option maxRecDepth 100000
set_option maxHeartbeats 4000000
/-! SndSe: sorted(set(x)), len(set(x)), sorted(x, reverse=True), x a list of whole numbers. -/
namespace Lr
open PySem PySem.Spec PyProof.Rows L2
section
variable {P : Program} {w : World} {A : Around} {E : Value → Shared → Prop} {s : Shared}
theorem call_set_lstI {l : Addr} {items : Array Value} (ns : List Int) {Q : Value → Shared → Prop} (hh : A.handled = none) (hl : s.heap.IsList l items) (hit : IntsAre items.toList ns) (hb : ns.length + 1 < scanBound)
    (h : ∀ (h' : Heap) (tk c : Nat), SetR w h' s.heap.objs.size (fun j => decide (j ∈ ns)) c → c ≤ ns.length → (∀ b o, s.heap.get? b = some o → h'.get? b = some o) → Q (.ref s.heap.objs.size) { s with heap := h', toks := tk }) :
    wpAny (model P w) A (call (.type "set") [.ref l]) Q E s := by
  have hisz : items.size = ns.length := by
    have q := IntsAre.length hit
    rw [Array.length_toList] at q
    exact q
  obtain ⟨c, tl, hmro⟩ := F.called_set.mro
  have hmade := F.called_set.made
  have hsub := F.called_set.sub
  refine wpAny_call (codeAny_of_tree ?_)
  show wpAny _ _ (callAny (.type "set") _) _ _ _
  refine wpAny_pure ⟨Code.quiet_builtin _ (by decide +kernel), codeAny_builtin F.entry_type_call ?_⟩
  rw [Around.under_plain (weight_type_call_type "set" [.ref l] []) rfl]
  have h1 := F.called_set.notType
  have h2 := F.called_set.canCreate
  have hct := F.typeCall_set_1 (.ref l)
  repeat (any_goals (first | assumption | wp_step))

  refine codeAny_mono (code_set_led1 (.ref l) (E := E) (Q₁ := fun obj s₁ => obj = .ref s.heap.objs.size ∧ s₁ = { s with heap := s.heap.push { cls := .type "set", dict := none, data := .set #[] 0 (.fresh 0 0 (!w.params.followText "set-order")) } }) ⟨rfl, rfl⟩) fun r s₁ hr => ?_
  cases r with
  | error e => exact hr
  | ok fl =>
    cases fl with
    | ret obj =>
      obtain ⟨rfl, rfl⟩ := hr
      have hS : (s.heap.push { cls := .type "set", dict := none, data := .set #[] 0 (.fresh 0 0 (!w.params.followText "set-order")) }).get? s.heap.objs.size = some { cls := .type "set", dict := none, data := .set #[] 0 (.fresh 0 0 (!w.params.followText "set-order")) } := Heap.get?_push_size _ rfl
      have hT : Shared.TypeIs { s with heap := s.heap.push { cls := .type "set", dict := none, data := .set #[] 0 (.fresh 0 0 (!w.params.followText "set-order")) } } (.ref s.heap.objs.size) "set" := ⟨_, hS, rfl⟩
      have hli := F.called_set.init.lookup
      have hbi := F.called_set.init.bind (.ref s.heap.objs.size)
      repeat (any_goals (first | assumption | wp_step))

      refine codeAny_mono (codeAny_call_builtin (R := wants (fun r s₂ => r = .none ∧ ∃ h' tk c, s₂ = { s with heap := h', toks := tk } ∧ SetR w h' s.heap.objs.size (fun j => decide (j ∈ ns)) c ∧ c ≤ ns.length ∧
          (∀ b o, s.heap.get? b = some o → h'.get? b = some o)) E) F.called_set.init.plain F.entry_set_init (check_set_init_1 hT ?_)) fun r₂ s₂ hr₂ => ?_
      · obtain ⟨ol, hol, hcl, nl, hdl⟩ := hl
        obtain ⟨ocls, odict, odata, oslots⟩ := ol
        simp only at hcl hdl
        subst hcl; subst hdl
        have hol' : (s.heap.push { cls := .type "set", dict := none, data := .set #[] 0 (.fresh 0 0 (!w.params.followText "set-order")) }).get? l = some { cls := .type "list", dict := odict, data := .seq items nl, slots := oslots } := Heap.get?_push_of_some _ hol
        have hsls := F.sub_list_set
        have hslf := F.sub_list_frozenset
        have hne : (Value.type "list" == Value.type "dict") = false := by decide
        have hl1 : (s.heap.push { cls := .type "set", dict := none, data := .set #[] 0 (.fresh 0 0 (!w.params.followText "set-order")) }).IsList l items := ⟨_, hol', rfl, nl, rfl⟩
        unfold Builtin.«set.__init__» noKeywords Builtin.Frozenset.updateFrom
        generalize hPI : pyIter = PI
        wp_walk
        subst hPI

        refine wpAny_pyIter_list hl1 ?_
        refine wpAny_bind (wpAny_runValue ?_)
        have hlS : l < s.heap.objs.size := Heap.lt_size hol
        have hh3 : A.in1.in1.in1.handled = none := by simp [hh]
        have hz1 : (s.heap.push { cls := .type "set", dict := none, data := .set #[] 0 (.fresh 0 0 (!w.params.followText "set-order")) }).objs.size = s.heap.objs.size + 1 := Heap.size_push ..
        have hneI : l ≠ (s.heap.push { cls := .type "set", dict := none, data := .set #[] 0 (.fresh 0 0 (!w.params.followText "set-order")) }).objs.size := by
          rw [Heap.size_push]; exact Nat.ne_of_lt (Nat.lt_succ_of_lt hlS)
        have hSf : s.heap.objs.size ∉ [(s.heap.push { cls := .type "set", dict := none, data := .set #[] 0 (.fresh 0 0 (!w.params.followText "set-order")) }).objs.size, l] := by
          rw [Heap.size_push]; simp only [List.mem_cons, List.mem_singleton, List.not_mem_nil, or_false, not_or]
          exact ⟨Nat.ne_of_lt (Nat.lt_succ_self _), Nat.ne_of_gt hlS⟩
        have hval : ∀ (i : Nat) (v : Value), items[i]? = some v → ∃ k t, ns[i]? = some k ∧ v = .int k t := fun i v hv => by
          have hi : i < ns.length := by rw [← hisz]; exact (Array.getElem?_eq_some_iff.mp hv).1
          obtain ⟨t, e⟩ := PyProof.Rows.IntsAre.int_at hit i v (by rw [Array.getElem?_toList]; exact hv)
          refine ⟨ns[i], t, List.getElem?_eq_getElem hi, ?_⟩
          rw [e, List.getD_eq_getElem?_getD, List.getElem?_eq_getElem hi] <;> rfl
        refine set_update_ints ((Walks.list hh3 _ l hneI items).toS) s.heap.objs.size
          hSf ns hisz hb hval (items.size - 0) 0 _ (by omega) (Nat.zero_le _)
          ⟨⟨_, Heap.get?_push_size _ rfl, rfl, rfl⟩, (hl1.push _)⟩ ?hS0 ?hR
        case hS0 =>
          have hget : ((s.heap.push { cls := .type "set", dict := none, data := .set #[] 0 (.fresh 0 0 (!w.params.followText "set-order")) }).push { cls := .type "list_iterator", data := .fields #[.ref l, .int 0 0] }).get? s.heap.objs.size
              = some { cls := .type "set", dict := none, data := .set #[] 0 (.fresh 0 0 (!w.params.followText "set-order")) } := Heap.get?_push_of_some _ hS
          exact ⟨0, Nat.le_refl 0, setR_new_at hget⟩
        case hR =>
          intro s' c' hm hc' hS'
          obtain ⟨h', g2, d', tk', os'⟩ := s'
          have eg : g2 = s.gens := hm.gens
          have ed : d' = s.drawn := hm.drawn
          have eo : os' = s.os := hm.os
          subst eg; subst ed; subst eo
          show wpAny _ _ _ _ _ _
          refine wpAny_pure ?_
          show wpAny _ _ (ret Value.none) _ _ _
          rw [hisz] at hc'
          refine wpAny_pure ⟨rfl, h', tk', c', rfl, hS', hc', fun b o e => ?_⟩
          have hb0 : b < s.heap.objs.size := Heap.lt_size e
          have hb1 : b ≠ s.heap.objs.size := Nat.ne_of_lt hb0
          have hb2 : b ≠ (s.heap.push { cls := .type "set", dict := none, data := .set #[] 0 (.fresh 0 0 (!w.params.followText "set-order")) }).objs.size := by
            rw [Heap.size_push]; exact Nat.ne_of_lt (Nat.lt_succ_of_lt hb0)
          exact hm.heap b o (by simp only [List.mem_cons, List.mem_singleton, List.not_mem_nil, or_false, not_or]; exact ⟨hb1, hb2⟩) (Heap.get?_push_of_some _ (Heap.get?_push_of_some _ e))

      · cases r₂ with
        | error e => exact hr₂
        | ok fl₂ =>
          cases fl₂ with
          | ret r =>
            obtain ⟨rfl, h', tk, c', rfl, hS', hc', hk'⟩ := hr₂
            repeat (any_goals (first | assumption | wp_step))
            exact h _ _ _ hS' hc' hk'
          | _ => exact hr₂.elim
    | _ => exact hr.elim

end
/-! ### the ordered distinct numbers of a list -/
theorem insU_lt (a : Int) : ∀ l : List Int, l.Pairwise (· < ·) → (insU a l).Pairwise (· < ·) ∧ ∀ x, x ∈ insU a l ↔ x = a ∨ x ∈ l
  | [], _ => by simp [insU]
  | b :: r, h => by
    obtain ⟨h1, h2⟩ := List.pairwise_cons.mp h
    obtain ⟨i1, i2⟩ := insU_lt a r h2
    unfold insU
    split
    · rename_i hb
      refine ⟨List.pairwise_cons.mpr ⟨fun x hx => ?_, i1⟩, fun x => ?_⟩
      · rcases (i2 x).1 hx with e | e
        · omega
        · exact h1 x e
      · rw [List.mem_cons, List.mem_cons, i2]
        constructor
        · rintro (e | e | e)
          · exact .inr (.inl e)
          · exact .inl e
          · exact .inr (.inr e)
        · rintro (e | e | e)
          · exact .inr (.inl e)
          · exact .inl e
          · exact .inr (.inr e)
    · rename_i hb
      split
      · rename_i e
        refine ⟨h, fun x => ?_⟩
        subst e
        constructor
        · exact .inr
        · rintro (e | e)
          · exact List.mem_cons.mpr (.inl e)
          · exact e
      · rename_i hne
        refine ⟨List.pairwise_cons.mpr ⟨fun x hx => ?_, h⟩, fun x => List.mem_cons⟩
        rcases List.mem_cons.mp hx with e | e
        · omega
        · have := h1 x e
          omega
theorem usort_lt : ∀ l : List Int, (usort l).Pairwise (· < ·)
  | [] => List.Pairwise.nil
  | a :: r => (insU_lt a _ (usort_lt r)).1
theorem usort_mem : ∀ (l : List Int) (x : Int), x ∈ usort l ↔ x ∈ l
  | [], x => Iff.rfl
  | a :: r, x => by rw [usort, (insU_lt a _ (usort_lt r)).2, usort_mem r, List.mem_cons]
theorem lt_nodup {l : List Int} (h : l.Pairwise (· < ·)) : l.Nodup := h.imp fun h => by omega
theorem usort_only {l ys : List Int} (h : ys.Pairwise (· < ·)) (m : ∀ k, k ∈ ys ↔ k ∈ l) : ys = usort l := by
  refine PySem.W.ksm_same ((List.perm_ext_iff_of_nodup (lt_nodup h) (lt_nodup (usort_lt l))).mpr fun k => ?_) (h.imp fun h => by omega) ((usort_lt l).imp fun h => by omega)
  rw [m, usort_mem]
theorem usort_len (l : List Int) : (usort l).length ≤ l.length := by
  have q : ∀ (a : Int) (m : List Int), (insU a m).length ≤ m.length + 1 := fun a m => by
    induction m with
    | nil => simp [insU]
    | cons b r ih =>
      unfold insU
      split
      · simp only [List.length_cons]; omega
      · split
        · simp only [List.length_cons]; omega
        · simp only [List.length_cons]; omega
  induction l with
  | nil => exact Nat.le_refl _
  | cons a r ih =>
    have := q a (usort r)
    simp only [usort, List.length_cons]
    omega
section
variable {X : Cx}
def tSset (K : PySem.W.Frag) (ta : TE) : TE := fun σ H Q => ta σ H fun x H1 => ∃ (l : Addr) (ns : List Int), x = .ref l ∧ SqL K H1 l (ns.map V.int) ∧ ns.length < 64 ∧ ∀ p, H1 p = none → Q (.ref p) (upd H1 p (.lst ((usort ns).map V.int)))
def tLset (K : PySem.W.Frag) (ta : TE) : TE := fun σ H Q => ta σ H fun x H1 => ∃ (l : Addr) (ns : List Int), x = .ref l ∧ SqL K H1 l (ns.map V.int) ∧ ns.length ≤ 4000 ∧ Q (.int ((usort ns).length : Nat)) H1
theorem setR_len {w : World} {h : Heap} {a : Addr} {ns : List Int} {c : Nat} (R : SetR w h a (fun j => decide (j ∈ ns)) c) : c = (usort ns).length := by
  obtain ⟨o, es, ep, t, ho, hex, hd, g, nd, hm, hb, hf, hn, hr⟩ := R
  have e := (List.perm_ext_iff_of_nodup nd (lt_nodup (usort_lt ns))).mpr fun k => by
    rw [← hm k, usort_mem, decide_eq_true_eq]
  have e2 := e.length_eq
  rw [List.length_map, Array.length_toList] at e2
  omega
theorem pe_lset {a : Expr} {ta : TE} {p p2 q pos : Pos} (hg : Gl X "len") (hm : X.mg "len" = none) (hg2 : Gl X "set") (hm2 : X.mg "set" = none) (ha : PE X a ta) (hc : X.calm = true)
    (na : starEach [a] X.env = (false, eval a X.env) :: starEach [] X.env) : PE X (.Call (.Name "len" p) [.Call (.Name "set" p2) [a] [] q] [] pos) (tLset X.K ta) := by
  refine ⟨fun pins s σ H Q I h => ?_⟩
  refine Call_ (ld_blt I hg hm boot_len ?_)
  refine PyProof.Rows.callWith_builtin1 (PyProof.Rows.args_cons ?_ rfl) rfl rfl
  refine Call_ (ld_blt I hg2 hm2 boot_set ?_)
  refine PyProof.Rows.callWith_type1 (PyProof.Rows.args_cons (thn (ha.run pins s σ H _ I h) fun v s1 ⟨x, H1, I1, r1, q1⟩ => PyProof.Rows.args_nil ?_) na) na rfl
  obtain ⟨l, ns, rfl, hq, hl, q1⟩ := q1
  cases r1
  obtain ⟨its, r, pl, hz⟩ := I1.list hq
  refine call_set_lstI ns (I1.ok.hd hc) pl.isList (by simpa using RZ.intsAre_vals r) (by unfold scanBound; omega) fun h' tk c hS hcl hk => ?_
  refine PyProof.Rows.args_nil ?_
  have ec := setR_len hS
  obtain ⟨o, es, ep, t, ho, hex, hd, g, nd, hm, hb, hf, hn, hr⟩ := hS
  have I2 : Inv X pins σ H1 { s1 with heap := h', toks := tk } := I1.kept fun b o e => hk b o e
  exact call_len_set ho hex hd hf (by rw [hn] <;> omega) ⟨.int (usort ns).length, H1, I2.tok _, ⟨_, by rw [hn, ec]⟩, q1⟩
theorem pe_sset {a : Expr} {ta : TE} {p p2 q pos : Pos} (hg : Gl X "sorted") (hm : X.mg "sorted" = none) (hg2 : Gl X "set") (hm2 : X.mg "set" = none) (ha : PE X a ta) (hc : X.calm = true)
    (na : starEach [a] X.env = (false, eval a X.env) :: starEach [] X.env) : PE X (.Call (.Name "sorted" p) [.Call (.Name "set" p2) [a] [] q] [] pos) (tSset X.K ta) := by
  refine ⟨fun pins s σ H Q I h => ?_⟩
  refine Call_ (ld_blt I hg hm (show bootBuiltins (Str.ofString "sorted") = some (.builtin "sorted") by decide +kernel) ?_)
  refine PyProof.Rows.callWith_builtin1 (PyProof.Rows.args_cons ?_ rfl) rfl rfl
  refine Call_ (ld_blt I hg2 hm2 boot_set ?_)
  refine PyProof.Rows.callWith_type1 (PyProof.Rows.args_cons (thn (ha.run pins s σ H _ I h) fun v s1 ⟨x, H1, I1, r1, q1⟩ => PyProof.Rows.args_nil ?_) na) na rfl
  obtain ⟨l, ns, rfl, hq, hl, q1⟩ := q1
  cases r1
  obtain ⟨its, r, pl, hz⟩ := I1.list hq
  refine call_set_lstI ns (I1.ok.hd hc) pl.isList (by simpa using RZ.intsAre_vals r) (by unfold scanBound; omega) fun h' tk c hS hcl hk => ?_
  refine PyProof.Rows.args_nil ?_
  have I2 : Inv X pins σ H1 { s1 with heap := h', toks := tk } := I1.kept fun b o e => hk b o e
  refine sorted_set hS (I1.ok.hd hc) (by omega) fun s' p out c' ys k g o hp hgt hi hs hmm hyl => ?_
  have ey : ys = usort ns := usort_only hs fun k => by rw [hmm, decide_eq_true_eq]
  subst ey
  have hlen : ((usort ns).map V.int).length ≤ sizeLine := by rw [List.length_map, hyl, sizeLine_eq]; omega
  have hn : H1 p = none := I2.hok.fresh hp
  have J : Inv X pins σ (upd H1 p (.lst ((usort ns).map V.int))) { ({ s1 with heap := h', toks := tk } : Shared) with heap := s'.heap, gens := s'.gens, drawn := s'.drawn, toks := s'.toks } :=
    I2.call (ch := []) (Un.laid k hp hn) (I2.hok.laid k hp ⟨hlen, out.toList, c', vals_of_ints hi, hgt⟩) (by rw [g]; exact I2.bare) (fun _ z => nomatch z)
  have e : s' = { ({ s1 with heap := h', toks := tk } : Shared) with heap := s'.heap, gens := s'.gens, drawn := s'.drawn, toks := s'.toks } := by
    cases s'
    cases s1
    cases o
    rfl
  rw [e]
  exact ⟨.ref p, _, J, rfl, q1 p hn⟩
end
section
variable {cm : Bool} {g : Gx} {Φ : Fe} {cx : CXT} {k : Nat} {N : List Str} {sc : Scope} {W : WX} {X : Cx}
theorem g_sset (C : Gd cm g Φ cx k N sc W X) (hcm : cm = true) {e : E} {π : PT} {p p2 pos pos2 : Pos} (ok : glB sc "sorted" = true) (ok2 : glB sc "set" = true) (he : PE X (pyE N e π) (tR g W (evE Φ e))) :
    PE X (.Call (.Name (Str.ofString "sorted") p) [.Call (.Name (Str.ofString "set") p2) [pyE N e π] [] pos2] [] pos) (tR g W (evE Φ (.sset e))) := by
  obtain ⟨h1, h2, h3, h4⟩ := C.scr.glo ok
  obtain ⟨k1, k2, k3, k4⟩ := C.scr.glo ok2
  refine PE.imp (pe_sset h1 (C.free "sorted" (by decide)) k1 (C.free "set" (by decide)) he (C.calm hcm) (st_cons _ _ _)) fun σ H Q ⟨B, ρ, F, S, h⟩ => ?_
  rw [evE] at h
  exact tR.step S h fun x v H1 F1 gr S1 r h => by
    cases hx : x.lst?.bind ints? with
    | none => rw [hx] at h; exact h.elim
    | some ns =>
      rw [hx] at h
      obtain ⟨a, rfl, hq⟩ := intsL (K := X.K) S1.fh r hx
      by_cases hl : ns.length < 64
      · simp only [hl, if_true] at h
        refine ⟨a, ns, rfl, hq, hl, fun q hq => ?_⟩
        exact h (.ref q) _ F1 ⟨same_upd hq, Same.refl _, S1.fh.trans (same_upd hq), fun _ _ h => .inl h⟩ ⟨q, _, rfl, upd_same, .ofInts⟩ ⟨q, rfl, hq, S1.fh.free hq⟩
      · simp only [hl, if_false] at h
        exact h.elim
theorem g_lset (C : Gd cm g Φ cx k N sc W X) (hcm : cm = true) {e : E} {π : PT} {p p2 pos pos2 : Pos} (ok : glB sc "len" = true) (ok2 : glB sc "set" = true) (he : PE X (pyE N e π) (tR g W (evE Φ e))) :
    PE X (.Call (.Name (Str.ofString "len") p) [.Call (.Name (Str.ofString "set") p2) [pyE N e π] [] pos2] [] pos) (tR g W (evE Φ (.lset e))) := by
  obtain ⟨h1, h2, h3, h4⟩ := C.scr.glo ok
  obtain ⟨k1, k2, k3, k4⟩ := C.scr.glo ok2
  refine PE.imp (pe_lset h1 (C.free "len" (by decide)) k1 (C.free "set" (by decide)) he (C.calm hcm) (st_cons _ _ _)) fun σ H Q ⟨B, ρ, F, S, h⟩ => ?_
  rw [evE] at h
  exact tR.step S h fun x v H1 F1 gr S1 r h => by
    cases hx : x.lst?.bind ints? with
    | none => rw [hx] at h; exact h.elim
    | some ns =>
      rw [hx] at h
      obtain ⟨a, rfl, hq⟩ := intsL (K := X.K) S1.fh r hx
      by_cases hl : ns.length ≤ 4000
      · simp only [hl, if_true] at h
        refine ⟨a, ns, rfl, hq, hl, ?_⟩
        exact h (.int (usort ns).length) H1 F1 (Grow.refl S1.fh) (.int _) trivial
      · simp only [hl, if_false] at h
        exact h.elim
theorem g_srev (C : Gd cm g Φ cx k N sc W X) {e : E} {π : PT} {p p2 p3 pos : Pos} (ok : glB sc "sorted" = true) (he : PE X (pyE N e π) (tR g W (evE Φ e))) :
    PE X (.Call (.Name (Str.ofString "sorted") p) [pyE N e π] [⟨some (Str.ofString "reverse"), .Constant (.bool true) 0 p2, p3⟩] pos) (tR g W (evE Φ (.srev e))) := by
  obtain ⟨h1, h2, h3, h4⟩ := C.scr.glo ok
  refine PE.imp (pe_callBK (cr_sortedRev (b := true)) h1 (C.free "sorted" (by decide)) (by decide +kernel) (pa_cons he pa_nil (st_cons _ _ _)) (pk_cons (pe_bl (b := true)) pk_nil) h4 h2 (by rw [st_cons]; rfl) (by rw [st_cons]; rfl) (by rfl) (by rfl) (by rfl)) fun σ H Q ⟨B, ρ, F, S, h⟩ => ?_
  rw [evE] at h
  exact tR.step S h fun x v H1 F1 gr S1 r h => by
    cases hx : x.lst?.bind ints? with
    | none => rw [hx] at h; exact h.elim
    | some ns =>
      rw [hx] at h
      obtain ⟨a, rfl, hq⟩ := intsL (K := X.K) S1.fh r hx
      refine ⟨a, ns, rfl, rfl, hq, fun ns' q hp ho hq => ?_⟩
      have e2 : ns' = (isort ns).reverse := by
        have e3 := isort_only ((List.reverse_perm ns').trans hp) (List.pairwise_reverse.mpr (show ns'.Pairwise (· ≥ ·) from ho))
        rw [← e3, List.reverse_reverse]
      subst e2
      exact h (.ref q) _ F1 ⟨same_upd hq, Same.refl _, S1.fh.trans (same_upd hq), fun _ _ h => .inl h⟩ ⟨q, _, rfl, upd_same, .ofInts⟩ ⟨q, rfl, hq, S1.fh.free hq⟩
end
end Lr

set_option Elab.async false
set_option linter.all false
set_option maxRecDepth 100000
set_option maxHeartbeats 1000000
/-! SndDc: frozen dicts read; list(d.keys()); dict(pairs); x[a::2]. -/
namespace Lr
open PySem PySem.Spec PyProof.Rows L2
section
variable {X : Cx}
def rListKeys : List V → Hp → VK → Prop := fun xs H Q => ∃ (p a : Addr) (kvs : List (L2.Key × V)) (ks : List Int), xs = [.ref p] ∧ H p = some (keysO p a) ∧ H a = some (.dK kvs) ∧ kvs.map (·.1) = ks.map Sum.inl ∧
  ∀ (q : Addr), H q = none → Q (.ref q) (upd H q (.lst (ks.map V.int)))
theorem cr_listKeys (hcalm : X.calm = true) : CallR X (.type "list") rListKeys := by
  intro pins s σ H xs us Q I r q
  obtain ⟨p, a, kvs, ks, ex, hp, hd, hks, q⟩ := q
  subst ex
  obtain ⟨u, eu, rx⟩ := vals1 r
  subst eu
  cases rx
  obtain ⟨z, lo, vs, rel, dd⟩ := dk_of I.hok hd
  have view : PySem.W.KdlKeysView s.heap p a := (show ObjOk X.prog X.w H s.heap p (keysO p a) from I.hok p _ hp).1
  obtain ⟨ep, hat⟩ := dd.dictAt
  have hkeys : vs.map (·.1) = ks.map Sum.inl := rel.keys.symm.trans hks
  have hl : vs.length = ks.length := by
    have e := congrArg List.length hkeys
    rw [List.length_map, List.length_map] at e
    exact e
  have hz : vs.length ≤ sizeLine := by rw [← Paired.length rel]; exact z
  refine PySem.W.kdl_call (A := X.A) (PySem.W.kdl_keys (knd := mixKind X.prog X.w) (kvs := vs) (ep := ep)) (I.ok.hd hcalm) ⟨view, hat⟩ hz fun h' tk acc c hk hS hacc => ?_
  have hal : acc.toList.length = ks.length := by rw [Array.length_toList, hacc.1, hl]
  have hI : IntsAre acc.toList ks := ints_each hal fun j v e => by
    obtain ⟨k, x, e1, e2⟩ := hacc.2 j v (by rw [← Array.getElem?_toList]; exact e)
    have e3 : (vs.map (·.1))[j]? = some k := by rw [List.getElem?_map, e1]; rfl
    rw [hkeys, List.getElem?_map] at e3
    cases e4 : ks[j]? with
    | none => rw [e4] at e3; cases e3
    | some y =>
      rw [e4] at e3
      have e5 : Sum.inl y = k := Option.some.inj e3
      subst e5
      rcases keyIs_shape (show keyIs (Sum.inl y) v = true from e2) with ⟨i, t, ek, ev⟩ | ⟨z, t, ek, ev⟩
      · cases ek
        exact ⟨y, t, rfl, ev⟩
      · cases ek
  refine ⟨.ref _, upd H s.heap.objs.size (.lst (ks.map V.int)), I.laid (t' := tk) hk (Nat.le_refl _) (show ObjOk X.prog X.w _ _ _ (.lst (ks.map V.int)) from ⟨by rw [List.length_map, ← hl]; exact hz, acc.toList, c, vals_of_ints hI, ?_⟩), rfl, q _ (I.hok.fresh (Nat.le_refl _))⟩
  rw [Array.toArray_toList]
  exact hS
/-! ### x[a::2] -/
theorem fm_congr {α β : Type} {f g : α → Option β} : ∀ {l : List α}, (∀ x ∈ l, f x = g x) → l.filterMap f = l.filterMap g
  | [], _ => rfl
  | x :: l, h => by
    rw [List.filterMap_cons, List.filterMap_cons, h x (List.mem_cons_self ..), fm_congr fun y hy => h y (List.mem_cons_of_mem _ hy)]
theorem alt_pick {α : Type} : ∀ l : List α, (List.range ((l.length + 1) / 2)).filterMap (fun k => l[2 * k]?) = alt l
  | [] => by simp [alt]
  | [a] => by
    have e : (([a] : List α).length + 1) / 2 = 1 := by simp only [List.length_cons, List.length_nil]
    rw [e, show List.range 1 = [0] from rfl]
    simp [alt]
  | a :: b :: r => by
    have e : ((a :: b :: r).length + 1) / 2 = (r.length + 1) / 2 + 1 := by simp only [List.length_cons]; omega
    rw [e, List.range_succ_eq_map, List.filterMap_cons]
    rw [show alt (a :: b :: r) = a :: alt r by simp [alt]]
    show a :: _ = a :: alt r
    rw [List.filterMap_map, ← alt_pick r]
    exact congrArg _ (fm_congr fun k _ => by
      show (a :: b :: r)[2 * (k + 1)]? = r[2 * k]?
      rw [show 2 * (k + 1) = 2 * k + 1 + 1 by omega, List.getElem?_cons_succ, List.getElem?_cons_succ])
theorem pick_alt (items : Array Value) (lo : Nat) : slicePick items (some (lo : Int)) none (some 2) = (alt (items.toList.drop lo)).toArray := by
  have hb : sliceBounds (some (lo : Int)) none (some 2) items.size = (((min lo items.size : Nat) : Int), (items.size : Int), 2) := by
    unfold sliceBounds
    have h0 : ¬ ((lo : Int) < 0) := by omega
    have h2 : (2 : Int) > 0 := by decide
    simp only [Option.getD_some, h0, h2, if_true, if_false]
    refine Prod.ext ?_ rfl
    show max 0 (min (lo : Int) (items.size : Int)) = _
    omega
  unfold slicePick
  rw [hb]
  show ((sliceRange ((min lo items.size : Nat) : Int) (items.size : Int) 2).filterMap (items[·]?)).toArray = _
  unfold sliceRange
  have h2 : (2 : Int) > 0 := by decide
  simp only [h2, if_true]
  by_cases h : lo < items.size
  · have hm : min lo items.size = lo := by omega
    rw [hm, if_pos (by omega)]
    rw [← alt_pick (items.toList.drop lo), List.filterMap_map]
    congr 1
    have el : ((items.size : Int) - (lo : Int) + 2 - 1) / 2 = ((((items.toList.drop lo).length + 1) / 2 : Nat) : Int) := by
      rw [List.length_drop, Array.length_toList]
      omega
    rw [el, Int.toNat_natCast]
    refine fm_congr fun k _ => ?_
    show items[((lo : Int) + 2 * (k : Int)).toNat]? = _
    rw [List.getElem?_drop, Array.getElem?_toList, show ((lo : Int) + 2 * (k : Int)).toNat = lo + 2 * k by omega]
  · have hm : min lo items.size = items.size := by omega
    rw [hm, if_neg (by omega), List.drop_eq_nil_of_le (by rw [Array.length_toList]; omega)]
    rfl
theorem alt_len {α : Type} : ∀ l : List α, (alt l).length ≤ l.length
  | [] => by simp [alt]
  | [_] => by simp [alt]
  | _ :: _ :: r => by
    have := alt_len r
    simp only [alt, List.length_cons]
    omega
theorem vals_alt : ∀ {xs : List V} {us : List Value}, Vals xs us → Vals (alt xs) (alt us)
  | [], [], _ => by simp only [alt]; exact .nil
  | [], _ :: _, h => nomatch h
  | [x], [u], h => by simp only [alt]; exact h
  | [x], [], h => nomatch h
  | [x], _ :: _ :: _, .cons _ t => nomatch t
  | x :: y :: xs, [], h => nomatch h
  | x :: y :: xs, [u], .cons _ t => nomatch t
  | x :: y :: xs, u :: w :: us, .cons a (.cons _ t) => by simp only [alt]; exact .cons a (vals_alt t)
theorem vals_drop : ∀ {xs : List V} {us : List Value} (n : Nat), Vals xs us → Vals (xs.drop n) (us.drop n)
  | _, _, 0, h => h
  | [], [], _ + 1, h => h
  | [], _ :: _, _ + 1, h => nomatch h
  | _ :: _, [], _ + 1, h => nomatch h
  | _ :: _, _ :: _, n + 1, .cons _ t => vals_drop n t
theorem RepL.alt {g : Gx} {F : Hp} : ∀ {vs : List V} {ts : List T}, RepL g F vs ts → RepL g F (Lr.alt vs) (Lr.alt ts)
  | _, _, .nil => by simp only [Lr.alt]; exact .nil
  | _, _, .cons a .nil => by simp only [Lr.alt]; exact .cons a .nil
  | _, _, .cons a (.cons _ t) => by simp only [Lr.alt]; exact .cons a (RepL.alt t)
def tSl2 (K : PySem.W.Frag) (lo : Nat) (te : TE) : TE := fun σ H Q => te σ H fun x H1 => ∃ a xs, x = .ref a ∧ SqL K H1 a xs ∧ ∀ p, H1 p = none → Q (.ref p) (upd H1 p (.lst (alt (xs.drop lo))))
theorem pe_sl2 {e : Expr} {te : TE} {lo k k2 : Nat} {p1 p2 p3 pos : Pos} (he : PE X e te) : PE X (.Subscript e (.Slice (some (.Constant (.int (lo : Int)) k p1)) none (some (.Constant (.int 2) k2 p2)) p3) pos) (tSl2 X.K lo te) := by
  refine ⟨fun pins s σ H Q I h => ?_⟩
  refine Subscript_ (thn (he.run pins s σ H _ I h) fun v s1 ⟨x, H1, I1, r1, q1⟩ => ?_)
  obtain ⟨a, xs, ex, hx, q⟩ := q1
  subst ex
  cases r1
  have hlo : PO X (some (.Constant (.int (lo : Int)) k p1)) (tPart (tC (.int (lo : Int)))) := po_some pe_int
  have hst : PO X (some (.Constant (.int 2) k2 p2)) (tPart (tC (.int 2))) := po_some pe_int
  refine wpAny_Slice (thn (hlo.run pins s1 σ H1 (fun o H2 => o = some (lo : Int) ∧ H2 = H1) I1 ⟨(lo : Int), rfl, rfl, rfl⟩) fun vl s2 ⟨l, H2, I2, pl, el, e2⟩ => ?_)
  subst el e2
  refine thn (po_none.run pins s2 σ H2 (fun o H3 => o = none ∧ H3 = H2) I2 ⟨rfl, rfl⟩) fun vu s3 ⟨u, H3, I3, pu, eu, e3⟩ => ?_
  subst eu e3
  refine thn (hst.run pins s3 σ H3 (fun o H4 => o = some 2 ∧ H4 = H3) I3 ⟨2, rfl, rfl, rfl⟩) fun vs s4 ⟨o, H4, I4, ps, eo, e4⟩ => ?_
  subst eo e4
  have I5 : Inv X pins σ H4 { s4 with heap := s4.heap.push { cls := .type "slice", data := .fields #[vl, vu, vs] } } := I4.kept (t' := s4.toks) fun b ob q => Heap.get?_push_of_some _ q
  obtain ⟨its, r, ht, hz⟩ := I5.list hx
  have hlen := r.length
  show wpAny (model X.prog X.w) X.A (subscriptTail e (.Slice (some (.Constant (.int (lo : Int)) k p1)) none (some (.Constant (.int 2) k2 p2)) p3) (.ref a) (.ref s4.heap.objs.size)) (EP X pins σ Q) X.xe { s4 with heap := s4.heap.push { cls := .type "slice", data := .fields #[vl, vu, vs] } }
  refine tail_any (ops := [.ref a, .ref s4.heap.objs.size]) ht.isList.typeIs (PySem.slot_list_getitem.lookup) ?_ (by with_unfolding_all rfl)
  refine wpAny_getItem_list_slice ht.isList (Heap.IsSliceOf.new _ vl vu vs) pl pu ps (by decide) ?_ (by rw [List.size_toArray]; omega)
  rw [pick_alt]
  refine ⟨.ref _, _, I5.laid (t' := s4.toks) (o := .lst (alt (xs.drop lo))) (fun b ob q => Heap.get?_push_of_some _ q) (Nat.le_refl _) ?_, rfl, q _ (I5.hok.fresh (Nat.le_refl _))⟩
  exact ⟨by have := alt_len (xs.drop lo); have := List.length_drop (i := lo) (l := xs); omega, _, 0, vals_alt (vals_drop lo r), Heap.get?_push_size _ rfl⟩
end
section
variable {cm : Bool} {g : Gx} {Φ : Fe} {cx : CXT} {k : Nat} {N : List Str} {sc : Scope} {W : WX} {X : Cx}
theorem g_sl2 {a : E} {lo k1 k2 : Nat} {ea : Expr} {p1 p2 p3 pos : Pos} (ha : PE X ea (tR g W (evE Φ a))) : PE X (.Subscript ea (.Slice (some (.Constant (.int (lo : Int)) k1 p1)) none (some (.Constant (.int 2) k2 p2)) p3) pos) (tR g W (evE Φ (.sl2 a lo))) := by
  refine PE.imp (pe_sl2 ha) fun σ H Q ⟨B, ρ, F, S, h⟩ => ?_
  rw [evE] at h
  exact tR.step S h fun x v H1 F1 gr S1 r h => by
    cases hx : x.lst? with
    | none => rw [hx] at h; exact h.elim
    | some ts =>
      rw [hx] at h
      obtain ⟨a, vs, rfl, rd, l⟩ := r.lst S1.fh hx
      refine ⟨a, vs, rfl, .inl rd, fun q hq => ?_⟩
      exact h (.ref q) _ F1 (.own S1.fh hq) ⟨q, _, rfl, upd_same, (l.drop lo).alt⟩ ⟨q, rfl, hq, S1.fh.free hq⟩
theorem g_dv (C : Gd cm g Φ cx k N sc W X) {i : Nat} {pos : Pos} (ok : visB N sc i = true) : PE X (.Name (nmOf N i) pos) (tR g W (evE Φ (.dv i))) := by
  obtain ⟨h1, h2, h3, h4⟩ := C.scr.vis ok
  refine PE.imp (pe_var (i := i) (by rw [C.hN]; exact h2) h1 h3 h4) fun σ H Q => ?_
  rintro ⟨B, ρ, F, S, h⟩
  rw [evE] at h
  cases e : rd ρ i with
  | ok x =>
    rw [e] at h
    obtain ⟨v, h5, h6, h7⟩ := S.rd e
    refine ⟨v, h5, h v H F (.refl S.fh) (h6.nrm S.fh) ?_⟩
    cases x with
    | v t => cases t <;> trivial
    | l nw ts => exact h7
    | dk nw ts => exact h7
    | dt nw ts => exact h7
    | ob c ns ts => exact h7
  | exc c fs =>
    unfold rd at e
    split at e <;> cases e
  | no => rw [e] at h; exact h.elim
theorem g_lkeys (C : Gd cm g Φ cx k N sc W X) (hcm : cm = true) {d : E} {π : PT} {p apos p1 pos : Pos} (ok : glB sc "list" = true) (hp : d.pl = true) (hline : (apos.endLine == p1.line) = true) (hd : PE X (pyE N d π) (tR g W (evE Φ d))) :
    PE X (.Call (.Name (Str.ofString "list") p) [.Call (.Attribute (pyE N d π) (Str.ofString "keys") apos) [] [] p1] [] pos) (tR g W (evE Φ (.lkeys d))) := by
  obtain ⟨h1, h2, h3, h4⟩ := C.scr.glo ok
  have hm : X.mg (Str.ofString "list") = none := C.free "list" (by decide)
  have hk : PE X (.Call (.Attribute (pyE N d π) (Str.ofString "keys") apos) [] [] p1) (tBM0 X.K "dict" rKeysA (tR g W (evE Φ d))) := pe_bm0 PySem.F.plainAttrs_dict PySem.F.slot_dict_keys PySem.F.type_dict_keys mt_keysA hd (ab_pl d π _ _ hp) hline
  refine PE.imp (pe_callTy (cr_listKeys (C.calm hcm)) h1 hm (by decide +kernel) (pa_cons hk pa_nil) h4 h2) fun σ H Q ⟨B, ρ, F, S, h⟩ => ?_
  rw [evE] at h
  exact tR.step S h fun x v H1 F1 gr S1 r h => by
    cases x with
    | dk nw kvs =>
      obtain ⟨a, xs, rfl, ha, rk⟩ := r
      refine ⟨.inr (.inr (.inl ⟨rfl, .inl ⟨_, ha⟩⟩)), a, rfl, rfl, .inl ⟨xs, ha⟩, fun p0 hp0 => ?_⟩
      simp only at h
      cases hi : kInts kvs with
      | none => rw [hi] at h; exact h.elim
      | some ns =>
        rw [hi] at h
        have hne : a ≠ p0 := fun z => by rw [z] at ha; rw [ha] at hp0; cases hp0
        refine ⟨p0, a, xs, ns, rfl, upd_same, by rw [upd_ne hne]; exact ha, (repK_keys rk).trans (kInts_ok hi), fun q hq => ?_⟩
        have s1 : Same H1 (upd H1 p0 (keysO p0 a)) := same_upd hp0
        have s2 : Same (upd H1 p0 (keysO p0 a)) (upd (upd H1 p0 (keysO p0 a)) q (.lst (ns.map V.int))) := same_upd hq
        have hq1 : H1 q = none := s1.free hq
        refine h (.ref q) _ F1 ⟨s1.trans s2, Same.refl _, S1.fh.trans (s1.trans s2), fun _ _ h => .inl h⟩ ⟨q, _, rfl, upd_same, .ofInts⟩ ⟨q, rfl, hq1, S1.fh.free hq1⟩
    | _ => exact h.elim
/-! ### dict(pairs) -/
theorem kvs_ok {F H : Hp} (s : Same F H) {K : PySem.W.Frag} : ∀ {ts : List T} {kvs : List (Key × T)} {vs : List V}, RepL g F vs ts → kvs? ts = some kvs → ∃ (ps : List Addr) (xs : List (Key × V)), vs = ps.map V.ref ∧ Paired (fun p kv => SqT K H p [kV kv.1, kv.2]) ps xs ∧ RepK g F xs kvs
  | [], kvs, _, .nil, e => by cases e; exact ⟨[], [], rfl, .nil, .nil⟩
  | t :: ts, kvs, v :: vs, .cons a l, e => by
    unfold kvs? at e
    split at e
    · rename_i heq; cases heq
    · rename_i a1 b1 r heq
      cases heq
      split at e
      · rename_i k l' e1 e2
        cases e
        obtain ⟨ps, xs, h1, h2, h3⟩ := kvs_ok s (K := K) l e2
        cases a with
        | tup hF hL =>
          cases hL with
          | cons r1 hL => cases hL with
            | cons r2 hL =>
              cases hL
              have z := key_ok r1 e1
              subst z
              exact ⟨_ :: ps, (k, _) :: xs, by rw [h1]; rfl, .cons (.inl (.inl (s _ _ hF))) h2, .cons ⟨rfl, r2⟩ h3⟩
      · cases e
    · cases e
theorem RepK.fold {F : Hp} : ∀ {more : List (Key × V)} {mt : List (Key × T)} {xs : List (Key × V)} {ts : List (Key × T)}, RepK g F more mt → RepK g F xs ts → RepK g F (mergeK xs more) (mt.foldl (fun d p => kPut d p.1 p.2) ts)
  | [], [], _, _, _, h => h
  | [], _ :: _, _, _, h, _ => nomatch h
  | _ :: _, [], _, _, h, _ => nomatch h
  | p :: more, q :: mt, xs, ts, .cons a b, h => by
    obtain ⟨e, r⟩ := a
    show RepK g F (mergeK (putK xs p.1 p.2) more) (mt.foldl (fun d p => kPut d p.1 p.2) (kPut ts q.1 q.2))
    rw [e]
    exact RepK.fold b (RepK.put h r)
theorem kPut_eq {ts : List (Key × T)} {k : Key} {t : T} : kPut ts k t = (if (ts.any fun p => decide (p.1 = k)) = true then ts.map (fun p => if p.1 = k then (p.1, t) else p) else ts ++ [(k, t)]) := rfl
theorem g_dofp (C : Gd cm g Φ cx k N sc W X) (hcm : cm = true) {e : E} {π : PT} {p pos : Pos} (ok : glB sc "dict" = true) (he : PE X (pyE N e π) (tR g W (evE Φ e))) : PE X (.Call (.Name (Str.ofString "dict") p) [pyE N e π] [] pos) (tR g W (evE Φ (.dofp e))) := by
  obtain ⟨h1, h2, h3, h4⟩ := C.scr.glo ok
  have hm : X.mg (Str.ofString "dict") = none := C.free "dict" (by decide)
  have hs : starEach [pyE N e π] X.env = (false, eval (pyE N e π) X.env) :: starEach [] X.env := st_cons _ _ _
  refine PE.imp (pe_callTy (call_dictP (C.calm hcm)) h1 hm (by decide +kernel) (pa_cons he pa_nil hs) h4 h2 hs) fun σ H Q ⟨B, ρ, F, S, h⟩ => ?_
  rw [evE] at h
  exact tR.step S h fun x v H1 F1 gr S1 r h => by
    cases hx : x.lst?.bind kvs? with
    | none => rw [hx] at h; exact h.elim
    | some kvs =>
      rw [hx] at h
      obtain ⟨ts, e1, e2⟩ := Option.bind_eq_some_iff.mp hx
      obtain ⟨a, vs, rfl, rd, l⟩ := r.lst S1.fh e1
      obtain ⟨ps, xs, q1, q2, q3⟩ := kvs_ok (H := H1) S1.fh (K := X.K) l e2
      subst q1
      refine ⟨a, ps, xs, rfl, .inl rd, q2, fun q hq => ?_⟩
      exact h (.ref q) _ F1 (.own S1.fh hq) ⟨q, _, rfl, upd_same, RepK.fold q3 .nil⟩ ⟨q, rfl, hq, S1.fh.free hq⟩
end
end Lr

set_option Elab.async false
set_option linter.all false
set_option maxRecDepth 100000
set_option maxHeartbeats 1000000
/-! SndH: targets, what is walked, comprehensions. -/
namespace Lr
open PySem PySem.Spec PyProof.Rows L2 RZ RT
section
variable {cm : Bool} {g : Gx} {Φ : Fe} {cx : CXT} {k : Nat} {N : List Str} {sc : Scope} {W : WX} {X : Cx}
theorem PG.imp {e : Expr} {t t' : TG} (h : PG X e t) (k : ∀ v σ H Q, t' v σ H Q → t v σ H Q) : PG X e t' := ⟨fun pins s σ H v u Q I r q => h.run pins s σ H v u Q I r (k v σ H Q q)⟩
theorem PGs.imp {e : List Expr} {t t' : TGs} (h : PGs X e t) (k : ∀ v σ H Q, t' v σ H Q → t v σ H Q) : PGs X e t' := ⟨fun pins s σ H v u Q I r q => h.run pins s σ H v u Q I r (k v σ H Q q)⟩
theorem PI.imp {tg e : Expr} {t t' : TI} (h : PI X tg e t) (k : ∀ σ H Q, t' σ H Q → t σ H Q) : PI X tg e t' := ⟨fun pins s σ H R I q => h.run pins s σ H R I (k σ H R q)⟩
/-- a target's reading -/
def gT (g : Gx) (tg : Tg) : TG := fun v σ H Q => ∃ B ρ F H1 F1 x ρ', SR g B ρ σ H1 F1 ∧ Grow H1 F1 H F ∧ VRep g H F v x ∧ NewOk H1 H F v x ∧ bindTg tg x ρ = some ρ' ∧
  ∀ σ', SR g B ρ' σ' H F → σ'.length = σ.length → (∀ j, j ∉ tg.vars → σ'[j]? = σ[j]?) → Q σ' H
def gTs (g : Gx) (ts : Tgs) : TGs := fun vs σ H Q => ∃ B ρ F us ρ', SR g B ρ σ H F ∧ RepL g F vs us ∧ bindTgs ts us ρ = some ρ' ∧
  ∀ σ', SR g B ρ' σ' H F → σ'.length = σ.length → (∀ j, j ∉ ts.vars → σ'[j]? = σ[j]?) → Q σ' H
theorem as_cons (t : Tg) (π : PT) (es : List Expr) (env : PySem.Env) : assignEach (pyTg N t π :: es) env = (false, assign (pyTg N t π) env) :: assignEach es env := by cases t <;> rfl
theorem as_len (env : PySem.Env) : ∀ (ts : Tgs) (l : List PT), (assignEach (pyTgs N ts l) env).findIdx? (·.1) = none
  | .nil, _ => rfl
  | .cons t ts, l => by
    show (assignEach (pyTg N t (hd l) :: pyTgs N ts l.tail) env).findIdx? (·.1) = none
    rw [as_cons, List.findIdx?_cons, as_len env ts l.tail]
    rfl
def Tgs.len : Tgs → Nat
  | .nil => 0
  | .cons _ ts => ts.len + 1
theorem as_n (env : PySem.Env) : ∀ (ts : Tgs) (l : List PT), (assignEach (pyTgs N ts l) env).length = ts.len
  | .nil, _ => rfl
  | .cons t ts, l => by
    show (assignEach (pyTg N t (hd l) :: pyTgs N ts l.tail) env).length = ts.len + 1
    rw [as_cons, List.length_cons, as_n env ts l.tail]
theorem bindTgs_len : ∀ {ts : Tgs} {us : List T} {ρ ρ' : Lr.Env}, bindTgs ts us ρ = some ρ' → us.length = ts.len
  | .nil, [], _, _, _ => rfl
  | .nil, _ :: _, _, _, h => by simp [bindTgs] at h
  | .cons t ts, [], _, _, h => by simp [bindTgs] at h
  | .cons t ts, u :: us, ρ, ρ', h => by
    unfold bindTgs at h
    split at h
    · exact congrArg (· + 1) (bindTgs_len h)
    · cases h
mutual
theorem g_tg (C : Gd cm g Φ cx k N sc W X) : ∀ (t : Tg) (π : PT), okTg cm N sc t = true → PG X (pyTg N t π) (gT g t)
  | .nm i, π, ok => by
    obtain ⟨h1, h2, h3⟩ := C.scr.loc (by simpa only [okTg] using ok)
    have h4 : X.fn (nmOf N i) = true ∨ X.env.scope.names.lookup (nmOf N i) = some .local := h3.imp (C.fnc _) id
    refine PG.imp (pg_name (i := i) (by rw [C.hN]; exact C.nd) (by rw [C.hN]; exact h2) h1 h4) fun v σ H Q ⟨B, ρ, F, H1, F1, x, ρ', S, gr, r, n, hb, q⟩ => ?_
    unfold bindTg at hb
    split at hb
    · split at hb
      · rename_i s hs
        cases hb
        refine q _ (S.put gr r n hs) (List.length_set) fun j hj => List.getElem?_set_ne fun z => hj ?_
        rw [z]
        exact List.mem_singleton.mpr rfl
      · cases hb
    · cases hb
  | .tup ts, π, ok => by
    simp only [okTg, Bool.and_eq_true] at ok
    have h := g_tgs C ts (π.d 0) ok.2
    refine PG.imp (pg_tup (C.calm ok.1) h (as_n _ _ _) (as_len _ _ _)) fun v σ H Q ⟨B, ρ, F, H1, F1, x, ρ', S, gr, r, n, hb, q⟩ => ?_
    unfold bindTg at hb
    split at hb
    · rename_i us
      cases r with
      | tup h1 l => exact ⟨_, _, rfl, .inl (.inl (gr.fh _ _ h1)), by rw [l.length, bindTgs_len hb], B, ρ, F, us, ρ', S.grow gr, l, hb, q⟩
    · cases hb
theorem g_tgs (C : Gd cm g Φ cx k N sc W X) : ∀ (ts : Tgs) (l : List PT), okTgs cm N sc ts = true → PGs X (pyTgs N ts l) (gTs g ts)
  | .nil, _, _ => PGs.imp pgs_nil fun v σ H Q ⟨B, ρ, F, us, ρ', S, l, hb, q⟩ => by
    cases l with
    | nil =>
      simp only [bindTgs, Option.some.injEq] at hb
      subst hb
      exact ⟨rfl, q σ S rfl fun _ _ => rfl⟩
    | cons _ _ => simp [bindTgs] at hb
  | .cons t ts, l, ok => by
    simp only [okTgs, Bool.and_eq_true] at ok
    have h1 := g_tg C t (hd l) ok.1
    have h2 := g_tgs C ts l.tail ok.2
    refine PGs.imp (pgs_cons h1 h2 (by rw [as_cons]; rfl)) fun vs σ H Q ⟨B, ρ, F, us, ρ', S, lr, hb, q⟩ => ?_
    cases lr with
    | nil => simp [bindTgs] at hb
    | cons r lr =>
      unfold bindTgs at hb
      split at hb
      · rename_i ρ1 hb1
        refine ⟨_, _, rfl, B, ρ, F, H, F, .v _, ρ1, S, .refl S.fh, r, trivial, hb1, fun σ' S' e1 e2 => ⟨B, ρ1, F, _, ρ', S', lr, hb, fun σ2 S2 e3 e4 => q σ2 S2 (e3.trans e1) fun j hj => ?_⟩⟩
        simp only [Tgs.vars, List.mem_append, not_or] at hj
        rw [e4 j hj.2, e2 j hj.1]
      · cases hb
end
/-! ### what is walked -/
structure ItOk (g : Gx) (lo F : Hp) (J : L2.It) (us : List T) : Prop where
  ex : ∃ (G : Hp → Prop) (Y : Nat → Hp → V → Hp → Prop), Walk J us.length G Y ∧ (∀ H', Same lo H' → Same F H' → G H') ∧ ∀ i H' F' x H'' u, us[i]? = some u → Same F F' → Same F' H' → Y i H' x H'' → ∃ F'', Grow H' F' H'' F'' ∧ Rep g F'' x u
def loF (fz : Bool) (H F : Hp) : Hp := if fz then F else H
def pI (g : Gx) (fz : Bool) (H F : Hp) (R : L2.It → Hp → Prop) (us : List T) : Prop := ∀ J H1 F1, Grow H F H1 F1 → ItOk g (loF fz H1 F1) F1 J us → R J H1
def iT (g : Gx) (W : WX) (fz : Bool) (f : Lr.Env → R (List T)) : TI := fun σ H R => ∃ B ρ F, SR g B ρ σ H F ∧ po (f ρ) (pI g fz H F R) (exq g H F (WE W σ))
theorem pI.grow {fz : Bool} {H F H' F' : Hp} {R : L2.It → Hp → Prop} {us : List T} (a : Grow H F H' F') (h : pI g fz H F R us) : pI g fz H' F' R us := fun J H1 F1 b o => h J H1 F1 (a.trans b) o
theorem po.gI {fz : Bool} {H F H' F' : Hp} {RR : L2.It → Hp → Prop} {W : XK} {r : R (List T)} (h : po r (pI g fz H F RR) (exq g H F W)) (a : Grow H F H' F') : po r (pI g fz H' F' RR) (exq g H' F' W) := h.imp (fun _ => pI.grow a) fun _ _ => exq.grow a
theorem tR.stepI {B : Bs} {ρ : Lr.Env} {σ : L2.St} {H F : Hp} {fz : Bool} {fa : Lr.Env → R Val} {f : Val → R (List T)} {R : L2.It → Hp → Prop} (S : SR g B ρ σ H F) (h : po ((fa ρ).bind f) (pI g fz H F R) (exq g H F (WE W σ))) {Q1 : VK}
    (k : ∀ x v H1 F1, Grow H F H1 F1 → SR g B ρ σ H1 F1 → VRep g H1 F1 v x → NewOk H H1 F1 v x → po (f x) (pI g fz H F R) (exq g H F (WE W σ)) → Q1 v H1) : tR g W fa σ H Q1 :=
  ⟨B, ρ, F, S, h.bind.im fun x hx v H1 F1 gr r n => k x v H1 F1 gr (S.grow gr) r n hx⟩
theorem it_list {lo F : Hp} {a : Addr} {vs : List V} {ts : List T} {K : PySem.W.Frag} (h : Rd lo a (.lst vs)) (l : RepL g F vs ts) : ItOk g lo F (Itl K a) ts := by
  refine ⟨_, _, (l.length ▸ walk_list : Walk (Itl K a) ts.length (fun H => SqL K H a vs) (YAt vs)), fun H' s _ => .inl (Same.rd s h), fun i H' F' x H'' u e s1 s2 y => ?_⟩
  obtain ⟨rfl, y⟩ := y
  obtain ⟨v, e1, r⟩ := l.get e
  rw [e1] at y
  cases y
  exact ⟨F', .refl s2, r.mono s1⟩
theorem it_tup {lo F : Hp} {a : Addr} {vs : List V} {ts : List T} {K : PySem.W.Frag} (h : F a = some (.tup vs)) (l : RepL g F vs ts) : ItOk g lo F (Itt K a) ts := by
  refine ⟨_, _, (l.length ▸ walk_tup : Walk (Itt K a) ts.length (fun H => SqT K H a vs) (YAt vs)), fun H' _ s => .inl (.inl (s _ _ h)), fun i H' F' x H'' u e s1 s2 y => ?_⟩
  obtain ⟨rfl, y⟩ := y
  obtain ⟨v, e1, r⟩ := l.get e
  rw [e1] at y
  cases y
  exact ⟨F', .refl s2, r.mono s1⟩
theorem it_str {lo F : Hp} {z : Str} : ItOk g lo F (Its z) (signs z) := by
  have e : (signs z).length = z.cps.size := by unfold signs; rw [List.length_map, Array.length_toList]
  refine ⟨_, _, (e ▸ walk_str : Walk (Its z) (signs z).length (fun _ => True) (fun i H v H' => H' = H ∧ ∃ c, z.cps[i]? = some c ∧ v = .str ⟨#[c]⟩)), fun _ _ _ => trivial, fun i H' F' x H'' u e s1 s2 y => ?_⟩
  obtain ⟨rfl, c, y, rfl⟩ := y
  unfold signs at e
  rw [List.getElem?_map, Array.getElem?_toList, y] at e
  cases e
  exact ⟨F', .refl s2, .str _⟩
theorem rng_get {a : Int} {n i : Nat} {u : T} (h : (rng a n)[i]? = some u) : u = .int (a + (i : Nat)) := by
  unfold rng at h
  rw [List.getElem?_map] at h
  cases e : (List.range n)[i]? with
  | none => rw [e] at h; cases h
  | some j =>
    rw [e] at h
    rw [List.getElem?_eq_some_iff] at e
    obtain ⟨hi, e⟩ := e
    rw [List.getElem_range] at e
    subst e
    cases h
    rfl
theorem it_rng {lo F : Hp} {a : Int} {n : Nat} : ItOk g lo F (L2.Itr a n) (rng a n) := by
  have e : (rng a n).length = n := by unfold rng; rw [List.length_map, List.length_range]
  refine ⟨fun _ => True, YFn fun i => .int (a + i), by rw [e]; exact walk_range, fun _ _ _ => trivial, fun i H' F' x H'' u e s1 s2 y => ?_⟩
  obtain ⟨rfl, rfl⟩ := y
  rw [rng_get e]
  exact ⟨F', .refl s2, .int _⟩
theorem it_rngC {lo F : Hp} {a c : Int} {n : Nat} : ItOk g lo F (Itc a c n) (rng3 a c n) := by
  have e : (rng3 a c n).length = n := by unfold rng3; rw [List.length_map, List.length_range]
  refine ⟨fun _ => True, YFn fun i => .int (a + (i : Nat) * c), by rw [e]; exact walk_rangeC, fun _ _ _ => trivial, fun i H' F' x H'' u h s1 s2 y => ?_⟩
  obtain ⟨rfl, rfl⟩ := y
  refine ⟨F', .refl s2, ?_⟩
  unfold rng3 at h
  rw [List.getElem?_map] at h
  cases e : (List.range n)[i]? with
  | none => rw [e] at h; cases h
  | some j =>
    rw [e] at h
    rw [List.getElem?_eq_some_iff] at e
    obtain ⟨hi, e⟩ := e
    rw [List.getElem_range] at e
    subst e
    cases h
    exact .int _
theorem rep_pair {H F : Hp} {p : Addr} {x y : V} {t u : T} (s : Same F H) (hp : H p = none) (a : Rep g F x t) (b : Rep g F y u) : Grow H F (upd H p (.tup [x, y])) (upd F p (.tup [x, y])) ∧ Rep g (upd F p (.tup [x, y])) (.ref p) (.tup [t, u]) := by
  have n := Grow.new (o := .tup [x, y]) s hp
  exact ⟨n, .tup upd_same (.cons (a.mono n.f) (.cons (b.mono n.f) .nil))⟩
theorem enumT_get : ∀ {ts : List T} {k i : Nat} {u : T}, (enumT k ts)[i]? = some u → ∃ t, ts[i]? = some t ∧ u = .tup [.int ((k + i : Nat) : Int), t]
  | [], _, _, _, h => by simp [enumT] at h
  | t :: ts, k, 0, u, h => by
    simp only [enumT, List.getElem?_cons_zero, Option.some.injEq] at h
    exact ⟨t, rfl, h.symm⟩
  | t :: ts, k, i + 1, u, h => by
    simp only [enumT, List.getElem?_cons_succ] at h
    obtain ⟨t', h1, h2⟩ := enumT_get h
    exact ⟨t', by simpa using h1, by rw [h2]; congr 4; omega⟩
theorem enumT_len : ∀ (ts : List T) (k : Nat), (enumT k ts).length = ts.length
  | [], _ => rfl
  | _ :: ts, k => congrArg (· + 1) (enumT_len ts (k + 1))
theorem it_enum {lo F : Hp} {a : Addr} {vs : List V} {ts : List T} {K : PySem.W.Frag} (h : Rd lo a (.lst vs)) (l : RepL g F vs ts) : ItOk g lo F (L2.Ite K a) (enumT 0 ts) := by
  refine ⟨fun H => SqL K H a vs, YPair (fun i => some (.int (i : Nat))) (fun i => vs[i]?), by rw [enumT_len, ← l.length]; exact walk_enum, fun H' s _ => .inl (Same.rd s h), fun i H' F' x H'' u e s1 s2 y => ?_⟩
  obtain ⟨p, x', y', rfl, hp, rfl, h1, h2⟩ := y
  obtain ⟨t, e1, rfl⟩ := enumT_get e
  obtain ⟨v, e2, r⟩ := l.get e1
  have h2 : vs[i]? = some y' := h2
  rw [e2] at h2
  cases h2
  cases h1
  obtain ⟨g1, r1⟩ := rep_pair s2 hp (.int (i : Nat)) (r.mono s1)
  exact ⟨_, g1, by rw [Nat.zero_add]; exact r1⟩
theorem it_enumT {lo F : Hp} {a : Addr} {vs : List V} {ts : List T} {K : PySem.W.Frag} (h : F a = some (.tup vs)) (l : RepL g F vs ts) : ItOk g lo F (IteT K a) (enumT 0 ts) := by
  have hn : (enumT 0 ts).length = vs.length := by rw [enumT_len, l.length]
  refine ⟨fun H => SqT K H a vs, YPair (fun i => some (.int (i : Nat))) (fun i => vs[i]?), ⟨fun i H hi q => ⟨vs, vs[i]'(by omega), q, by simp [show i < vs.length by omega]⟩, fun H q => ⟨vs, q, hn.symm⟩, fun i H v H' _ q y => ?_⟩, fun H' _ s => .inl (.inl (s _ _ h)), fun i H' F' x H'' u e s1 s2 y => ?_⟩
  · obtain ⟨T, x, h1, h2, h3, h4⟩ := y
    exact ⟨T, .int (i : Nat), x, h1, h2, h3, rfl, h4 vs q⟩
  · obtain ⟨p, x', y', rfl, hp, rfl, h1, h2⟩ := y
    obtain ⟨t, e1, rfl⟩ := enumT_get e
    obtain ⟨v, e2, r⟩ := l.get e1
    have h2 : vs[i]? = some y' := h2
    rw [e2] at h2
    cases h2
    cases h1
    obtain ⟨g1, r1⟩ := rep_pair s2 hp (.int (i : Nat)) (r.mono s1)
    exact ⟨_, g1, by rw [Nat.zero_add]; exact r1⟩
theorem zipT_get : ∀ {as bs : List T} {i : Nat} {u : T}, (zipT as bs)[i]? = some u → ∃ t w, as[i]? = some t ∧ bs[i]? = some w ∧ u = .tup [t, w]
  | [], _, _, _, h => by simp [zipT] at h
  | _ :: _, [], _, _, h => by simp [zipT] at h
  | a :: as, b :: bs, 0, u, h => by
    simp only [zipT, List.getElem?_cons_zero, Option.some.injEq] at h
    exact ⟨a, b, rfl, rfl, h.symm⟩
  | a :: as, b :: bs, i + 1, u, h => by
    simp only [zipT, List.getElem?_cons_succ] at h
    obtain ⟨t, w, h1, h2, h3⟩ := zipT_get h
    exact ⟨t, w, by simpa using h1, by simpa using h2, h3⟩
theorem zipT_len : ∀ (as bs : List T), (zipT as bs).length = min as.length bs.length
  | [], _ => by simp [zipT]
  | _ :: _, [] => by simp [zipT]
  | a :: as, b :: bs => by simp only [zipT, List.length_cons, zipT_len as bs]; omega
theorem it_zip {lo F : Hp} {a b : Addr} {vs ws : List V} {ts us : List T} {K : PySem.W.Frag} (h : Rd lo a (.lst vs)) (l : RepL g F vs ts) (h2 : Rd lo b (.lst ws)) (l2 : RepL g F ws us) : ItOk g lo F (Itz K a b) (zipT ts us) := by
  refine ⟨fun H => SqL K H a vs ∧ SqL K H b ws, YPair (fun i => vs[i]?) (fun i => ws[i]?), walk_zip (by rw [zipT_len, l.length, l2.length]), fun H' s _ => ⟨.inl (Same.rd s h), .inl (Same.rd s h2)⟩, fun i H' F' x H'' u e s1 s2 y => ?_⟩
  obtain ⟨p, x', y', rfl, hp, rfl, h1, h2⟩ := y
  obtain ⟨t, w, e1, e2, rfl⟩ := zipT_get e
  obtain ⟨v, e3, r⟩ := l.get e1
  obtain ⟨v2, e4, r2⟩ := l2.get e2
  have h2 : ws[i]? = some y' := h2
  have h1 : vs[i]? = some x' := h1
  rw [e4] at h2
  rw [e3] at h1
  cases h2
  cases h1
  obtain ⟨g1, r1⟩ := rep_pair s2 hp (r.mono s1) (r2.mono s1)
  exact ⟨_, g1, r1⟩
theorem it_zipT {lo F : Hp} {a b : Addr} {vs ws : List V} {ts us : List T} {K : PySem.W.Frag} (h : F a = some (.tup vs)) (l : RepL g F vs ts) (h2 : F b = some (.tup ws)) (l2 : RepL g F ws us) : ItOk g lo F (ItzT K a b) (zipT ts us) := by
  have hn : (zipT ts us).length = min vs.length ws.length := by rw [zipT_len, l.length, l2.length]
  refine ⟨fun H => SqT K H a vs ∧ SqT K H b ws, YPair (fun i => vs[i]?) (fun i => ws[i]?), ⟨fun i H hi q => ?_, fun H q => ⟨vs, ws, q.1, q.2, by omega⟩, fun i H v H' _ q y => ?_⟩, fun H' _ s => ⟨.inl (.inl (s _ _ h)), .inl (.inl (s _ _ h2))⟩, fun i H' F' x H'' u e s1 s2 y => ?_⟩
  · have h1 : i < vs.length := by omega
    have h2 : i < ws.length := by omega
    exact ⟨vs, ws, vs[i], ws[i], q.1, q.2, by simp [h1], by simp [h2]⟩
  · obtain ⟨T, x, z, h1, h2, h3, h4, h5⟩ := y
    exact ⟨T, x, z, h1, h2, h3, h4 vs q.1, h5 ws q.2⟩
  · obtain ⟨p, x', y', rfl, hp, rfl, h1, h2⟩ := y
    obtain ⟨t, w, e1, e2, rfl⟩ := zipT_get e
    obtain ⟨v, e3, r⟩ := l.get e1
    obtain ⟨v2, e4, r2⟩ := l2.get e2
    have h2 : ws[i]? = some y' := h2
    have h1 : vs[i]? = some x' := h1
    rw [e4] at h2
    rw [e3] at h1
    cases h2
    cases h1
    obtain ⟨g1, r1⟩ := rep_pair s2 hp (r.mono s1) (r2.mono s1)
    exact ⟨_, g1, r1⟩
theorem it_zipM {lo F : Hp} {a b : Addr} {vs ws : List V} {ts us : List T} {K : PySem.W.Frag} (h : F a = some (.tup vs)) (l : RepL g F vs ts) (h2 : Rd lo b (.lst ws)) (l2 : RepL g F ws us) : ItOk g lo F (ItzM K a b) (zipT ts us) := by
  have hn : (zipT ts us).length = min vs.length ws.length := by rw [zipT_len, l.length, l2.length]
  refine ⟨fun H => SqT K H a vs ∧ SqL K H b ws, YPair (fun i => vs[i]?) (fun i => ws[i]?), ⟨fun i H hi q => ?_, fun H q => ⟨vs, ws, q.1, q.2, hn⟩, fun i H v H' _ q y => ?_⟩, fun H' s1 s2 => ⟨.inl (.inl (s2 _ _ h)), .inl (Same.rd s1 h2)⟩, fun i H' F' x H'' u e s1 s2 y => ?_⟩
  · have h1 : i < vs.length := by omega
    have h2 : i < ws.length := by omega
    exact ⟨vs, ws, vs[i], ws[i], q.1, q.2, by simp [h1], by simp [h2]⟩
  · obtain ⟨T, x, z, h1, h2, h3, h4, h5⟩ := y
    exact ⟨T, x, z, h1, h2, h3, h4 vs q.1, h5 ws q.2⟩
  · obtain ⟨p, x', y', rfl, hp, rfl, h1, h2⟩ := y
    obtain ⟨t, w, e1, e2, rfl⟩ := zipT_get e
    obtain ⟨v, e3, r⟩ := l.get e1
    obtain ⟨v2, e4, r2⟩ := l2.get e2
    have h2 : ws[i]? = some y' := h2
    have h1 : vs[i]? = some x' := h1
    rw [e4] at h2
    rw [e3] at h1
    cases h2
    cases h1
    obtain ⟨g1, r1⟩ := rep_pair s2 hp (r.mono s1) (r2.mono s1)
    exact ⟨_, g1, r1⟩
theorem rev_get {ts : List T} {i : Nat} {u : T} (h : ts.reverse[i]? = some u) : ts[ts.length - 1 - i]? = some u ∧ i < ts.length := by
  have hi : i < ts.length := by
    have := (List.getElem?_eq_some_iff.mp h).1
    rwa [List.length_reverse] at this
  rw [List.getElem?_reverse hi] at h
  exact ⟨h, hi⟩
theorem it_rev {lo F : Hp} {a : Addr} {vs : List V} {ts : List T} {K : PySem.W.Frag} (h : Rd lo a (.lst vs)) (l : RepL g F vs ts) : ItOk g lo F (Itv K a vs.length) ts.reverse := by
  refine ⟨fun H => SqL K H a vs, fun i H x H' => H' = H ∧ vs[vs.length - 1 - i]? = some x, by rw [List.length_reverse, ← l.length]; exact walk_rev, fun H' s _ => .inl (Same.rd s h), fun i H' F' x H'' u e s1 s2 y => ?_⟩
  obtain ⟨rfl, y⟩ := y
  obtain ⟨e1, _⟩ := rev_get e
  rw [← l.length] at e1
  obtain ⟨v, e2, r⟩ := l.get e1
  rw [e2] at y
  cases y
  exact ⟨F', .refl s2, r.mono s1⟩
theorem it_revT {lo F : Hp} {a : Addr} {vs : List V} {ts : List T} {K : PySem.W.Frag} (h : F a = some (.tup vs)) (l : RepL g F vs ts) : ItOk g lo F (ItvT K a vs.length) ts.reverse := by
  refine ⟨fun H => SqT K H a vs, fun i H x H' => H' = H ∧ vs[vs.length - 1 - i]? = some x, ?_, fun H' _ s => .inl (.inl (s _ _ h)), fun i H' F' x H'' u e s1 s2 y => ?_⟩
  · rw [List.length_reverse, ← l.length]
    exact ⟨fun i _ hi q => ⟨hi, vs, vs[vs.length - 1 - i]'(by omega), q, by simp [show vs.length - 1 - i < vs.length by omega]⟩, fun _ _ => Nat.le_refl _, fun _ _ _ _ _ q y => ⟨y.1, y.2 vs q⟩⟩
  · obtain ⟨rfl, y⟩ := y
    obtain ⟨e1, _⟩ := rev_get e
    rw [← l.length] at e1
    obtain ⟨v, e2, r⟩ := l.get e1
    rw [e2] at y
    cases y
    exact ⟨F', .refl s2, r.mono s1⟩
theorem it_revr {lo F : Hp} {a : Int} {n : Nat} : ItOk g lo F (Itc (a + ((n : Nat) : Int) - 1) (-1) n) (rng a n).reverse := by
  have e : (rng a n).length = n := by unfold rng; rw [List.length_map, List.length_range]
  refine ⟨fun _ => True, YFn fun i => .int (a + ((n : Nat) : Int) - 1 + (i : Nat) * (-1)), by rw [List.length_reverse, e]; exact walk_rangeC, fun _ _ _ => trivial, fun i H' F' x H'' u h s1 s2 y => ?_⟩
  obtain ⟨rfl, rfl⟩ := y
  obtain ⟨h1, h2⟩ := rev_get h
  rw [e] at h1 h2
  rw [rng_get h1]
  refine ⟨F', .refl s2, ?_⟩
  have : a + ((n : Nat) : Int) - 1 + ((i : Nat) : Int) * (-1) = a + ((n - 1 - i : Nat) : Int) := by omega
  show Rep g F' (.int (a + ((n : Nat) : Int) - 1 + ((i : Nat) : Int) * (-1))) _
  rw [this]
  exact .int _
/-- a list that is walked: frozen ahead of a loop -/
theorem ls_walk {fz : Bool} {H F H1 F1 : Hp} {x : Val} {v : V} {ts : List T} (gr : Grow H F H1 F1) (r : VRep g H1 F1 v x) (n : NewOk H H1 F1 v x) (e : lsV fz x = .ok ts) :
    ∃ a vs F2, v = .ref a ∧ Grow H F H1 F2 ∧ Same F1 F2 ∧ Rd (loF fz H1 F2) a (.lst vs) ∧ RepL g F2 vs ts := by
  unfold lsV at e
  cases x with
  | v t => cases t with
    | lst us =>
      have : us = ts := by
        simp only [Val.bor, Bool.and_false, Val.lst?] at e
        cases e; rfl
      subst this
      cases r with
      | lst h l =>
        refine ⟨_, _, F1, rfl, gr, Same.refl _, ?_, l⟩
        cases fz with
        | true => exact h
        | false => exact Same.rd gr.fh h
    | _ => simp [Val.bor, Val.lst?, R.of] at e
  | l nw us =>
    cases nw with
    | true =>
      have : us = ts := by
        simp only [Val.bor, Bool.and_false, Val.lst?] at e
        cases e; rfl
      subst this
      obtain ⟨p, rfl, n1, n2⟩ := n
      obtain ⟨_, vs, e', h, l⟩ := r
      cases e'
      cases fz with
      | true => exact ⟨p, vs, _, rfl, gr.frz n1 h n2, same_upd n2, .inl upd_same, l.mono (same_upd n2)⟩
      | false => exact ⟨p, vs, F1, rfl, gr, Same.refl _, .inl h, l⟩
    | false =>
      cases fz with
      | true => simp [Val.bor] at e
      | false =>
        have : us = ts := by
          simp only [Val.bor, Bool.false_and, Val.lst?] at e
          cases e; rfl
        subst this
        obtain ⟨p, vs, rfl, h, l⟩ := r
        exact ⟨p, vs, F1, rfl, gr, Same.refl _, .inl h, l⟩
  | _ => cases fz <;> simp [Val.bor, Val.lst?, R.of] at e
/-! ### the iterables -/
theorem po_ok {α : Type} {r : R α} {P : α → Prop} {Z : String → List T → Prop} (h : po r P Z) (n : r.ne) : ∃ a, r = .ok a ∧ P a := by
  cases r with
  | ok a => exact ⟨a, rfl, h⟩
  | exc _ _ => exact n.elim
  | no => exact h.elim
theorem lsV_ne {fz : Bool} {x : Val} : (lsV fz x).ne := by unfold lsV; exact ne_ite trivial ne_of
/-- a value first: if it raises, anything will do -/
theorem it_exc {RR : L2.It → Hp → Prop} {B : Bs} {ρ : Lr.Env} {σ : L2.St} {H F : Hp} {fz : Bool} {fa : Lr.Env → R Val} {f : Val → R (List T)} {Q : VK} (S : SR g B ρ σ H F) (h : po ((fa ρ).bind f) (pI g fz H F RR) (exq g H F (WE W σ))) (no : ∀ x, fa ρ ≠ .ok x) : tR g W fa σ H Q := by
  refine ⟨B, ρ, F, S, ?_⟩
  cases e : fa ρ with
  | ok x => exact (no x e).elim
  | exc c fs => rw [e] at h; exact h
  | no => rw [e] at h; exact h
theorem tR.stepJ {B : Bs} {ρ : Lr.Env} {σ : L2.St} {H F : Hp} {fz : Bool} {fa : Lr.Env → R Val} {f : Val → R (List T)} {RR : L2.It → Hp → Prop} {x : Val} (S : SR g B ρ σ H F) (h : po ((fa ρ).bind f) (pI g fz H F RR) (exq g H F (WE W σ))) (e : fa ρ = .ok x) {Q1 : VK}
    (k : ∀ v H1 F1, Grow H F H1 F1 → SR g B ρ σ H1 F1 → VRep g H1 F1 v x → NewOk H H1 F1 v x → po (f x) (pI g fz H F RR) (exq g H F (WE W σ)) → Q1 v H1) : tR g W fa σ H Q1 := by
  refine ⟨B, ρ, F, S, ?_⟩
  rw [e] at h ⊢
  exact fun v H1 F1 gr r n => k v H1 F1 gr (S.grow gr) r n h
theorem i_seq {fz : Bool} {e : E} {ee tg : Expr} (he : PE X ee (tR g W (evE Φ e))) : PI X tg ee (iT g W fz (evIt Φ fz (.seq e))) := by
  refine ⟨fun pins s σ H RR I ⟨B, ρ, F, S, h⟩ => ?_⟩
  rw [evIt] at h
  have lst : ∀ x, evE Φ e ρ = .ok x → itemsV fz x = lsV fz x → iList X.K (tR g W (evE Φ e)) σ H RR := fun x ex hx => tR.stepJ S h ex fun v H1 F1 gr S1 r n hh => by
    rw [hx] at hh
    obtain ⟨ts, e1, hh⟩ := po_ok hh lsV_ne
    obtain ⟨a, vs, F2, rfl, g2, s2, rd, l⟩ := ls_walk gr r n e1
    refine ⟨a, rfl, ⟨vs, ?_⟩, hh _ H1 F2 g2 (it_list rd l)⟩
    cases fz with
    | true => exact .inl (Same.rd g2.fh rd)
    | false => exact .inl rd
  cases ex : evE Φ e ρ with
  | ok x =>
    cases x with
    | v t => cases t with
      | str z =>
        refine (pi_str he).run pins s σ H RR I (tR.stepJ S h ex fun v H1 F1 gr S1 r n hh => ?_)
        cases r
        exact ⟨z, rfl, hh _ H1 F1 gr it_str⟩
      | tup us =>
        refine (pi_tup he).run pins s σ H RR I (tR.stepJ S h ex fun v H1 F1 gr S1 r n hh => ?_)
        simp only [itemsV, seqV, Val.bor, Bool.and_false, Val.seq?] at hh
        cases r with
        | tup h1 l => exact ⟨_, rfl, ⟨_, .inl (.inl (gr.fh _ _ h1))⟩, hh _ H1 F1 gr (it_tup h1 l)⟩
      | _ => exact (pi_list he).run pins s σ H RR I (lst _ ex (by rfl))
    | l nw ts => exact (pi_list he).run pins s σ H RR I (lst _ ex (by rfl))
    | _ => exact (pi_list he).run pins s σ H RR I (lst _ ex (by rfl))
  | exc c fs => exact (pi_list he).run pins s σ H RR I (it_exc S h fun x z => by rw [ex] at z; cases z)
  | no => exact (pi_list he).run pins s σ H RR I (it_exc S h fun x z => by rw [ex] at z; cases z)
theorem one_arg' {ea : E} {π : PT} {t : TE} (ha : PE X (pyE N ea π) t) : PA X [pyE N ea π] (tCons t tNil) := pa_cons ha pa_nil (st_cons _ _ _)
theorem two_args {ea eb : E} {π π2 : PT} {t t2 : TE} (ha : PE X (pyE N ea π) t) (hb : PE X (pyE N eb π2) t2) : PA X [pyE N ea π, pyE N eb π2] (tCons t (tCons t2 tNil)) := pa_cons ha (one_arg' hb) (st_cons _ _ _)
theorem sts1 (m : E) (π : PT) (env : PySem.Env) : starEach [pyE N m π] env = [(false, eval (pyE N m π) env)] := st_cons _ _ _
theorem sts2 (m m2 : E) (π π2 : PT) (env : PySem.Env) : starEach [pyE N m π, pyE N m2 π2] env = [(false, eval (pyE N m π) env), (false, eval (pyE N m2 π2) env)] := by rw [st_cons, st_cons]; rfl
theorem bt1 (m : E) (π : PT) (env : PySem.Env) (pos : Pos) : (backTo pos (starEach [pyE N m π] env)).any (·.1) = false := by rw [st_cons]; rfl
theorem bt2 (m m2 : E) (π π2 : PT) (env : PySem.Env) (pos : Pos) : (backTo pos (starEach [pyE N m π, pyE N m2 π2] env)).any (·.1) = false := by rw [st_cons, st_cons]; rfl
theorem bt0 (env : PySem.Env) (pos : Pos) : (backTo pos (starEach [] env)).any (·.1) = false := rfl
theorem rngOk_ok {a b : Int} (h : rngOk a b = true) : -(2 ^ 62) ≤ a ∧ a < 2 ^ 62 ∧ -(2 ^ 62) ≤ b ∧ b < 2 ^ 62 := by
  unfold rngOk at h
  simp only [Bool.and_eq_true, decide_eq_true_eq] at h
  exact ⟨h.1.1.1, h.1.1.2, h.1.2, h.2⟩
theorem asI_ok {x : Val} {α : Type} {f : Int → R α} {P : α → Prop} {Z : String → List T → Prop} {H F : Hp} {v : V} (h : po ((asI x).bind f) P Z) (r : VRep g H F v x) : ∃ i, v = .int i ∧ x = .v (.int i) ∧ po (f i) P Z := by
  cases x with
  | v t => cases t with
    | int i => cases r; exact ⟨i, rfl, rfl, h⟩
    | _ => exact h.elim
  | _ => exact h.elim
theorem i_rg1 (C : Gd cm g Φ cx k N sc W X) {fz : Bool} {a : E} {π : PT} {tg : Expr} {p pos : Pos} (ok : glB sc "range" = true) (ha : PE X (pyE N a π) (tR g W (evE Φ a))) : PI X tg (.Call (.Name (Str.ofString "range") p) [pyE N a π] [] pos) (iT g W fz (evIt Φ fz (.rg1 a))) := by
  obtain ⟨h1, h2, h3, h4⟩ := C.scr.glo ok
  refine PI.imp (pi_range1 h1 (C.free _ (by decide)) (one_arg' ha) (sts1 _ _ _)) fun σ H RR ⟨B, ρ, F, S, h⟩ => ?_
  rw [evIt] at h
  exact tR.stepI S h fun x v H1 F1 gr S1 r n h => by
    obtain ⟨i, rfl, _, h⟩ := asI_ok h r
    by_cases hk : rngOk 0 i = true
    · rw [if_pos hk] at h
      obtain ⟨k1, k2, k3, k4⟩ := rngOk_ok hk
      exact ⟨i, rfl, k3, k4, h _ H1 F1 gr it_rng⟩
    · rw [if_neg hk] at h
      exact h.elim
theorem tR.stepI2 {B : Bs} {ρ : Lr.Env} {σ : L2.St} {H F H0 F0 : Hp} {fz : Bool} {fa : Lr.Env → R Val} {f : Val → R (List T)} {RR : L2.It → Hp → Prop} (S : SR g B ρ σ H F) (g0 : Grow H0 F0 H F) (h : po ((fa ρ).bind f) (pI g fz H0 F0 RR) (exq g H0 F0 (WE W σ))) {Q1 : VK}
    (k : ∀ x v H1 F1, Grow H F H1 F1 → SR g B ρ σ H1 F1 → VRep g H1 F1 v x → NewOk H H1 F1 v x → po (f x) (pI g fz H0 F0 RR) (exq g H0 F0 (WE W σ)) → Q1 v H1) : tR g W fa σ H Q1 :=
  ⟨B, ρ, F, S, (h.bind).imp (fun x hx v H1 F1 gr r n => k x v H1 F1 gr (S.grow gr) r n hx) fun _ _ => exq.grow g0⟩
theorem i_rg2 (C : Gd cm g Φ cx k N sc W X) {fz : Bool} {a b : E} {π π2 : PT} {tg : Expr} {p pos : Pos} (ok : glB sc "range" = true) (ha : PE X (pyE N a π) (tR g W (evE Φ a))) (hb : PE X (pyE N b π2) (tR g W (evE Φ b))) :
    PI X tg (.Call (.Name (Str.ofString "range") p) [pyE N a π, pyE N b π2] [] pos) (iT g W fz (evIt Φ fz (.rg2 a b))) := by
  obtain ⟨h1, h2, h3, h4⟩ := C.scr.glo ok
  refine PI.imp (pi_range2 h1 (C.free _ (by decide)) (two_args ha hb) (sts2 _ _ _ _ _) (sts1 _ _ _)) fun σ H RR ⟨B, ρ, F, S, h⟩ => ?_
  rw [evIt] at h
  exact tR.stepI S h fun x v H1 F1 gr S1 r n h => tR.stepI2 S1 gr h fun y w H2 F2 gr2 S2 r2 n2 h => by
    obtain ⟨i, rfl, rfl, h5⟩ := asI_ok h r
    obtain ⟨j, rfl, rfl, h6⟩ := asI_ok h5 r2
    by_cases hk : rngOk i j = true
    · rw [if_pos hk] at h6
      exact ⟨i, j, rfl, rngOk_ok hk, h6 _ H2 F2 (gr.trans gr2) it_rng⟩
    · rw [if_neg hk] at h6
      exact h6.elim
theorem tup_ne {x : Val} {ts : List T} (h : tup? x = some ts) : x = .v (.tup ts) := by
  unfold tup? at h
  split at h
  · cases h; rfl
  · cases h
theorem i_enu (C : Gd cm g Φ cx k N sc W X) {fz : Bool} {a : E} {π : PT} {es : List Expr} {kk : Nat} {tpos p pos : Pos} (ok : glB sc "enumerate" = true) (ha : PE X (pyE N a π) (tR g W (evE Φ a))) :
    PI X (.Tuple es kk tpos) (.Call (.Name (Str.ofString "enumerate") p) [pyE N a π] [] pos) (iT g W fz (evIt Φ fz (.enu a))) := by
  obtain ⟨h1, h2, h3, h4⟩ := C.scr.glo ok
  have hl := pi_enum (tpos := tpos) (elts := es) (kk := kk) (p := p) (pos := pos) h1 (C.free _ (by decide)) (one_arg' ha) (sts1 _ _ _)
  refine ⟨fun pins s σ H RR I ⟨B, ρ, F, S, h⟩ => ?_⟩
  rw [evIt] at h
  cases ex : evE Φ a ρ with
  | exc c fs => exact hl.run pins s σ H RR I (it_exc S h fun x z => by rw [ex] at z; cases z)
  | no => exact hl.run pins s σ H RR I (it_exc S h fun x z => by rw [ex] at z; cases z)
  | ok x =>
    cases et : tup? x with
    | some ts =>
      refine (pi_enumT (tpos := tpos) (elts := es) (kk := kk) (p := p) (pos := pos) h1 (C.free _ (by decide)) (one_arg' ha) (sts1 _ _ _)).run pins s σ H RR I (tR.stepJ S h ex fun v H1 F1 gr S1 r n hh => ?_)
      simp only [et] at hh
      have hx := tup_ne et
      subst hx
      cases r with
      | tup h1 l => exact ⟨_, _, rfl, .inl (.inl (gr.fh _ _ h1)), hh _ H1 F1 gr (it_enumT h1 l)⟩
    | none =>
      refine hl.run pins s σ H RR I (tR.stepJ S h ex fun v H1 F1 gr S1 r n hh => ?_)
      simp only [et] at hh
      obtain ⟨ts, e1, hh⟩ := po_ok hh.bind lsV_ne
      obtain ⟨a, vs, F2, rfl, g2, s2, rd, l⟩ := ls_walk gr r n e1
      refine ⟨a, vs, rfl, ?_, hh _ H1 F2 g2 (it_enum rd l)⟩
      cases fz with
      | true => exact .inl (Same.rd g2.fh rd)
      | false => exact .inl rd
theorem i_rev (C : Gd cm g Φ cx k N sc W X) {fz : Bool} {a : E} {π : PT} {tg : Expr} {p pos : Pos} (ok : glB sc "reversed" = true) (ha : PE X (pyE N a π) (tR g W (evE Φ a))) :
    PI X tg (.Call (.Name (Str.ofString "reversed") p) [pyE N a π] [] pos) (iT g W fz (evIt Φ fz (.rev a))) := by
  obtain ⟨h1, h2, h3, h4⟩ := C.scr.glo ok
  refine PI.imp (pi_revA h1 (C.free _ (by decide)) ha (st_cons _ _ _)) fun σ H RR ⟨B, ρ, F, S, h⟩ => ?_
  rw [evIt] at h
  exact tR.stepI S h fun x v H1 F1 gr S1 r n h => by
    have h := h.bind
    have lst : seqV fz x = lsV fz x → ∃ (a : Addr) (xs : List V), v = .ref a ∧ ((SqL X.K H1 a xs ∧ RR (Itv X.K a xs.length) H1) ∨ (SqT X.K H1 a xs ∧ RR (ItvT X.K a xs.length) H1)) := fun hx => by
      rw [hx] at h
      obtain ⟨ts, e1, h⟩ := po_ok h lsV_ne
      obtain ⟨a, vs, F2, rfl, g2, s2, rd, l⟩ := ls_walk gr r n e1
      refine ⟨a, vs, rfl, .inl ⟨?_, h _ H1 F2 g2 (it_rev rd l)⟩⟩
      cases fz with
      | true => exact .inl (Same.rd g2.fh rd)
      | false => exact .inl rd
    cases x with
    | v t => cases t with
      | tup us =>
        simp only [seqV, Val.bor, Bool.and_false, Val.seq?] at h
        cases r with
        | tup h1 l => exact ⟨_, _, rfl, .inr ⟨.inl (.inl (gr.fh _ _ h1)), h _ H1 F1 gr (it_revT h1 l)⟩⟩
      | _ => exact lst rfl
    | _ => exact lst rfl
theorem i_revr (C : Gd cm g Φ cx k N sc W X) {fz : Bool} {a b : E} {π π2 : PT} {tg : Expr} {p p2 pos pos2 : Pos} (ok : glB sc "reversed" = true) (ok2 : glB sc "range" = true) (ha : PE X (pyE N a π) (tR g W (evE Φ a))) (hb : PE X (pyE N b π2) (tR g W (evE Φ b))) :
    PI X tg (.Call (.Name (Str.ofString "reversed") p) [.Call (.Name (Str.ofString "range") p2) [pyE N a π, pyE N b π2] [] pos2] [] pos) (iT g W fz (evIt Φ fz (.revr a b))) := by
  obtain ⟨h1, h2, h3, h4⟩ := C.scr.glo ok
  obtain ⟨k1, k2, k3, k4⟩ := C.scr.glo ok2
  refine PI.imp (pi_revR h1 (C.free _ (by decide)) (prg_2 k1 (C.free _ (by decide)) ha hb (st_cons _ _ _) (st_cons _ _ _) (bt1 _ _ _ _)) rfl) fun σ H RR ⟨B, ρ, F, S, h⟩ => ?_
  rw [evIt] at h
  exact tR.stepI S h fun x v H1 F1 gr S1 r n h => tR.stepI2 S1 gr h fun y w H2 F2 gr2 S2 r2 n2 h => by
    obtain ⟨i, rfl, rfl, h5⟩ := asI_ok h r
    obtain ⟨j, rfl, rfl, h6⟩ := asI_ok h5 r2
    by_cases hk : rngOk i j = true
    · rw [if_pos hk] at h6
      obtain ⟨k1, k2, k3, k4⟩ := rngOk_ok hk
      exact ⟨i, j, rfl, rfl, k1, k2, k3, k4, h6 _ H2 F2 (gr.trans gr2) it_revr⟩
    · rw [if_neg hk] at h6
      exact h6.elim
theorem NewOk.later {H H1 F1 H2 F2 : Hp} {v : V} {x : Val} (n : NewOk H H1 F1 v x) (r : VRep g H1 F1 v x) (gr : Grow H1 F1 H2 F2) : NewOk H H2 F2 v x := by
  cases x with
  | v t => trivial
  | ob _ _ _ => trivial
  | l nw ts => cases nw with
    | false => trivial
    | true =>
      obtain ⟨p, rfl, n1, n2⟩ := n
      obtain ⟨_, vs', e', h5, _⟩ := r
      cases e'
      exact ⟨p, rfl, n1, gr.noneF n2 h5⟩
  | dk nw ts => cases nw with
    | false => trivial
    | true =>
      obtain ⟨p, rfl, n1, n2⟩ := n
      obtain ⟨_, vs', e', h5, _⟩ := r
      cases e'
      exact ⟨p, rfl, n1, gr.noneF n2 h5⟩
  | dt nw ts => cases nw with
    | false => trivial
    | true =>
      obtain ⟨p, rfl, n1, n2⟩ := n
      obtain ⟨_, vs', e', h5, _⟩ := r
      cases e'
      exact ⟨p, rfl, n1, gr.noneF n2 h5⟩
theorem tR.stepE {B : Bs} {ρ : Lr.Env} {σ : L2.St} {H F H0 F0 : Hp} {fz : Bool} {fa : Lr.Env → R Val} {f : Val → R (List T)} {RR : L2.It → Hp → Prop} (S : SR g B ρ σ H F) (g0 : Grow H0 F0 H F) (h : po ((fa ρ).bind f) (pI g fz H0 F0 RR) (exq g H0 F0 (WE W σ))) {Q1 : VK}
    (k : ∀ x v H1 F1, fa ρ = .ok x → Grow H F H1 F1 → SR g B ρ σ H1 F1 → VRep g H1 F1 v x → NewOk H H1 F1 v x → po (f x) (pI g fz H0 F0 RR) (exq g H0 F0 (WE W σ)) → Q1 v H1) : tR g W fa σ H Q1 := by
  refine ⟨B, ρ, F, S, ?_⟩
  cases e : fa ρ with
  | ok x => rw [e] at h; exact fun v H1 F1 gr r n => k x v H1 F1 e gr (S.grow gr) r n h
  | exc c fs => rw [e] at h; exact exq.grow g0 h
  | no => rw [e] at h; exact h
theorem i_zip (C : Gd cm g Φ cx k N sc W X) {fz : Bool} {a b : E} {π π2 : PT} {es : List Expr} {kk : Nat} {tpos p pos : Pos} (ok : glB sc "zip" = true) (ha : PE X (pyE N a π) (tR g W (evE Φ a))) (hb : PE X (pyE N b π2) (tR g W (evE Φ b))) :
    PI X (.Tuple es kk tpos) (.Call (.Name (Str.ofString "zip") p) [pyE N a π, pyE N b π2] [] pos) (iT g W fz (evIt Φ fz (.zip a b))) := by
  obtain ⟨h1, h2, h3, h4⟩ := C.scr.glo ok
  refine ⟨fun pins s σ H RR I ⟨B, ρ, F, S, h⟩ => ?_⟩
  rw [evIt] at h
  by_cases mx : ∃ x ts y, evE Φ a ρ = .ok x ∧ tup? x = some ts ∧ evE Φ b ρ = .ok y ∧ tup? y = none
  · obtain ⟨x, ts, y, e1, e2, e3, e4⟩ := mx
    refine (pi_zipM (tpos := tpos) (elts := es) (kk := kk) (p := p) (pos := pos) h1 (C.free _ (by decide)) (two_args ha hb) (st_cons _ _ _) (bt1 _ _ _ _)).run pins s σ H RR I ?_
    refine tR.stepJ S h e1 fun v H1 F1 gr S1 r n h => tR.stepE S1 gr h fun y' w H2 F2 ey gr2 S2 r2 n2 h => ?_
    rw [e3] at ey
    cases ey
    have hx := tup_ne e2
    subst hx
    unfold zipV at h
    simp only [e2, e4] at h
    obtain ⟨us, e5, h⟩ := po_ok h.bind lsV_ne
    obtain ⟨b', ws, F3, rfl, g3, s3, rd2, l2⟩ := ls_walk gr2 r2 n2 e5
    cases r with
    | tup k1 l1 =>
      have k2 := g3.f _ _ k1
      refine ⟨_, b', _, ws, rfl, .inl (.inl (g3.fh _ _ k2)), ?_, h _ H2 F3 (gr.trans g3) (it_zipM k2 (l1.mono g3.f) rd2 l2)⟩
      cases fz with
      | true => exact .inl (Same.rd g3.fh rd2)
      | false => exact .inl rd2
  refine (pi_zipA (tpos := tpos) (elts := es) (kk := kk) (p := p) (pos := pos) h1 (C.free _ (by decide)) (two_args ha hb) (st_cons _ _ _) (bt1 _ _ _ _)).run pins s σ H RR I ?_
  exact tR.stepE S (.refl S.fh) h fun x v H1 F1 ea gr S1 r n h => tR.stepE S1 gr h fun y w H2 F2 eb gr2 S2 r2 n2 h => by
    unfold zipV at h
    cases ex : tup? x with
    | some ts =>
      cases ey : tup? y with
      | some us =>
        simp only [ex, ey] at h
        have h9 : po (R.ok (zipT ts us)) (pI g fz H F RR) (exq g H F (WE W σ)) := h
        clear h
        unfold tup? at ex ey
        split at ex
        · split at ey
          · cases ex
            cases ey
            cases r with
            | tup k1 l1 =>
              cases r2 with
              | tup k2 l2 => exact ⟨_, _, _, _, rfl, .inr ⟨.inl (.inl (gr2.h _ _ (gr.fh _ _ k1))), .inl (.inl (gr2.fh _ _ k2)), h9 _ H2 F2 (gr.trans gr2) (it_zipT (gr2.f _ _ k1) (l1.mono gr2.f) k2 l2)⟩⟩
          · cases ey
        · cases ex
      | none => exact (mx ⟨x, ts, y, ea, ex, eb, ey⟩).elim
    | none =>
      cases ey : tup? y with
      | some us => simp only [ex, ey] at h; exact h.elim
      | none =>
        simp only [ex, ey] at h
        obtain ⟨ts, e1, h⟩ := po_ok h.bind lsV_ne
        obtain ⟨us, e2, h⟩ := po_ok h.bind lsV_ne
        obtain ⟨b, ws, F3, rfl, g3, s3, rd2, l2⟩ := ls_walk gr2 r2 n2 e2
        obtain ⟨a, vs, F4, rfl, g4, s4, rd1, l1⟩ := ls_walk (gr.trans g3) (r.grow g3) (n.later r g3) e1
        have rd2' : Rd (loF fz H2 F4) b (.lst ws) := by
          cases fz with
          | true => exact Same.rd s4 rd2
          | false => exact rd2
        have q : ∀ {c : Addr} {zs : List V}, Rd (loF fz H2 F4) c (.lst zs) → SqL X.K H2 c zs := fun rd => by
          cases fz with
          | true => exact .inl (Same.rd g4.fh rd)
          | false => exact .inl rd
        exact ⟨a, b, vs, ws, rfl, .inl ⟨q rd1, q rd2', h _ H2 F4 g4 (it_zip rd1 l1 rd2' (l2.mono s4))⟩⟩
theorem small3 {i j c : Int} (h : rg3Ok i j c = true) : RgC i j c (stepN i j c) := by
  unfold rg3Ok at h
  simp only [Bool.and_eq_true, decide_eq_true_eq] at h
  obtain ⟨⟨⟨h1, h2⟩, h3⟩, h4⟩ := h
  exact ⟨h1, h2, h3, (Int.toNat_of_nonneg h4).symm⟩
theorem i_rg3 (C : Gd cm g Φ cx k N sc W X) {fz : Bool} {a b c : E} {π π2 π3 : PT} {tg : Expr} {p pos : Pos} (ok : glB sc "range" = true) (ha : PE X (pyE N a π) (tR g W (evE Φ a))) (hb : PE X (pyE N b π2) (tR g W (evE Φ b))) (hc : PE X (pyE N c π3) (tR g W (evE Φ c))) :
    PI X tg (.Call (.Name (Str.ofString "range") p) [pyE N a π, pyE N b π2, pyE N c π3] [] pos) (iT g W fz (evIt Φ fz (.rg3 a b c))) := by
  obtain ⟨h1, h2, h3, h4⟩ := C.scr.glo ok
  refine PI.imp (pi_range3 h1 (C.free _ (by decide)) (pa_cons ha (two_args hb hc) (st_cons _ _ _)) (st_cons _ _ _) (bt2 _ _ _ _ _ _)) fun σ H RR ⟨B, ρ, F, S, h⟩ => ?_
  rw [evIt] at h
  exact tR.stepI S h fun x v H1 F1 gr S1 r n h => tR.stepI2 S1 gr h fun y w H2 F2 gr2 S2 r2 n2 h => tR.stepI2 S2 (gr.trans gr2) h fun z u H3 F3 gr3 S3 r3 n3 h => by
    obtain ⟨i, rfl, rfl, h5⟩ := asI_ok h r
    obtain ⟨j, rfl, rfl, h6⟩ := asI_ok h5 r2
    obtain ⟨l, rfl, rfl, h7⟩ := asI_ok h6 r3
    by_cases hk : rg3Ok i j l = true
    · rw [if_pos hk] at h7
      exact ⟨i, j, l, _, rfl, small3 hk, h7 _ H3 F3 ((gr.trans gr2).trans gr3) it_rngC⟩
    · rw [if_neg hk] at h7
      exact h7.elim
/-! ### comprehensions -/
theorem wipe_get (own : List Nat) (σ : L2.St) (j : Nat) : (L2.wipe σ own)[j]? = if j ∈ own ∧ j < σ.length then some none else σ[j]? := by
  induction own with
  | nil => simp [L2.wipe]
  | cons v vs ih =>
    show ((L2.wipe σ vs).set v none)[j]? = _
    rw [List.getElem?_set, ih, wipe_length]
    by_cases hv : v = j
    · subst hv
      by_cases hj : v < σ.length <;> simp [hj]
    · simp [hv, Ne.symm hv]
theorem wipe_same {σ τ : L2.St} {own : List Nat} (hl : τ.length = σ.length) (h : ∀ j, j ∉ own → τ[j]? = σ[j]?) : L2.wipe τ own = L2.wipe σ own := by
  apply List.ext_getElem?
  intro j
  rw [wipe_get, wipe_get, hl]
  by_cases hj : j ∈ own
  · by_cases hl2 : j < σ.length
    · simp [hj, hl2]
    · simp only [hl2, and_false, if_false]
      rw [List.getElem?_eq_none (by omega), List.getElem?_eq_none (by omega)]
  · simp only [hj, false_and, if_false]
    exact h j hj
theorem wipe_wipe (σ : L2.St) (own : List Nat) : L2.wipe (L2.wipe σ own) own = L2.wipe σ own := wipe_same (wipe_length _ _) fun j hj => by
  rw [wipe_get]
  simp only [hj, false_and, if_false]
theorem lookup_relS {b : List (Str × NameKind)} {s' : Scope} {x : Str} : (b.map fun (n, k) => if (k == .free && s'.kind == .function && s'.names.lookup n == some .cell) then (n, NameKind.cell) else (n, k)).lookup x = b.lookup x ∨
    (b.lookup x = some .free ∧ (b.map fun (n, k) => if (k == .free && s'.kind == .function && s'.names.lookup n == some .cell) then (n, NameKind.cell) else (n, k)).lookup x = some .cell) := by
  induction b with
  | nil => exact .inl rfl
  | cons p r ih =>
    obtain ⟨n, k⟩ := p
    rw [List.map_cons]
    by_cases hc : (k == .free && s'.kind == .function && s'.names.lookup n == some .cell) = true
    · simp only [hc, if_true, List.lookup_cons]
      cases hx : x == n with
      | true =>
        have hk : k = .free := by
          simp only [Bool.and_eq_true] at hc
          cases k <;> first | rfl | (exfalso; revert hc; simp <;> decide)
        subst hk
        exact .inr ⟨rfl, rfl⟩
      | false => exact ih
    · rw [Bool.not_eq_true] at hc
      simp only [hc, Bool.false_eq_true, if_false, List.lookup_cons]
      cases hx : x == n with
      | true => exact .inl rfl
      | false => exact ih
theorem Gd.blk (C : Gd cm g Φ cx k N sc W X) (hcm : cm = true) {b : Scope} (s : Shared) (H : Hp) (Cc : Addr) (cl : List (Str × Addr)) (fp : List Addr) : Gd cm g Φ cx k N b (fun _ _ _ _ => False) (X.blk s H b (compEnvC b cl Cc X.env) fp) where
  hK := C.hK
  hN := C.hN
  nd := C.nd
  scr := fun x => lookup_relS
  fnc := fun x h => by
    show (b.names.lookup x == some .cell) = true
    rw [h]
    rfl
  calm := C.calm
  hdl := C.hdl
  room := C.room
  np := C.np
  hot := fun z => by rw [hcm] at z; cases z
  own := PassesOwn.never
  pas := fun σ pins H s e s' I z => (C.nov _ _ _ _ _ z).elim
  nov := C.nov
  free := C.free
  glb := C.glb
  glx := C.glx
  dfs := fun x h e => ⟨(C.dfs x h e).ex⟩
  hfs := fun x h e => ⟨(C.hfs x h e).ex⟩
  cls := fun x h e => ⟨(C.cls x h e).ex⟩
  isa := C.isa
  exm := C.exm
  r1f := C.r1f
  ers := fun c e => ⟨⟨(C.ers c e).1.ex, (C.ers c e).1.exi, (C.ers c e).1.kp, (C.ers c e).1.ty⟩, (C.ers c e).2⟩
  cmg := C.cmg
  fok := C.fok
theorem blk_ok {sc' b : Scope} {own : List (Str × Nat)} (h : ScR sc sc') (ok : blkC N sc b own = true) : BlkOk N sc' b own := by
  obtain ⟨h1, h2, h3, h4, h5⟩ := blkOk_by ok
  refine ⟨h1, h2, h3, fun y hy e => ?_, h5⟩
  rcases h y.1 with z | ⟨z1, z2⟩
  · rw [z]; exact h4 y hy e
  · exact .inl z2
theorem lcGo_ne {tgt : T → Option Lr.Env} {test : Lr.Env → R Bool} {elt : Lr.Env → R Val} : ∀ (us acc : List T), (lcGo tgt test elt us acc).ne
  | [], _ => trivial
  | u :: us, acc => by
    unfold lcGo
    split
    · rename_i ρ _
      refine ne_bind (by cases test ρ <;> trivial) fun b => ne_ite (ne_bind (by cases elt ρ <;> trivial) fun x => ?_) (lcGo_ne us acc)
      split
      · exact ne_ite (lcGo_ne us _) trivial
      · trivial
    · trivial
theorem po_nxW {α β : Type} {r : R α} {f : α → R β} {P : β → Prop} {Z : String → List T → Prop} (h : po (r.nx.bind f) P Z) : ∃ a, r = .ok a ∧ po (f a) P Z := by
  cases r with
  | ok a => exact ⟨a, rfl, h⟩
  | _ => exact h.elim
theorem lc_core' {elt : E} {t : Tg} {it : It} {cs : Es} {b : Scope} {own : List Nat} {tt : TT} {σ : L2.St} {H : Hp} {Q : VK}
    (hv : ∀ i ∈ t.vars, i ∈ own) (htt : ∀ (B : Bs) (ρ : Lr.Env) (σ : L2.St) (H F : Hp) (Q : Bool → Hp → Prop) (bb : Bool), SR g B ρ σ H F → evCs Φ cs ρ = .ok bb → (∀ H' F', Grow H F H' F' → Q bb H') → tt σ H Q)
    (h : tR g W (evE Φ (.lc elt t it cs b own)) σ H Q) : tLc (iT g W false (evIt Φ false it)) (gT g t) tt (tR g (fun _ _ _ _ => False) (evE Φ elt)) own σ H Q := by
  obtain ⟨B, ρ, F, S, h⟩ := h
  rw [evE] at h
  refine ⟨B, ρ, F, S, h.bind.im fun us hus J H1 F1 gr ok => ?_⟩
  intro D hD
  have S1 := S.grow gr
  obtain ⟨G, Y, w, hG, hY⟩ := ok.ex
  have sD : Same H1 (upd H1 D (.lst [])) := same_upd hD
  have fD : F1 D = none := gr.fh.free hD
  refine lc_it w (fun i H' => ∃ F' acc accV, Grow H1 F1 H' F' ∧ H' D = some (.lst accV) ∧ F' D = none ∧ RepL g F' accV acc ∧ po (lcGo (fun u => bindTg t (.v u) (wipeE own ρ)) (evCs Φ cs) (evE Φ elt) (us.drop i) acc) (pV g H F Q) (exq g H F (WE W σ))) ?_ ?_ ?_ ?_
  · exact ⟨F1, [], [], Grow.own gr.fh hD, upd_same, fD, .nil, by rw [List.drop_zero]; exact hus⟩
  · rintro i H' _ ⟨F', acc, accV, g1, _⟩
    exact hG H' g1.h (g1.f.trans g1.fh)
  · rintro i x H2 H3 hi ⟨F2, acc, accV, g1, hD2, fD2, l, hq⟩ y
    obtain ⟨u, hu⟩ : ∃ u, us[i]? = some u := ⟨us[i], List.getElem?_eq_getElem hi⟩
    obtain ⟨F3, g2, rx⟩ := hY i H2 F2 x H3 u hu g1.f g1.fh y
    have hdr : us.drop i = u :: us.drop (i + 1) := by
      rw [List.drop_eq_getElem_cons hi]
      rw [List.getElem?_eq_getElem hi] at hu
      cases hu
      rfl
    rw [hdr] at hq
    unfold lcGo at hq
    cases hb : bindTg t (.v u) (wipeE own ρ) with
    | none => simp only [hb] at hq; exact hq.elim
    | some ρ1 =>
      simp only [hb] at hq
      have S3 : SR g B (wipeE own ρ) (L2.wipe σ own) H3 F3 := ((S1.wipe own).grow g1).grow g2
      refine ⟨B, _, F3, H3, F3, .v u, ρ1, S3, .refl g2.fh, rx, trivial, hb, fun σ2 S4 e1 e2 => ⟨?_, ?_⟩⟩
      · have e3 : ∀ j, j ∉ own → σ2[j]? = (L2.wipe σ own)[j]? := fun j hj => e2 j fun z => hj (hv j z)
        rw [wipe_same e1 e3]
        exact wipe_wipe σ own
      · obtain ⟨bb, hbb, hq⟩ := po_nxW hq
        refine htt B ρ1 σ2 H3 F3 _ bb S4 hbb fun H4 F4 g3 => ?_
        have gg : Grow H1 F1 H4 F4 := (g1.trans g2).trans g3
        have hD4 : H4 D = some (.lst accV) := g3.h _ _ (g2.h _ _ hD2)
        have fD4 : F4 D = none := (g2.trans g3).noneF fD2 hD2
        have l4 : RepL g F4 accV acc := l.mono (g2.trans g3).f
        cases bb with
        | false => exact ⟨F4, acc, accV, gg, hD4, fD4, l4, hq⟩
        | true =>
          rw [if_pos rfl] at hq ⊢
          obtain ⟨x5, hx5, hq⟩ := po_nxW hq
          refine ⟨B, ρ1, F4, S4.grow g3, ?_⟩
          rw [hx5]
          intro v5 H5 F5 g4 r5 n5
          cases e6 : x5.t? with
          | none => simp only [e6] at hq; exact hq.elim
          | some t6 =>
            simp only [e6] at hq
            by_cases hs : acc.length < sizeLine
            · rw [if_pos (decide_eq_true hs)] at hq
              obtain ⟨F6, g5, s6, r6⟩ := Lr.keep g4 r5 n5 e6
              have hD5 : H5 D = some (.lst accV) := g4.h _ _ hD4
              have fD6 : F6 D = none := g5.noneF fD4 hD4
              refine ⟨accV, hD5, by rw [l4.length]; exact hs, F6, acc ++ [t6], accV ++ [v5], ⟨fun a o q => ?_, (gg.trans g5).f, fun a o q => ?_, (gg.trans g5).nw⟩, upd_same, fD6, (l4.mono g5.f).append (.one r6), hq⟩
              · rw [upd_ne (ne_of_none q hD)]
                exact (gg.trans g5).h _ _ q
              · rw [upd_ne (ne_of_none q fD6)]
                exact g5.fh _ _ q
            · rw [if_neg (by rw [decide_eq_true_eq]; exact hs)] at hq
              exact hq.elim
  · rintro H' ⟨F', acc, accV, g1, h1, h2, l, hq⟩
    rw [List.drop_length] at hq
    exact hq _ H' F' (gr.trans g1) ⟨D, accV, rfl, h1, l⟩ ⟨D, rfl, gr.h.free hD, h2⟩
def tCs (g : Gx) (Φ : Fe) (W : WX) : Es → TT
  | .nil => tYes
  | .cons e _ => tRB g W fun ρ => (evE Φ e ρ).bind asB
theorem tests_ok {cs : Es} {b : Scope} {l : List PT} (hl : cs.len < 2) (X' : Cx) (W' : WX) (h : ∀ e es, cs = .cons e es → L2.PT X' (pyE N e (hd l)) (tRB g W' fun ρ => (evE Φ e ρ).bind asB)) :
    PTs X' (pyEs N cs l) (tCs g Φ W' cs) := by
  cases cs with
  | nil => exact pts_nil
  | cons e es => cases es with
    | nil => exact pts_one (h e .nil rfl)
    | cons _ _ => exact absurd hl (by simp only [Es.len]; omega)
theorem g_lc (C : Gd cm g Φ cx k N sc W X) (hcm : cm = true) {elt : E} {t : Tg} {it : It} {cs : Es} {b : Scope} {own : List Nat} {π πt : PT} {l : List PT} {iter : Expr} {pos : Pos}
    (hb : blkC N sc b (own.map fun i => (nmOf N i, i)) = true) (ht : okTg cm N b t = true) (hv : (t.vars.all fun i => own.contains i) = true) (hl : cs.len < 2) (hs : ∀ x, foldedSetIterable iter X.env x = pure x)
    (hi : PI X (pyTg N t πt) iter (iT g W false (evIt Φ false it)))
    (he : ∀ (X' : Cx), Gd cm g Φ cx k N b (fun _ _ _ _ => False) X' → PE X' (pyE N elt π) (tR g (fun _ _ _ _ => False) (evE Φ elt)))
    (hc : ∀ (X' : Cx), Gd cm g Φ cx k N b (fun _ _ _ _ => False) X' → ∀ e es, cs = .cons e es → L2.PT X' (pyE N e (hd l)) (tRB g (fun _ _ _ _ => False) fun ρ => (evE Φ e ρ).bind asB)) :
    PE X (.ListComp (pyE N elt π) [⟨pyTg N t πt, iter, pyEs N cs l, 0⟩] b pos) (tR g W (evE Φ (.lc elt t it cs b own))) := by
  have hbk : BlkOk X.N X.env.scope b (own.map fun i => (nmOf N i, i)) := by rw [C.hN]; exact blk_ok C.scr hb
  have eo : (own.map fun i => (nmOf N i, i)).map (·.2) = own := by rw [List.map_map]; exact List.map_id _
  refine PE.imp (pe_lc (own := own.map fun i => (nmOf N i, i)) (C.calm hcm) (by rw [C.hN]; exact C.nd) hi hbk (fun s H Cc cl fp => g_tg (C.blk hcm s H Cc cl fp) t πt ht)
    (fun s H Cc cl fp => tests_ok (b := b) hl _ _ (hc _ (C.blk hcm s H Cc cl fp))) (fun s H Cc cl fp => he _ (C.blk hcm s H Cc cl fp)) hs) fun σ H Q h => ?_
  rw [eo]
  refine lc_core' (fun i hi' => ?_) (fun B ρ σ H F Q bb S hb hq => ?_) h
  · have := List.all_eq_true.mp hv i hi'
    exact List.contains_iff_mem.mp this
  · cases cs with
    | nil =>
      rw [evCs] at hb
      cases hb
      exact hq H F (.refl S.fh)
    | cons e es => cases es with
      | cons _ _ => exact absurd hl (by simp only [Es.len]; omega)
      | nil =>
        refine ⟨B, ρ, F, S, ?_⟩
        show po ((evE Φ e ρ).bind asB) _ _
        simp only [evCs] at hb
        cases e1 : evE Φ e ρ with
        | ok x =>
          rw [e1] at hb
          cases e2 : asB x with
          | ok c =>
            simp only [R.bind_ok, e2] at hb ⊢
            have : bb = c := by cases c <;> (simp at hb; exact hb)
            subst this
            exact hq
          | exc _ _ => simp [e2] at hb
          | no => simp [e2] at hb
        | exc _ _ => rw [e1] at hb; simp at hb
        | no => rw [e1] at hb; simp at hb
theorem it_fs {N : List Str} {env : PySem.Env} (it : It) (π : PT) (x : Value) : foldedSetIterable (pyIt N it π) env x = pure x := by
  cases it with
  | seq e => exact fs_py e π x
  | _ => rfl
/-! ### all expressions -/
def E.plT : E → Bool
  | .not _ => false
  | .and _ _ => false
  | .or _ _ => false
  | .cmp _ _ _ => false
  | .cmp2 _ _ _ _ _ => false
  | .ite _ _ _ => false
  | _ => true
theorem isT_py {N : List Str} {env : PySem.Env} (m : E) (π : PT) (wh : Sem Value) (h : m.plT = true) : isTrue (pyE N m π) env wh = (do let v ← wh; standAt (pyE N m π).pos; holding [v] (truthy v)) := by
  cases m <;> first | rfl | cases h
def EOk (g : Gx) (Φ : Fe) (N : List Str) (W : WX) (X : Cx) (m : E) (π : PT) : Prop := PE X (pyE N m π) (tR g W (evE Φ m)) ∧ L2.PT X (pyE N m π) (tRB g W fun ρ => (evE Φ m ρ).bind asB)
theorem EOk.of {m : E} {π : PT} (h : PE X (pyE N m π) (tR g W (evE Φ m))) (hm : m.plT = true := by rfl) : EOk g Φ N W X m π := ⟨h, t_val h fun wh => isT_py m π wh hm⟩
theorem evE_and (a : E) (r : Es) : evE Φ (.and a r) = evAnd Φ (.cons a r) := by funext ρ; rw [evE, evAnd]
theorem evE_or (a : E) (r : Es) : evE Φ (.or a r) = evOr Φ (.cons a r) := by funext ρ; rw [evE, evOr]
mutual
theorem e_ok (m : E) (π : PT) (sc : Scope) (W : WX) (X : Cx) (C : Gd cm g Φ cx k N sc W X) (ok : okE cm N sc m π = true) : EOk g Φ N W X m π := by
  cases m with
  | v i => exact .of (g_v C (by simpa only [okE] using ok))
  | int i => exact .of g_int
  | str i => exact .of g_str
  | bl i => exact .of g_bl
  | non => exact .of g_non
  | glb x => exact .of (g_glb C (by simpa only [okE] using ok))
  | bin op a b =>
    simp only [okE, Bool.and_eq_true] at ok
    exact .of (g_bin (e_ok a _ sc W X C ok.1).1 (e_ok b _ sc W X C ok.2).1)
  | neg a =>
    simp only [okE] at ok
    exact .of (g_neg (e_ok a _ sc W X C ok).1)
  | not a =>
    simp only [okE] at ok
    exact ⟨g_not (e_ok a _ sc W X C ok).1, g_notT (e_ok a _ sc W X C ok).2⟩
  | and a r =>
    simp only [okE, Bool.and_eq_true, Bool.not_eq_true'] at ok
    obtain ⟨⟨o1, o2⟩, o3⟩ := ok
    have ha := e_ok a _ sc W X C o1
    cases r with
    | nil => cases o3
    | cons e es =>
      have hr := and_ok (.cons e es) _ (π.p 0) sc W X C o2 rfl
      unfold EOk
      rw [evE_and]
      exact ⟨g_and ha.1 hr.1, (w_and ha.2 hr.2).pt⟩
  | or a r =>
    simp only [okE, Bool.and_eq_true, Bool.not_eq_true'] at ok
    obtain ⟨⟨o1, o2⟩, o3⟩ := ok
    have ha := e_ok a _ sc W X C o1
    cases r with
    | nil => cases o3
    | cons e es =>
      have hr := or_ok (.cons e es) _ (π.p 0) sc W X C o2 rfl
      unfold EOk
      rw [evE_or]
      exact ⟨g_or ha.1 hr.1, (w_or ha.2 hr.2).pt⟩
  | cmp op a b =>
    simp only [okE, Bool.and_eq_true] at ok
    have ha := (e_ok a _ sc W X C ok.1).1
    have hb := (e_ok b _ sc W X C ok.2).1
    exact ⟨g_cmp C ha hb, g_cmpT C ha hb⟩
  | ite c a b =>
    simp only [okE, Bool.and_eq_true] at ok
    obtain ⟨⟨o1, o2⟩, o3⟩ := ok
    have hc := e_ok c _ sc W X C o1
    have ha := e_ok a _ sc W X C o2
    have hb := e_ok b _ sc W X C o3
    exact ⟨g_ite hc.2 ha.1 hb.1, g_iteT hc.2 ha.2 hb.2⟩
  | tup es =>
    simp only [okE] at ok
    exact .of (g_tup (es_ok es _ sc W X C ok))
  | lst es =>
    simp only [okE] at ok
    exact .of (g_lst (es_ok es _ sc W X C ok))
  | call f es =>
    simp only [okE, Bool.and_eq_true] at ok
    exact .of (g_call C ok.1 (es_ok es _ sc W X C ok.2))
  | mk f es =>
    simp only [okE, Bool.and_eq_true] at ok
    obtain ⟨⟨o1, o2⟩, o3⟩ := ok
    exact .of (g_mk C o3 o1 (es_ok es _ sc W X C o2))
  | bi f es =>
    simp only [okE, Bool.and_eq_true, decide_eq_true_eq, Bool.not_eq_true'] at ok
    obtain ⟨⟨⟨⟨o1, o2⟩, o3⟩, o4⟩, o5⟩ := ok
    exact .of (g_bi C o5 o1 o2 o4 (es_ok es _ sc W X C o3))
  | ty f es =>
    simp only [okE, Bool.and_eq_true, decide_eq_true_eq, Bool.not_eq_true'] at ok
    obtain ⟨⟨⟨o1, o2⟩, o3⟩, o4⟩ := ok
    exact .of (g_ty C o1 o2 o4 (es_ok es _ sc W X C o3))
  | isi e c =>
    simp only [okE, Bool.and_eq_true] at ok
    obtain ⟨⟨o1, o2⟩, o3⟩ := ok
    exact .of (g_isi C o1 o3 (e_ok e _ sc W X C o2).1)
  | isiT e cs =>
    simp only [okE, Bool.and_eq_true, decide_eq_true_eq, Bool.not_eq_true'] at ok
    obtain ⟨⟨⟨⟨o1, o2⟩, o3⟩, o4⟩, o5⟩ := ok
    exact .of (g_isiT C o1 o3 (fun z => by rw [z] at o4; cases o4) o5 (e_ok e _ sc W X C o2).1)
  | me m o es =>
    simp only [okE, Bool.and_eq_true, decide_eq_true_eq, Bool.not_eq_true'] at ok
    obtain ⟨⟨⟨⟨⟨⟨o1, o2⟩, o3⟩, o4⟩, o5⟩, o6⟩, o7⟩ := ok
    exact .of (g_me C o1 o5 o6 o7 o4 (e_ok o _ sc W X C o2).1 (es_ok es _ sc W X C o3))
  | fld o f =>
    simp only [okE, Bool.and_eq_true] at ok
    exact .of (g_fld C ok.2 (e_ok o _ sc W X C ok.1).1)
  | ix a b =>
    simp only [okE, Bool.and_eq_true] at ok
    exact .of (g_ix C (e_ok a _ sc W X C ok.1).1 (e_ok b _ sc W X C ok.2).1)
  | sl a lo hi =>
    simp only [okE, Bool.and_eq_true] at ok
    obtain ⟨⟨o1, o2⟩, o3⟩ := ok
    exact .of (g_sl (e_ok a _ sc W X C o1).1 (eo_ok lo _ sc W X C o2) (eo_ok hi _ sc W X C o3))
  | lrev e =>
    simp only [okE, Bool.and_eq_true] at ok
    obtain ⟨⟨⟨oc, o1⟩, o2⟩, o3⟩ := ok
    exact .of (g_lrev C oc o1 o2 (e_ok e _ sc W X C o3).1)
  | cmp2 op op2 a b c =>
    simp only [okE, Bool.and_eq_true] at ok
    exact ⟨g_cmp2 C (e_ok a _ sc W X C ok.1.1).1 (e_ok b _ sc W X C ok.1.2).1 (e_ok c _ sc W X C ok.2).1, g_cmp2T C (e_ok a _ sc W X C ok.1.1).1 (e_ok b _ sc W X C ok.1.2).1 (e_ok c _ sc W X C ok.2).1⟩
  | sset e =>
    simp only [okE, Bool.and_eq_true] at ok
    obtain ⟨⟨⟨oc, o1⟩, o2⟩, o3⟩ := ok
    exact .of (g_sset C oc o1 o2 (e_ok e _ sc W X C o3).1)
  | lset e =>
    simp only [okE, Bool.and_eq_true] at ok
    obtain ⟨⟨⟨oc, o1⟩, o2⟩, o3⟩ := ok
    exact .of (g_lset C oc o1 o2 (e_ok e _ sc W X C o3).1)
  | srev e =>
    simp only [okE, Bool.and_eq_true] at ok
    obtain ⟨⟨oc, o1⟩, o3⟩ := ok
    exact .of (g_srev C o1 (e_ok e _ sc W X C o3).1)
  | skeys d =>
    simp only [okE, Bool.and_eq_true] at ok
    obtain ⟨⟨⟨⟨oc, o1⟩, o2⟩, o3⟩, o4⟩ := ok
    exact .of (g_skeys C oc o1 o4 o3 (e_ok d _ sc W X C o2).1)
  | dv i => exact .of (g_dv C (by simpa only [okE] using ok))
  | lkeys d =>
    simp only [okE, Bool.and_eq_true] at ok
    obtain ⟨⟨⟨⟨oc, o1⟩, o2⟩, o3⟩, o4⟩ := ok
    exact .of (g_lkeys C oc o1 o4 o3 (e_ok d _ sc W X C o2).1)
  | dofp e =>
    simp only [okE, Bool.and_eq_true] at ok
    exact .of (g_dofp C ok.1.1 ok.1.2 (e_ok e _ sc W X C ok.2).1)
  | sl2 a lo =>
    simp only [okE] at ok
    exact .of (g_sl2 (e_ok a _ sc W X C ok).1)
  | dk => exact .of g_dk
  | dt => exact .of g_dt
  | lc elt t it cs b own =>
    simp only [okE, Bool.and_eq_true, decide_eq_true_eq] at ok
    obtain ⟨⟨⟨⟨⟨⟨⟨⟨oc, o1⟩, o2⟩, o3⟩, o4⟩, o5⟩, o6⟩, o7⟩, o8⟩ := ok
    exact .of (g_lc C oc o3 o5 o6 o8 (it_fs it (π.c 2)) (it_ok it _ sc W X C o2 t (π.c 1) o1 false) (fun X' C' => (e_ok elt _ b _ X' C' o4).1) (fun X' C' e es z => by
      subst z
      simp only [okEs, Bool.and_eq_true] at o7
      exact (e_ok e _ b _ X' C' o7.1).2))
theorem es_ok (es : Es) (l : List PT) (sc : Scope) (W : WX) (X : Cx) (C : Gd cm g Φ cx k N sc W X) (ok : okEs cm N sc es l = true) : PA X (pyEs N es l) (tRA g W (evEs Φ es)) := by
  cases es with
  | nil => exact a_nil
  | cons e es =>
    simp only [okEs, Bool.and_eq_true] at ok
    exact a_cons (e_ok e _ sc W X C ok.1).1 (es_ok es _ sc W X C ok.2)
theorem and_ok (es : Es) (l : List PT) (pos : Pos) (sc : Scope) (W : WX) (X : Cx) (C : Gd cm g Φ cx k N sc W X) (ok : okEs cm N sc es l = true) (hn : es.isNil = false) : PE X (.BoolOp .And (pyEs N es l) pos) (tR g W (evAnd Φ es)) ∧ L2.PW X (.BoolOp .And (pyEs N es l) pos) (tRB g W fun ρ => (evAnd Φ es ρ).bind asB) := by
  cases es with
  | nil => cases hn
  | cons e es =>
    simp only [okEs, Bool.and_eq_true] at ok
    have h := e_ok e _ sc W X C ok.1
    cases es with
    | nil => exact ⟨g_and1 h.1, w_and1 h.2⟩
    | cons e2 es2 =>
      have hr := and_ok (.cons e2 es2) l.tail pos sc W X C ok.2 rfl
      exact ⟨g_and h.1 hr.1, w_and h.2 hr.2⟩
theorem or_ok (es : Es) (l : List PT) (pos : Pos) (sc : Scope) (W : WX) (X : Cx) (C : Gd cm g Φ cx k N sc W X) (ok : okEs cm N sc es l = true) (hn : es.isNil = false) : PE X (.BoolOp .Or (pyEs N es l) pos) (tR g W (evOr Φ es)) ∧ L2.PW X (.BoolOp .Or (pyEs N es l) pos) (tRB g W fun ρ => (evOr Φ es ρ).bind asB) := by
  cases es with
  | nil => cases hn
  | cons e es =>
    simp only [okEs, Bool.and_eq_true] at ok
    have h := e_ok e _ sc W X C ok.1
    cases es with
    | nil => exact ⟨g_or1 h.1, w_or1 h.2⟩
    | cons e2 es2 =>
      have hr := or_ok (.cons e2 es2) l.tail pos sc W X C ok.2 rfl
      exact ⟨g_or h.1 hr.1, w_or h.2 hr.2⟩
theorem eo_ok (eo : Eo) (π : PT) (sc : Scope) (W : WX) (X : Cx) (C : Gd cm g Φ cx k N sc W X) (ok : okEo cm N sc eo π = true) : PO X (pyEo N eo π) (tRB g W (evEo Φ eo)) := by
  cases eo with
  | no => exact o_none
  | so e =>
    simp only [okEo] at ok
    exact o_some (e_ok e _ sc W X C ok).1
theorem it_ok (it : It) (π : PT) (sc : Scope) (W : WX) (X : Cx) (C : Gd cm g Φ cx k N sc W X) (ok : okIt cm N sc it π = true) (t : Tg) (πt : PT) (okt : it.okT t = true) (fz : Bool) : PI X (pyTg N t πt) (pyIt N it π) (iT g W fz (evIt Φ fz it)) := by
  cases it with
  | seq e =>
    simp only [okIt] at ok
    exact i_seq (e_ok e _ sc W X C ok).1
  | rg1 a =>
    simp only [okIt, Bool.and_eq_true] at ok
    exact i_rg1 C ok.1 (e_ok a _ sc W X C ok.2).1
  | rg2 a b =>
    simp only [okIt, Bool.and_eq_true] at ok
    exact i_rg2 C ok.1.1 (e_ok a _ sc W X C ok.1.2).1 (e_ok b _ sc W X C ok.2).1
  | rg3 a b c =>
    simp only [okIt, Bool.and_eq_true] at ok
    exact i_rg3 C ok.1.1.1 (e_ok a _ sc W X C ok.1.1.2).1 (e_ok b _ sc W X C ok.1.2).1 (e_ok c _ sc W X C ok.2).1
  | enu a =>
    simp only [okIt, Bool.and_eq_true] at ok
    cases t with
    | nm _ => cases okt
    | tup ts => exact i_enu C ok.1 (e_ok a _ sc W X C ok.2).1
  | zip a b =>
    simp only [okIt, Bool.and_eq_true] at ok
    cases t with
    | nm _ => cases okt
    | tup ts => exact i_zip C ok.1.1 (e_ok a _ sc W X C ok.1.2).1 (e_ok b _ sc W X C ok.2).1
  | rev a =>
    simp only [okIt, Bool.and_eq_true] at ok
    exact i_rev C ok.1 (e_ok a _ sc W X C ok.2).1
  | revr a b =>
    simp only [okIt, Bool.and_eq_true] at ok
    exact i_revr C ok.1.1.1 ok.1.1.2 (e_ok a _ sc W X C ok.1.2).1 (e_ok b _ sc W X C ok.2).1
end
end
end Lr

set_option Elab.async false
set_option linter.all false
set_option maxRecDepth 100000
set_option maxHeartbeats 1000000
set_option autoImplicit false
/-! SndI: statements. -/
namespace Lr
open PySem PySem.Spec PyProof.Rows L2
/-- what a statement's end asks -/
def pS (g : Gx) (B : Bs) (F : Hp) (D : Ends) (W : WX) : Out → Prop
  | .nx ρ => ∀ σ H F', SR g B ρ σ H F' → Same F F' → D.nx σ H
  | .bk ρ => ∀ σ H F', SR g B ρ σ H F' → Same F F' → D.bk σ H
  | .rt x => ∀ v H F', Grow B.H0 B.F0 H F' → VRep g H F' v x → NewOk B.H0 H F' v x → D.rt v H
  | .ex c fs ρ => ∀ σ H F' cls d, SR g B ρ σ H F' → Same F F' → ErrR g H F' c fs cls d → W cls d σ H
  | .no => False
def tS (g : Gx) (B : Bs) (W : WX) (f : Lr.Env → Out) : TS := fun D σ H => ∃ ρ F, SR g B ρ σ H F ∧ pS g B F D W (f ρ)
section
variable {cm : Bool} {g : Gx} {Φ : Fe} {cx : CXT} {k : Nat} {N : List Str} {sc : Scope} {W : WX} {X : Cx} {B : Bs}
theorem pS.mono {F F' : Hp} {D : Ends} {o : Out} (h : pS g B F D W o) (s : Same F F') : pS g B F' D W o := by
  cases o with
  | nx ρ => exact fun σ H F2 S q => h σ H F2 S (s.trans q)
  | bk ρ => exact fun σ H F2 S q => h σ H F2 S (s.trans q)
  | rt x => exact h
  | ex c fs ρ => exact fun σ H F2 cls d S q => h σ H F2 cls d S (s.trans q)
  | no => exact h
theorem PS.imp {e : Stmt} {t t' : TS} (h : PS X e t) (k : ∀ D σ H, t' D σ H → t D σ H) : PS X e t' := ⟨fun pins s σ H D I q => h.run pins s σ H D I (k D σ H q)⟩
theorem PSs.imp {e : List Stmt} {t t' : TS} (h : PSs X e t) (k : ∀ D σ H, t' D σ H → t D σ H) : PSs X e t' := ⟨fun pins s σ H D I q => h.run pins s σ H D I (k D σ H q)⟩
/-- an expression's value first -/
theorem tR.out {ρ : Lr.Env} {σ : L2.St} {H F Fb : Hp} {D : Ends} {fa : Lr.Env → R Val} {f : Val → Out} (S : SR g B ρ σ H F) (sb : Same Fb F) (h : pS g B Fb D W ((fa ρ).out ρ f)) {Q1 : VK}
    (k : ∀ x v H1 F1, Grow H F H1 F1 → SR g B ρ σ H1 F1 → VRep g H1 F1 v x → NewOk H H1 F1 v x → pS g B F1 D W (f x) → Q1 v H1) : tR g W fa σ H Q1 := by
  refine ⟨B, ρ, F, S, ?_⟩
  cases e : fa ρ with
  | ok x => rw [e] at h; exact fun v H1 F1 gr r n => k x v H1 F1 gr (S.grow gr) r n (h.mono (sb.trans gr.f))
  | exc c fs => rw [e] at h; exact fun H1 F1 cls d gr er => h σ H1 F1 cls d (S.grow gr) (sb.trans gr.f) er
  | no => rw [e] at h; exact h
theorem tRB.out {ρ : Lr.Env} {σ : L2.St} {H F Fb : Hp} {D : Ends} {α : Type} {fa : Lr.Env → R α} {f : α → Out} (S : SR g B ρ σ H F) (sb : Same Fb F) (h : pS g B Fb D W ((fa ρ).out ρ f)) {Q1 : α → Hp → Prop}
    (k : ∀ x H1 F1, Grow H F H1 F1 → SR g B ρ σ H1 F1 → pS g B F1 D W (f x) → Q1 x H1) : tRB g W fa σ H Q1 := by
  refine ⟨B, ρ, F, S, ?_⟩
  cases e : fa ρ with
  | ok x => rw [e] at h; exact fun H1 F1 gr => k x H1 F1 gr (S.grow gr) (h.mono (sb.trans gr.f))
  | exc c fs => rw [e] at h; exact fun H1 F1 cls d gr er => h σ H1 F1 cls d (S.grow gr) (sb.trans gr.f) er
  | no => rw [e] at h; exact h
theorem tRA.out {ρ : Lr.Env} {σ : L2.St} {H F Fb : Hp} {D : Ends} {fa : Lr.Env → R (List Val)} {f : List Val → Out} (S : SR g B ρ σ H F) (sb : Same Fb F) (h : pS g B Fb D W ((fa ρ).out ρ f)) {Q1 : List V → Hp → Prop}
    (k : ∀ xs vs H0 F0 H1 F1, Grow H F H0 F0 → Ar g H0 F0 vs xs H1 F1 → SR g B ρ σ H1 F1 → pS g B F1 D W (f xs) → Q1 vs H1) : tRA g W fa σ H Q1 := by
  refine ⟨B, ρ, F, S, ?_⟩
  cases e : fa ρ with
  | ok x => rw [e] at h; exact fun vs H0 F0 H1 F1 gr r => k x vs H0 F0 H1 F1 gr r (S.grow (gr.trans r.fh)) (h.mono (sb.trans (gr.trans r.fh).f))
  | exc c fs => rw [e] at h; exact fun H1 F1 cls d gr er => h σ H1 F1 cls d (S.grow gr) (sb.trans gr.f) er
  | no => rw [e] at h; exact h
theorem asI_out {x : Val} {ρ : Lr.Env} {f : Int → Out} {D : Ends} {H F Fb : Hp} {v : V} (h : pS g B Fb D W ((asI x).out ρ f)) (r : VRep g H F v x) : ∃ i, v = .int i ∧ x = .v (.int i) ∧ pS g B Fb D W (f i) := by
  cases x with
  | v t => cases t with
    | int i => cases r; exact ⟨i, rfl, rfl, h⟩
    | _ => exact h.elim
  | _ => exact h.elim
theorem out_bind {α β : Type} (r : R α) (h : α → R β) (ρ : Lr.Env) (f : β → Out) : (r.bind h).out ρ f = r.out ρ fun a => (h a).out ρ f := by cases r <;> rfl
theorem sw_py (m : E) (π : PT) (t : Option Expr) (l : Nat) (env : PySem.Env) (h : m.isLc = false) : swapsWith (pyE N m π) t l env = pure false := by cases m <;> first | rfl | cases h
theorem sws_py (m : E) (π : PT) (t : Expr) (l : Nat) (env : PySem.Env) (h : m.isLc = false) : swapsWithSole [t] (pyE N m π) l env = pure false := sw_py m π (some t) l env h
/-! ### assignment -/
theorem sw_cell {elt : Expr} {gs : List Comprehension} {scope : Scope} {pos py : Pos} {y : Str} {l : Nat} {env : PySem.Env} (hy : env.scope.names.lookup y = some .cell) : swapsWith (.ListComp elt gs scope pos) (some (.Name y py)) l env = pure false := by
  have ky : env.kindOf y = some .cell := hy
  have e : ((some NameKind.cell : Option NameKind) == some NameKind.local) = false := by decide
  unfold swapsWith
  simp only [ky, e, Bool.and_false, Bool.false_and]
theorem s_asg0 (C : Gd cm g Φ cx k N sc W X) {z : List Nat} {t : Tg} {e : E} {πt π : PT} {pos : Pos} {n : Nat} (ot : okTg cm N sc t = true) (he : PE X (pyE N e π) (tR g W (evE Φ e)))
    (hs : swapsWithSole [pyTg N t πt] (pyE N e π) pos.line X.env = pure false) (hw : swappedStores [pyTg N t πt] (pyE N e π) X.env = pure none) : PS X (.Assign [pyTg N t πt] (pyE N e π) pos) (tS g B W (evS Φ n (.asg z t e))) := by
  refine PS.imp (ps_asg he (g_tg C t πt ot) hs hw (by rw [as_cons]; rfl)) fun D σ H ⟨ρ, F, S, h⟩ => ?_
  rw [evS] at h
  obtain ⟨F0, s0, S0⟩ := S.frz z
  exact tR.out S0 s0 h fun x v H1 F1 gr S1 r n h => by
    cases hb : bindTg t x (frz z ρ) with
    | none => simp only [hb] at h; exact h.elim
    | some ρ' =>
      simp only [hb] at h
      exact ⟨B, _, F1, H, F0, x, ρ', S0, gr, r, n, hb, fun σ' S' _ _ => h σ' H1 F1 S' (Same.refl _)⟩
theorem s_asgL (C : Gd cm g Φ cx k N sc W X) (hcm : cm = true) (hsc : X.env.scope = sc) (hk : sc.kind = .function) {z : List Nat} {i : Nat} {elt : E} {t : Tg} {it : It} {cs : Es} {b : Scope} {own : List Nat} {π πt πy : PT} {l : List PT} {iter : Expr} {pos lpos : Pos} {n : Nat}
    (oi : locB N sc i = true) (hloc : sc.names.lookup (nmOf N i) = some .local) (hline : ((πy.p 0).line == lpos.line) = true) (hany : (b.names.any fun (n, k) => n == nmOf N i && (k == .local || k == .cell)) = false)
    (hb : blkC N sc b (own.map fun i => (nmOf N i, i)) = true) (ht : okTg cm N b t = true) (hv : (t.vars.all fun i => own.contains i) = true) (hl : cs.len < 2) (hs : ∀ x, foldedSetIterable iter X.env x = pure x)
    (hi : PI X (pyTg N t πt) iter (iT g W false (evIt Φ false it)))
    (he : ∀ (X' : Cx), Gd cm g Φ cx k N b (fun _ _ _ _ => False) X' → PE X' (pyE N elt π) (tR g (fun _ _ _ _ => False) (evE Φ elt)))
    (hc : ∀ (X' : Cx), Gd cm g Φ cx k N b (fun _ _ _ _ => False) X' → ∀ e es, cs = .cons e es → L2.PT X' (pyE N e (hd l)) (tRB g (fun _ _ _ _ => False) fun ρ => (evE Φ e ρ).bind asB)) :
    PS X (.Assign [.Name (nmOf N i) (πy.p 0)] (.ListComp (pyE N elt π) [⟨pyTg N t πt, iter, pyEs N cs l, 0⟩] b lpos) pos) (tS g B W (evS Φ n (.asg z (.nm i) (.lc elt t it cs b own)))) := by
  obtain ⟨h1, h2, h3⟩ := C.scr.loc oi
  have hbk : BlkOk X.N X.env.scope b (own.map fun i => (nmOf N i, i)) := by rw [C.hN]; exact blk_ok C.scr hb
  have eo : (own.map fun i => (nmOf N i, i)).map (·.2) = own := by rw [List.map_map]; exact List.map_id _
  have hyl : X.env.scope.names.lookup (nmOf N i) = some .local := by rw [hsc]; exact hloc
  refine PS.imp (ps_setLc (i := i) (own := own.map fun i => (nmOf N i, i)) (C.calm hcm) (by rw [C.hN]; exact C.nd) (by rw [C.hN]; exact h2) hyl (sw_true (by rw [hsc]; exact hk) hyl hline hany) hi hbk (fun s H Cc cl fp => g_tg (C.blk hcm s H Cc cl fp) t πt ht)
    (fun s H Cc cl fp => tests_ok (b := b) hl _ _ (hc _ (C.blk hcm s H Cc cl fp))) (fun s H Cc cl fp => he _ (C.blk hcm s H Cc cl fp)) hs) fun D σ H ⟨ρ, F, S, h⟩ => ?_
  rw [evS] at h
  obtain ⟨F0, s0, S0⟩ := S.frz z
  rw [eo]
  refine lc_core' (fun i hi' => ?_) (fun B ρ σ H F Q bb S hb hq => ?_) (tR.out S0 s0 h fun x v H1 F1 gr S1 r n h => ?_)
  · have := List.all_eq_true.mp hv i hi'
    exact List.contains_iff_mem.mp this
  · cases cs with
    | nil =>
      rw [evCs] at hb
      cases hb
      exact hq H F (.refl S.fh)
    | cons e es => cases es with
      | cons _ _ => exact absurd hl (by simp only [Es.len]; omega)
      | nil =>
        refine ⟨B, ρ, F, S, ?_⟩
        show po ((evE Φ e ρ).bind asB) _ _
        simp only [evCs] at hb
        cases e1 : evE Φ e ρ with
        | ok x =>
          rw [e1] at hb
          cases e2 : asB x with
          | ok c =>
            simp only [R.bind_ok, e2] at hb ⊢
            have : bb = c := by cases c <;> (simp at hb; exact hb)
            subst this
            exact hq
          | exc _ _ => simp [e2] at hb
          | no => simp [e2] at hb
        | exc _ _ => rw [e1] at hb; simp at hb
        | no => rw [e1] at hb; simp at hb
  · cases hb2 : bindTg (.nm i) x (frz z ρ) with
    | none => simp only [hb2] at h; exact h.elim
    | some ρ' =>
      simp only [hb2] at h
      unfold bindTg at hb2
      split at hb2
      · split at hb2
        · rename_i s hs
          cases hb2
          exact h _ H1 F1 (S0.put gr r n hs) (Same.refl _)
        · cases hb2
      · cases hb2
theorem setSl_p {ρ : Lr.Env} {i : Nat} {s : Sl} {D : Ends} {Fb : Hp} (h : pS g B Fb D W (setSl ρ i s)) : ∀ σ H F, SR g B (ρ.set i s) σ H F → Same Fb F → D.nx σ H := by
  unfold setSl at h
  split at h
  · exact h
  · exact h.elim
def augV (op : Operator) (a b : Int) (ρ : Lr.Env) (i : Nat) : Out := match op with
  | .Add => setSl ρ i (.im (.int (a + b)))
  | .Sub => setSl ρ i (.im (.int (a - b)))
  | _ => .no
theorem s_aug (C : Gd cm g Φ cx k N sc W X) {i : Nat} {op : Operator} {e : E} {ee : Expr} {p pos : Pos} {n : Nat} (ho : augB op = true) (oi : locB N sc i = true) (he : PE X ee (tR g W (evE Φ e))) :
    PS X (.AugAssign (.Name (nmOf N i) p) op ee pos) (tS g B W (evS Φ n (.aug i op e))) := by
  obtain ⟨h1, h2, h3⟩ := C.scr.loc oi
  have h4 : X.fn (nmOf N i) = true ∨ X.env.scope.names.lookup (nmOf N i) = some .local := h3.imp (C.fnc _) id
  have go : ∀ {f : Int → Int → Int}, PIp X op (ipI f) → (∀ a b ρ, augV op a b ρ i = setSl ρ i (.im (.int (f a b)))) → PS X (.AugAssign (.Name (nmOf N i) p) op ee pos) (tS g B W (evS Φ n (.aug i op e))) := fun {f} ip hf => by
    refine PS.imp (ps_aug (i := i) (by rw [C.hN]; exact C.nd) (by rw [C.hN]; exact h2) h1 he ip h4) fun D σ H ⟨ρ, F, S, h⟩ => ?_
    rw [evS] at h
    cases e1 : rd ρ i with
    | ok x =>
      rw [e1] at h
      obtain ⟨v, h5, h6, _⟩ := S.rd e1
      exact ⟨v, h5, tR.out S (Same.refl _) h fun y w H1 F1 gr S1 r n h => by
        cases x with
        | v t => cases t with
          | int a => cases y with
            | v u => cases u with
              | int b =>
                cases h6
                cases r
                have h' : pS g B F1 D W (augV op a b ρ i) := h
                rw [hf] at h'
                exact ⟨a, b, rfl, rfl, setSl_p h' _ H1 F1 (S1.setIm (.int _)) (Same.refl _)⟩
              | _ => exact h.elim
            | _ => exact h.elim
          | _ => exact h.elim
        | _ => exact h.elim⟩
    | exc c fs =>
      unfold rd at e1
      split at e1 <;> cases e1
    | no => rw [e1] at h; exact h.elim
  cases op with
  | Add => exact go ip_add fun _ _ _ => rfl
  | Sub => exact go ip_sub fun _ _ _ => rfl
  | _ => cases ho
theorem s_ex {e : E} {π : PT} {pos : Pos} {n : Nat} (hl : e.isLc = false) (he : PE X (pyE N e π) (tR g W (evE Φ e))) : PS X (.Expr (pyE N e π) pos) (tS g B W (evS Φ n (.ex e))) := by
  refine PS.imp (ps_expr he (sw_py e π none _ _ hl)) fun D σ H ⟨ρ, F, S, h⟩ => ?_
  rw [evS] at h
  exact tR.out S (Same.refl _) h fun x v H1 F1 gr S1 r n h => h σ H1 F1 S1 (Same.refl _)
/-! ### a list is changed -/
def rExtendR : V → List V → Hp → VK → Prop := fun x vs H Q => ∃ l b xs zs, x = .ref l ∧ vs = [.ref b] ∧ H l = some (.lst xs) ∧ Rd H b (.lst zs) ∧ xs.length + zs.length ≤ sizeLine ∧ Q .non (upd H l (.lst (xs ++ zs)))
theorem mt_extendR : MtM X "list.extend" rExtendR := by
  intro pins s σ H x vs v us Q I rx rv h
  obtain ⟨l, b, xs, zs, rfl, rfl, hH, hB, hz, q⟩ := h
  cases rx
  obtain ⟨u, rfl, ru⟩ := rv.one
  cases ru
  obtain ⟨z, its, n, r, hl, e⟩ := I.lstM hH
  obtain ⟨z2, its2, n2, r2, e2⟩ := hB.ok I.hok
  have hl2 := r2.length
  have hsz : its.toArray.size + its2.toArray.size ≤ sizeLine := by rw [List.size_toArray, List.size_toArray]; omega
  have hlong : ¬ (!its.toArray.isEmpty && Builtin.List.listTooLong (its.toArray.size + its2.toArray.size)) = true := by
    rw [notLongL hsz, Bool.and_false]
    exact Bool.false_ne_true
  refine call_meets F.slot_list_extend ⟨_, e, rfl⟩ F.entry_list_extend (F.args_list_extend_2 _ _)
    (AutoSeq1.list_extend_list_list_0 l its.toArray n b its2.toArray n2 hlong (by rw [List.size_toArray]; omega) (by omega)) ⟨e, e2, ?_⟩
  refine ⟨.non, _, I.lset (its' := its ++ its2) hH e (by simp) (r.append r2) ?_, rfl, q⟩
  rw [List.length_append]
  omega
theorem SR.upd {ρ : Lr.Env} {σ : L2.St} {H F : Hp} {i : Nat} {s s' : Sl} {a : Addr} {o : HO} (S : SR g B ρ σ H F) (e : ρ[i]? = some s) (hs : s.own = true) (hσ : σ[i]? = some (some (.ref a))) (hF : F a = none) (h0 : B.H0 a = none)
    (r : SlR g B (upd H a o) F (some (.ref a)) s') : SR g B (ρ.set i s') σ (upd H a o) F := by
  have hlt : i < ρ.length := (List.getElem?_eq_some_iff.mp e).1
  refine ⟨⟨fun b u q => ?_, fun b u q => ?_, S.wd.f0, S.wd.nw⟩, by rw [List.length_set]; exact S.len, fun j t e' => ?_, fun j l t u b hjl e1 e2 o1 o2 q1 q2 => ?_⟩
  · rw [upd_ne (ne_of_none q hF)]; exact S.wd.fh _ _ q
  · rw [upd_ne (ne_of_none q h0)]; exact S.wd.h0 _ _ q
  · by_cases hij : i = j
    · subst hij
      rw [List.getElem?_set_self hlt] at e'
      cases e'
      exact ⟨_, hσ, r⟩
    · rw [List.getElem?_set_ne hij] at e'
      obtain ⟨o', k1, k2⟩ := S.sl j t e'
      refine ⟨o', k1, ?_⟩
      have ne : ∀ b, t.own = true → o' = some (.ref b) → b ≠ a := fun b ho eb z => by
        subst z eb
        exact S.inj i j _ t b hij e e' hs ho hσ k1
      cases t with
      | un => trivial
      | im t => exact k2
      | ow us => obtain ⟨b, ws, e2, q1, q2⟩ := k2; exact ⟨b, ws, e2, by rw [upd_ne (ne b rfl e2)]; exact q1, q2⟩
      | dk us => obtain ⟨b, ws, e2, q1, q2⟩ := k2; exact ⟨b, ws, e2, by rw [upd_ne (ne b rfl e2)]; exact q1, q2⟩
      | dt us => obtain ⟨b, ws, e2, q1, q2⟩ := k2; exact ⟨b, ws, e2, by rw [upd_ne (ne b rfl e2)]; exact q1, q2⟩
      | ob c ns us => obtain ⟨b, dx, ws, e2, q1, q2⟩ := k2; exact ⟨b, dx, ws, e2, by rw [upd_ne (ne b rfl e2)]; exact q1, q2⟩
  · have back : ∀ (j : Nat) (t : Sl), (ρ.set i s')[j]? = some t → t.own = true → ∃ t' : Sl, ρ[j]? = some t' ∧ t'.own = true := fun j t e' ho => by
      by_cases hij : i = j
      · subst hij; exact ⟨s, e, hs⟩
      · rw [List.getElem?_set_ne hij] at e'; exact ⟨t, e', ho⟩
    obtain ⟨t', e3, o3⟩ := back j t e1 o1
    obtain ⟨u', e4, o4⟩ := back l u e2 o2
    exact S.inj j l t' u' b hjl e3 e4 o3 o4 q1 q2
/-- the list in a slot -/
theorem SR.ow {ρ : Lr.Env} {σ : L2.St} {H F : Hp} {i : Nat} {ts : List T} (S : SR g B ρ σ H F) (e : ρ[i]? = some (.ow ts)) : ∃ a vs, σ[i]? = some (some (.ref a)) ∧ H a = some (.lst vs) ∧ F a = none ∧ B.H0 a = none ∧ RepL g F vs ts := by
  obtain ⟨o, h1, a, vs, rfl, h2, h3, h4, l⟩ := S.sl i _ e
  exact ⟨a, vs, h1, h2, h3, h4, l⟩
theorem g_var (C : Gd cm g Φ cx k N sc W X) {i : Nat} {pos : Pos} (ok : visB N sc i = true) : PE X (.Name (nmOf N i) pos) (tVar i) := by
  obtain ⟨h1, h2, h3, h4⟩ := C.scr.vis ok
  exact pe_var (i := i) (by rw [C.hN]; exact h2) h1 h3 h4
theorem s_mut1 (C : Gd cm g Φ cx k N sc W X) {m : String} {z : List Nat} {i : Nat} {e : E} {l : List PT} {p apos cpos pos : Pos} {n : Nat} (hm : m ∈ ["append", "extend", "pop", "remove"]) (ok : visB N sc i = true) (hline : (apos.endLine == cpos.line) = true)
    (ha : PA X (pyEs N (.cons e .nil) l) (tRA g W (evEs Φ (.cons e .nil)))) :
    PS X (.Expr (.Call (.Attribute (.Name (nmOf N i) p) (Str.ofString m) apos) (pyEs N (.cons e .nil) l) [] cpos) pos) (tS g B W (evS Φ n (.mut m z i (.cons e .nil)))) := by
  have hf : ((backTo cpos (starEach (pyEs N (.cons e .nil) l) X.env)).all (fun x => !x.1) && (backToKw cpos (keywordEach [] X.env)).all (fun x => x.1.isSome)
      && decide ((pyEs N (.cons e .nil) l).length + ([] : List Keyword).length + (if ([] : List Keyword).isEmpty then 0 else 1) < 30)) = true := by
    rw [st_few, py_len]
    rfl
  have step : ∀ {r : V → List V → Hp → VK → Prop} {D : Ends} {σ : L2.St} {H F : Hp} {ρ : Lr.Env}, SR g B ρ σ H F → pS g B F D W (evS Φ n (.mut m z i (.cons e .nil)) ρ) →
      (∀ a vs ts v u H1 F1 σ', SR g B σ' σ H1 F1 → σ'[i]? = some (.ow ts) → σ[i]? = some (some (.ref a)) → H1 a = some (.lst vs) → F1 a = none → B.H0 a = none → RepL g F1 vs ts → Rep g F1 v u → pS g B F1 D W ((muV (muN m (.cons e .nil)) ts [u]).out σ' fun ts' => setSl σ' i (.ow ts')) → r (.ref a) [v] H1 fun _ H' => D.nx σ H') →
      tBM X.K "list" r (tVar i) (tRA g W (evEs Φ (.cons e .nil))) σ H fun _ H1 => D.nx σ H1 := fun {r D σ H F ρ} S h q => by
    rw [evS] at h
    obtain ⟨F0, s0, S0⟩ := S.frz z
    cases e1 : (frz z ρ)[i]? with
    | none => rw [e1] at h; exact h.elim
    | some s =>
      rw [e1] at h
      cases s with
      | ow ts =>
        obtain ⟨a, vs, h1, h2, h3, h4, l1⟩ := S0.ow e1
        refine ⟨.ref a, h1, .inl ⟨rfl, vs, .inl (.inl h2)⟩, tRA.out S0 s0 h fun xs ws H2 F2 H3 F3 gr ar S1 h => ?_⟩
        cases e2 : keeps? xs with
        | none => simp only [e2] at h; exact h.elim
        | some us =>
          simp only [e2] at h
          obtain ⟨F4, b, s4, l2⟩ := ar.keep e2
          have h := h.mono s4
          have S2 := S0.grow (gr.trans b)
          obtain ⟨a', vs', h1', h2', h3', h4', l1'⟩ := S2.ow e1
          rw [h1] at h1'
          cases h1'
          cases l2 with
          | nil =>
            exfalso
            have : muV (muN m (.cons e .nil)) ts [] = .no := by
              simp only [List.mem_cons, List.not_mem_nil, or_false] at hm
              rcases hm with rfl | rfl | rfl | rfl <;> rfl
            rw [this] at h
            exact h
          | cons r1 l3 => cases l3 with
            | nil => exact q a vs' ts _ _ H3 F4 _ S2 e1 h1 h2' h3' h4' l1' r1 h
            | cons _ _ =>
              exfalso
              have : ∀ (t1 t2 : T) (ts3 : List T), muV (muN m (.cons e .nil)) ts (t1 :: t2 :: ts3) = .no := by
                simp only [List.mem_cons, List.not_mem_nil, or_false] at hm
                intro t1 t2 ts3
                rcases hm with rfl | rfl | rfl | rfl <;> cases t1 <;> rfl
              rw [this] at h
              exact h
      | _ => exact h.elim
  have swn : ∀ f es, swapsWith (.Call f es [] cpos) none pos.line X.env = pure false := fun _ _ => rfl
  simp only [List.mem_cons, List.not_mem_nil, or_false] at hm
  rcases hm with rfl | rfl | rfl | rfl
  · refine PS.imp (ps_expr (pe_bm PySem.F.plainAttrs_list PySem.F.slot_list_append PySem.F.type_list_append mt_append (g_var C ok) ha rfl hf hline (st_cons _ _ _) (st_any _ _ _)) (swn _ _)) fun D σ H ⟨ρ, F, S, h⟩ => ?_
    refine step S h fun a vs ts v u H1 F1 ρ' S' e1 h1 h2 h3 h4 l1 r1 h => ?_
    rw [show muN "append" (.cons e .nil) = "append" from rfl] at h
    simp only [muV] at h
    by_cases hs : ts.length < sizeLine
    · rw [if_pos (decide_eq_true hs)] at h
      exact ⟨a, vs, v, rfl, rfl, h2, by rw [l1.length]; exact hs, setSl_p h _ _ F1 (S'.upd e1 rfl h1 h3 h4 ⟨a, _, rfl, upd_same, h3, h4, l1.append (.one r1)⟩) (Same.refl _)⟩
    · rw [if_neg (by rw [decide_eq_true_eq]; exact hs)] at h
      exact h.elim
  · refine PS.imp (ps_expr (pe_bm PySem.F.plainAttrs_list PySem.F.slot_list_extend PySem.F.type_list_extend mt_extendR (g_var C ok) ha rfl hf hline (st_cons _ _ _) (st_any _ _ _)) (swn _ _)) fun D σ H ⟨ρ, F, S, h⟩ => ?_
    refine step S h fun a vs ts v u H1 F1 ρ' S' e1 h1 h2 h3 h4 l1 r1 h => ?_
    rw [show muN "extend" (.cons e .nil) = "extend" from rfl] at h
    cases u with
    | lst us =>
      simp only [muV] at h
      by_cases hs : fitsL (ts.length + us.length) = true
      · rw [if_pos hs] at h
        cases r1 with
        | lst hb l2 =>
          rename_i b ws
          exact ⟨a, b, vs, ws, rfl, rfl, h2, Same.rd S'.fh hb, by rw [l1.length, l2.length]; exact of_decide_eq_true hs, setSl_p h _ _ F1 (S'.upd e1 rfl h1 h3 h4 ⟨a, _, rfl, upd_same, h3, h4, l1.append l2⟩) (Same.refl _)⟩
      · rw [if_neg hs] at h
        exact h.elim
    | _ => exact h.elim
  · refine PS.imp (ps_expr (pe_bm PySem.F.plainAttrs_list PySem.F.slot_list_pop PySem.F.type_list_pop mt_popAt (g_var C ok) ha rfl hf hline (st_cons _ _ _) (st_any _ _ _)) (swn _ _)) fun D σ H ⟨ρ, F, S, h⟩ => ?_
    refine step S h fun a vs ts v u H1 F1 ρ' S' e1 h1 h2 h3 h4 l1 r1 h => ?_
    rw [show muN "pop" (.cons e .nil) = "pop1" from rfl] at h
    cases u with
    | int j =>
      simp only [muV] at h
      cases r1
      split at h
      · rename_i hb
        simp only [Bool.and_eq_true, decide_eq_true_eq] at hb
        cases e5 : seqIndex? j ts.length with
        | none => simp only [e5] at h; exact h.elim
        | some k =>
          simp only [e5] at h
          have hk : k < ts.length := by
            unfold seqIndex? at e5
            generalize (if j < 0 then j + (ts.length : Int) else j) = q at e5
            by_cases hc : (decide (0 ≤ q) && decide (q < (ts.length : Int))) = true
            · rw [if_pos hc] at e5
              simp only [Bool.and_eq_true, decide_eq_true_eq] at hc
              cases e5
              omega
            · rw [if_neg hc] at e5; cases e5
          have hk2 : k < vs.length := by rw [l1.length]; exact hk
          exact ⟨a, vs, j, k, vs[k], rfl, rfl, h2, hb.1, hb.2, by rw [l1.length]; exact e5, List.getElem?_eq_getElem hk2, setSl_p h _ _ F1 (S'.upd e1 rfl h1 h3 h4 ⟨a, _, rfl, upd_same, h3, h4, l1.erase k⟩) (Same.refl _)⟩
      · exact h.elim
    | _ => exact h.elim
  · refine PS.imp (ps_expr (pe_bm PySem.F.plainAttrs_list PySem.F.slot_list_remove PySem.F.type_list_remove mt_remove (g_var C ok) ha rfl hf hline (st_cons _ _ _) (st_any _ _ _)) (swn _ _)) fun D σ H ⟨ρ, F, S, h⟩ => ?_
    refine step S h fun a vs ts v u H1 F1 ρ' S' e1 h1 h2 h3 h4 l1 r1 h => ?_
    rw [show muN "remove" (.cons e .nil) = "remove" from rfl] at h
    cases u with
    | int j =>
      simp only [muV] at h
      cases r1
      cases e5 : ints? ts with
      | none => simp only [e5] at h; exact h.elim
      | some ns =>
        simp only [e5] at h
        split at h
        · rename_i hj
          have hj := of_decide_eq_true hj
          have ev := l1.ints e5
          subst ev
          have hlt := List.idxOf_lt_length_iff.mpr hj
          have eg : ns.erase j = ns.eraseIdx (ns.idxOf j) := List.erase_eq_eraseIdx_of_idxOf rfl
          refine ⟨a, ns, j, ns.idxOf j, rfl, rfl, h2, ?_, fun m hm => ?_, ?_⟩
          · rw [List.getElem?_eq_getElem hlt, List.getElem_idxOf hlt]
          · intro z
            obtain ⟨hm2, z⟩ := List.getElem?_eq_some_iff.mp z
            have q := List.not_of_lt_findIdx (p := (· == j)) (xs := ns) hm
            simp only [beq_eq_false_iff_ne] at q
            exact q z
          · rw [eg] at h
            exact setSl_p h _ _ F1 (S'.upd e1 rfl h1 h3 h4 ⟨a, _, rfl, upd_same, h3, h4, .ofInts⟩) (Same.refl _)
        · exact h.elim
    | _ => exact h.elim
theorem s_mut2 (C : Gd cm g Φ cx k N sc W X) {m : String} {z : List Nat} {i : Nat} {e e' : E} {l : List PT} {p apos cpos pos : Pos} {n : Nat} (hm : m ∈ ["insert"]) (ok : visB N sc i = true) (hline : (apos.endLine == cpos.line) = true)
    (ha : PA X (pyEs N (.cons e (.cons e' .nil)) l) (tRA g W (evEs Φ (.cons e (.cons e' .nil))))) :
    PS X (.Expr (.Call (.Attribute (.Name (nmOf N i) p) (Str.ofString m) apos) (pyEs N (.cons e (.cons e' .nil)) l) [] cpos) pos) (tS g B W (evS Φ n (.mut m z i (.cons e (.cons e' .nil))))) := by
  simp only [List.mem_cons, List.not_mem_nil, or_false] at hm
  subst hm
  have hf : ((backTo cpos (starEach (pyEs N (.cons e (.cons e' .nil)) l) X.env)).all (fun x => !x.1) && (backToKw cpos (keywordEach [] X.env)).all (fun x => x.1.isSome)
      && decide ((pyEs N (.cons e (.cons e' .nil)) l).length + ([] : List Keyword).length + (if ([] : List Keyword).isEmpty then 0 else 1) < 30)) = true := by
    rw [st_few, py_len]
    rfl
  have swn : ∀ f es, swapsWith (.Call f es [] cpos) none pos.line X.env = pure false := fun _ _ => rfl
  refine PS.imp (ps_expr (pe_bm PySem.F.plainAttrs_list PySem.F.slot_list_insert PySem.F.type_list_insert mt_insert (g_var C ok) ha rfl hf hline (st_cons _ _ _) (st_any _ _ _)) (swn _ _)) fun D σ H ⟨ρ, F, S, h⟩ => ?_
  rw [evS] at h
  obtain ⟨F0, s0, S0⟩ := S.frz z
  cases e1 : (frz z ρ)[i]? with
  | none => rw [e1] at h; exact h.elim
  | some s =>
    rw [e1] at h
    cases s with
    | ow ts =>
      obtain ⟨a, vs, h1, h2, h3, h4, l1⟩ := S0.ow e1
      refine ⟨.ref a, h1, .inl ⟨rfl, vs, .inl (.inl h2)⟩, tRA.out S0 s0 h fun xs ws H2 F2 H3 F3 gr ar S1 h => ?_⟩
      cases e2 : keeps? xs with
      | none => simp only [e2] at h; exact h.elim
      | some us =>
        simp only [e2] at h
        obtain ⟨F4, b, s4, l2⟩ := ar.keep e2
        have h := h.mono s4
        have S2 := S0.grow (gr.trans b)
        obtain ⟨a', vs', h1', h2', h3', h4', l1'⟩ := S2.ow e1
        rw [h1] at h1'
        cases h1'
        rw [show muN "insert" (.cons e (.cons e' .nil)) = "insert" from rfl] at h
        cases l2 with
        | nil => exact h.elim
        | @cons v1 t1 _ _ r1 l3 => cases l3 with
          | nil => cases t1 <;> exact h.elim
          | @cons v2 t2 _ _ r2 l4 => cases l4 with
            | nil =>
              cases t1 with
              | int j =>
                cases r1
                simp only [muV] at h
                split at h
                · rename_i hb
                  simp only [Bool.and_eq_true, decide_eq_true_eq] at hb
                  refine ⟨a, vs', j, v2, rfl, rfl, h2', by rw [l1'.length]; exact hb.1.1, hb.1.2, hb.2, setSl_p h _ _ F4 (S2.upd e1 rfl h1 h3' h4' ⟨a, _, rfl, upd_same, h3', h4', ((l1'.take _).append (.one r2)).append (l1'.drop _)⟩) (Same.refl _)⟩
                · exact h.elim
              | _ => exact h.elim
            | cons _ _ => cases t1 <;> exact h.elim
    | _ => exact h.elim
end
end Lr

set_option Elab.async false
set_option linter.all false
set_option maxRecDepth 100000
set_option maxHeartbeats 1000000
set_option autoImplicit false
/-! SndJ: statements, blocks. -/
namespace Lr
open PySem PySem.Spec PyProof.Rows L2
/-- a def's body -/
structure GdS (cm : Bool) (g : Gx) (Φ : Fe) (cx : CXT) (k : Nat) (N : List Str) (sc : Scope) (W : WX) (X : Cx) : Prop extends Gd cm g Φ cx k N sc W X where
  hsc : X.env.scope = sc
  kind : sc.kind = .function
  hcx : cx = L2N.CX X.prog X.w
  tk : L2N.Takes X W
  hs : X.stack = X.env :: X.outer
  hex : X.ex = []
  hf : X.env.frame = some X.env.locals
section
variable {cm : Bool} {g : Gx} {Φ : Fe} {cx : CXT} {k : Nat} {N : List Str} {sc : Scope} {W : WX} {X : Cx} {B : Bs}
theorem s_mut0 (C : Gd cm g Φ cx k N sc W X) {m : String} {z : List Nat} {i : Nat} {p apos cpos pos : Pos} {n : Nat} (hm : m ∈ ["reverse", "clear", "pop"]) (ok : visB N sc i = true) (hline : (apos.endLine == cpos.line) = true) :
    PS X (.Expr (.Call (.Attribute (.Name (nmOf N i) p) (Str.ofString m) apos) [] [] cpos) pos) (tS g B W (evS Φ n (.mut m z i .nil))) := by
  have step : ∀ {r : V → List V → Hp → VK → Prop} {D : Ends} {σ : L2.St} {H F : Hp} {ρ : Lr.Env}, SR g B ρ σ H F → pS g B F D W (evS Φ n (.mut m z i .nil) ρ) →
      (∀ a vs ts F1 σ', SR g B σ' σ H F1 → σ'[i]? = some (.ow ts) → σ[i]? = some (some (.ref a)) → H a = some (.lst vs) → F1 a = none → B.H0 a = none → RepL g F1 vs ts → pS g B F1 D W ((muV (muN m .nil) ts []).out σ' fun ts' => setSl σ' i (.ow ts')) → r (.ref a) [] H fun _ H' => D.nx σ H') →
      tBM0 X.K "list" r (tVar i) σ H fun _ H1 => D.nx σ H1 := fun {r D σ H F ρ} S h q => by
    rw [evS] at h
    obtain ⟨F0, s0, S0⟩ := S.frz z
    cases e1 : (frz z ρ)[i]? with
    | none => rw [e1] at h; exact h.elim
    | some s =>
      rw [e1] at h
      cases s with
      | ow ts =>
        obtain ⟨a, vs, h1, h2, h3, h4, l1⟩ := S0.ow e1
        refine ⟨.ref a, h1, .inl ⟨rfl, vs, .inl (.inl h2)⟩, q a vs ts F0 _ S0 e1 h1 h2 h3 h4 l1 ?_⟩
        have h := h.mono s0
        simp only [evEs, R.out_ok, keeps?] at h
        exact h
      | _ => exact h.elim
  have swn : ∀ f es, swapsWith (.Call f es [] cpos) none pos.line X.env = pure false := fun _ _ => rfl
  simp only [List.mem_cons, List.not_mem_nil, or_false] at hm
  rcases hm with rfl | rfl | rfl
  · refine PS.imp (ps_expr (pe_bm0 PySem.F.plainAttrs_list PySem.F.slot_list_reverse PySem.F.type_list_reverse mt_reverse (g_var C ok) rfl hline) (swn _ _)) fun D σ H ⟨ρ, F, S, h⟩ => ?_
    refine step S h fun a vs ts F1 ρ' S' e1 h1 h2 h3 h4 l1 h => ?_
    exact ⟨a, vs, rfl, rfl, h2, setSl_p h _ _ F1 (S'.upd e1 rfl h1 h3 h4 ⟨a, _, rfl, upd_same, h3, h4, l1.reverse⟩) (Same.refl _)⟩
  · refine PS.imp (ps_expr (pe_bm0 PySem.F.plainAttrs_list PySem.F.slot_list_clear PySem.F.type_list_clear mt_clear (g_var C ok) rfl hline) (swn _ _)) fun D σ H ⟨ρ, F, S, h⟩ => ?_
    refine step S h fun a vs ts F1 ρ' S' e1 h1 h2 h3 h4 l1 h => ?_
    exact ⟨a, vs, rfl, rfl, h2, setSl_p h _ _ F1 (S'.upd e1 rfl h1 h3 h4 ⟨a, _, rfl, upd_same, h3, h4, .nil⟩) (Same.refl _)⟩
  · refine PS.imp (ps_expr (pe_bm0 PySem.F.plainAttrs_list PySem.F.slot_list_pop PySem.F.type_list_pop mt_pop (g_var C ok) rfl hline) (swn _ _)) fun D σ H ⟨ρ, F, S, h⟩ => ?_
    refine step S h fun a vs ts F1 ρ' S' e1 h1 h2 h3 h4 l1 h => ?_
    simp only [muN, muV] at h
    cases ts with
    | nil => exact h.elim
    | cons t ts =>
      have hl : vs.length - 1 < vs.length := by rw [l1.length]; simp
      exact ⟨a, vs, vs[vs.length - 1], rfl, rfl, h2, List.getElem?_eq_getElem hl, setSl_p h _ _ F1 (S'.upd e1 rfl h1 h3 h4 ⟨a, _, rfl, upd_same, h3, h4, l1.dropLast⟩) (Same.refl _)⟩
theorem SR.dk {ρ : Lr.Env} {σ : L2.St} {H F : Hp} {i : Nat} {ts : List (Key × T)} (S : SR g B ρ σ H F) (e : ρ[i]? = some (.dk ts)) : ∃ a vs, σ[i]? = some (some (.ref a)) ∧ H a = some (.dK vs) ∧ F a = none ∧ B.H0 a = none ∧ RepK g F vs ts := by
  obtain ⟨o, h1, a, vs, rfl, h2, h3, h4, l⟩ := S.sl i _ e
  exact ⟨a, vs, h1, h2, h3, h4, l⟩
theorem SR.dt {ρ : Lr.Env} {σ : L2.St} {H F : Hp} {i : Nat} {ts : List (List Key × T)} (S : SR g B ρ σ H F) (e : ρ[i]? = some (.dt ts)) : ∃ a vs, σ[i]? = some (some (.ref a)) ∧ H a = some (.dT vs) ∧ F a = none ∧ B.H0 a = none ∧ RepK g F vs ts := by
  obtain ⟨o, h1, a, vs, rfl, h2, h3, h4, l⟩ := S.sl i _ e
  exact ⟨a, vs, h1, h2, h3, h4, l⟩
theorem SR.ob {ρ : Lr.Env} {σ : L2.St} {H F : Hp} {i : Nat} {c : String} {ns : List Str} {ts : List T} (S : SR g B ρ σ H F) (e : ρ[i]? = some (.ob c ns ts)) : ∃ a dx xs, σ[i]? = some (some (.ref a)) ∧ H a = some (.ins (g.cls c) dx (ns.zip xs)) ∧ ns.length = xs.length ∧ F a = none ∧ (B.H0 a = none ∧ a = B.sf) ∧ RepL g F xs ts := by
  obtain ⟨o, h1, a, dx, xs, rfl, h2, n, h3, h4, l⟩ := S.sl i _ e
  exact ⟨a, dx, xs, h1, h2, n, h3, h4, l⟩
theorem s_seti (C : Gd cm g Φ cx k N sc W X) {z : List Nat} {i : Nat} {q e : E} {πq π : PT} {p pos' pos : Pos} {n : Nat} (ok : visB N sc i = true) (hl : e.isLc = false) (hq : PE X (pyE N q πq) (tR g W (evE Φ q))) (he : PE X (pyE N e π) (tR g W (evE Φ e))) :
    PS X (.Assign [.Subscript (.Name (nmOf N i) p) (pyE N q πq) pos'] (pyE N e π) pos) (tS g B W (evS Φ n (.seti z i q e))) := by
  have hv := g_var (pos := p) C ok
  have ha : ∀ v, assign (.Subscript (.Name (nmOf N i) p) (pyE N q πq) pos') X.env v = (do
      let ov ← holding [v] (eval (.Name (nmOf N i) p) X.env)
      let iv ← holding [v, ov] (eval (pyE N q πq) X.env)
      standAt pos'
      holding [v, ov, iv] (setItem ov iv v)
      release [v, ov, iv] []) := by
    intro v
    cases q <;> rfl
  refine ⟨fun pins s σ H D I ⟨ρ, F, S, h⟩ => ?_⟩
  rw [evS] at h
  obtain ⟨F0, s0, S0⟩ := S.frz z
  have dict : (PE X (pyE N q πq) (tR g W (evE Φ q)) → sDPut (tVar i) (tR g W (evE Φ q)) (tR g W (evE Φ e)) D σ H) → wpAny (model X.prog X.w) X.A (exec (.Assign [.Subscript (.Name (nmOf N i) p) (pyE N q πq) pos'] (pyE N e π) pos) X.env) (SP X pins D) X.xe s :=
    fun hh => (ps_dput (by have := rh64 C.room; omega) hv hq he (sw_py e π _ _ _ hl)).run pins s σ H D I (hh hq)
  cases e1 : (frz z ρ)[i]? with
  | none => rw [e1] at h; exact h.elim
  | some s =>
    rw [e1] at h
    cases s with
    | ow ts =>
      refine (ps_asg he (pg_sub hv hq set_list ha) (sws_py e π _ _ _ hl) (by cases e <;> rfl) rfl).run pins s σ H D I ?_
      refine tR.out S0 s0 h fun x v H1 F1 gr S1 r nw h => ?_
      obtain ⟨a, vs, h1, h2, h3, h4, l1⟩ := S1.ow e1
      refine ⟨.ref a, h1, tR.out S1 (Same.refl _) h fun y w H2 F2 gr2 S2 r2 nw2 h => ?_⟩
      cases e6 : x.t? with
      | none => simp only [e6] at h; exact h.elim
      | some t =>
        simp only [e6] at h
        obtain ⟨j, rfl, _, h⟩ := asI_out h r2
        cases e7 : ixN ts.length j with
        | none => simp only [e7] at h; exact h.elim
        | some m =>
          simp only [e7] at h
          obtain ⟨F3, g3, s3, r3⟩ := Lr.keep (gr.trans gr2) (r.grow gr2) (nw.later r gr2) e6
          have S3 := S0.grow g3
          obtain ⟨a', vs', h1', h2', h3', h4', l1'⟩ := S3.ow e1
          rw [h1] at h1'
          cases h1'
          refine ⟨a, vs', j, m, rfl, rfl, h2', by rw [l1'.length]; exact e7, setSl_p (h.mono s3) _ _ F3 (S3.upd e1 rfl h1 h3' h4' ⟨a, _, rfl, upd_same, h3', h4', RepL.set r3 m l1'⟩) (Same.refl _)⟩
    | dk ts =>
      refine dict fun _ => tR.out S0 s0 h fun x v H1 F1 gr S1 r nw h => ?_
      obtain ⟨a, vs, h1, h2, h3, h4, l1⟩ := S1.dk e1
      refine ⟨.ref a, h1, tR.out S1 (Same.refl _) h fun y w H2 F2 gr2 S2 r2 nw2 h => ?_⟩
      cases e6 : x.t? with
      | none => simp only [e6] at h; exact h.elim
      | some t =>
        simp only [e6] at h
        cases y with
        | v u =>
          cases e7 : u.key? with
          | none => simp only [e7] at h; exact h.elim
          | some kk =>
            simp only [e7] at h
            obtain ⟨F3, g3, s3, r3⟩ := Lr.keep (gr.trans gr2) (r.grow gr2) (nw.later r gr2) e6
            have S3 := S0.grow g3
            obtain ⟨a', vs', h1', h2', h3', h4', l1'⟩ := S3.dk e1
            rw [h1] at h1'
            cases h1'
            by_cases hs : ts.length < sizeLine
            · rw [if_pos (decide_eq_true hs)] at h
              have hl' : vs'.length = ts.length := Paired.length l1'
              refine ⟨a, _, rfl, key_ok r2 e7 ▸ DPut.k h2' (by rw [hl']; exact hs), setSl_p (h.mono s3) _ _ F3 (S3.upd e1 rfl h1 h3' h4' ⟨a, _, rfl, upd_same, h3', h4', RepK.put l1' r3⟩) (Same.refl _)⟩
            · rw [if_neg (by rw [decide_eq_true_eq]; exact hs)] at h
              exact h.elim
        | _ => exact h.elim
    | dt ts =>
      refine dict fun _ => tR.out S0 s0 h fun x v H1 F1 gr S1 r nw h => ?_
      obtain ⟨a, vs, h1, h2, h3, h4, l1⟩ := S1.dt e1
      refine ⟨.ref a, h1, tR.out S1 (Same.refl _) h fun y w H2 F2 gr2 S2 r2 nw2 h => ?_⟩
      cases e6 : x.t? with
      | none => simp only [e6] at h; exact h.elim
      | some t =>
        simp only [e6] at h
        cases y with
        | v u =>
          cases e7 : u.keyT? with
          | none => simp only [e7] at h; exact h.elim
          | some kk =>
            simp only [e7] at h
            obtain ⟨F3, g3, s3, r3⟩ := Lr.keep (gr.trans gr2) (r.grow gr2) (nw.later r gr2) e6
            have S3 := S0.grow g3
            obtain ⟨a', vs', h1', h2', h3', h4', l1'⟩ := S3.dt e1
            rw [h1] at h1'
            cases h1'
            by_cases hs : ts.length < sizeLine
            · rw [if_pos (decide_eq_true hs)] at h
              have hl' : vs'.length = ts.length := Paired.length l1'
              obtain ⟨b, eb, hb⟩ := keyT_ok gr2.fh r2 e7
              subst eb
              refine ⟨a, _, rfl, DPut.t h2' hb (by rw [hl']; exact hs), setSl_p (h.mono s3) _ _ F3 (S3.upd e1 rfl h1 h3' h4' ⟨a, _, rfl, upd_same, h3', h4', RepK.put l1' r3⟩) (Same.refl _)⟩
            · rw [if_neg (by rw [decide_eq_true_eq]; exact hs)] at h
              exact h.elim
        | _ => exact h.elim
    | _ => exact h.elim
theorem zipSet_len {f : Str} {t : T} : ∀ {ns : List Str} {ts : List T}, ns.length = ts.length → (zipSet ns ts f t).1.length = (zipSet ns ts f t).2.length
  | [], [], _ => rfl
  | [], _ :: _, h => by simp at h
  | _ :: _, [], h => by simp at h
  | n :: ns, u :: us, h => by
    unfold zipSet
    split
    · simpa using h
    · simpa using zipSet_len (by simpa using h)
theorem zipSet_ok {F : Hp} {f : Str} {v : V} {t : T} (r : Rep g F v t) : ∀ {ns : List Str} {vs : List V} {ts : List T}, ns.length = vs.length → RepL g F vs ts →
    ∃ vs', putF f v (ns.zip vs) = (zipSet ns ts f t).1.zip vs' ∧ (zipSet ns ts f t).1.length = vs'.length ∧ RepL g F vs' (zipSet ns ts f t).2
  | [], [], _, _, .nil => ⟨[v], rfl, rfl, .one r⟩
  | [], _ :: _, _, h, _ => by simp at h
  | n :: ns, [], _, h, _ => by simp at h
  | n :: ns, w :: vs, u :: ts, h, .cons r1 l => by
    unfold zipSet
    by_cases hn : n = f
    · rw [if_pos hn]
      refine ⟨v :: vs, ?_, by simpa using h, .cons r l⟩
      show putF f v ((n, w) :: ns.zip vs) = _
      unfold putF
      rw [if_pos hn]
      rfl
    · rw [if_neg hn]
      obtain ⟨vs', h1, h2, h3⟩ := zipSet_ok r (by simpa using h) l
      refine ⟨w :: vs', ?_, by simpa using h2, .cons r1 h3⟩
      show putF f v ((n, w) :: ns.zip vs) = _
      unfold putF
      rw [if_neg hn, h1]
      rfl
theorem s_setf (C : Gd cm g Φ cx k N sc W X) {z : List Nat} {i : Nat} {f : String} {e : E} {π : PT} {p pos' pos : Pos} {n : Nat} (ok : visB N sc i = true) (hl : e.isLc = false) (he : PE X (pyE N e π) (tR g W (evE Φ e))) :
    PS X (.Assign [.Attribute (.Name (nmOf N i) p) (Str.ofString f) pos'] (pyE N e π) pos) (tS g B W (evS Φ n (.setf z i f e))) := by
  refine PS.imp (ps_fld (g_var (pos := p) C ok) he (sw_py e π _ _ _ hl)) fun D σ H ⟨ρ, F, S, h⟩ => ?_
  rw [evS] at h
  obtain ⟨F0, s0, S0⟩ := S.frz z
  cases e1 : (frz z ρ)[i]? with
  | none => rw [e1] at h; exact h.elim
  | some s =>
    rw [e1] at h
    cases s with
    | ob c ns ts =>
      cases hk : Φ.fok c f with
      | false => simp only [hk] at h; exact h.elim
      | true =>
        simp only [hk, if_true] at h
        refine tR.out S0 s0 h fun x v H1 F1 gr S1 r nw h => ?_
        cases e6 : x.t? with
        | none => simp only [e6] at h; exact h.elim
        | some t =>
          simp only [e6] at h
          obtain ⟨F3, g3, s3, r3⟩ := Lr.keep gr r nw e6
          have S3 := S0.grow g3
          obtain ⟨a, dx, xs, h1, h2, hn, h3, h4, l1⟩ := S3.ob e1
          by_cases hs : ns.length < 900
          · rw [if_pos (decide_eq_true hs)] at h
            obtain ⟨c1, c2⟩ := C.fok c f hk
            obtain ⟨vs', q1, q2, q3⟩ := zipSet_ok (f := Str.ofString f) r3 hn l1
            refine ⟨.ref a, h1, a, _, dx, _, rfl, h2, c1, c2, by rw [List.length_zip]; omega, ?_⟩
            rw [q1]
            exact setSl_p (h.mono s3) _ _ F3 (S3.upd e1 rfl h1 h3 h4.1 ⟨a, dx, vs', rfl, upd_same, q2, h3, h4, q3⟩) (Same.refl _)
          · rw [if_neg (by rw [decide_eq_true_eq]; exact hs)] at h
            exact h.elim
    | _ => exact h.elim
/-! ### ends -/
theorem NewOk.base {ρ : Lr.Env} {σ : L2.St} {H F H' F' : Hp} {v : V} {x : Val} (S : SR g B ρ σ H F) (n : NewOk H H' F' v x) : NewOk B.H0 H' F' v x := NewOk.grow (L := H) S.wd.h0 n
theorem Wd.gr {H F : Hp} (w : Wd B H F) : Grow B.H0 B.F0 H F := ⟨w.h0, w.f0, w.fh, w.nw⟩
theorem s_ret {z : List Nat} {e : E} {π : PT} {pos : Pos} {n : Nat} (he : PE X (pyE N e π) (tR g W (evE Φ e))) : PS X (.Return (some (pyE N e π)) pos) (tS g B W (evS Φ n (.ret z e))) := by
  refine PS.imp (ps_ret he) fun D σ H ⟨ρ, F, S, h⟩ => ?_
  rw [evS] at h
  obtain ⟨F0, s0, S0⟩ := S.frz z
  refine tR.out S0 s0 h fun x v H1 F1 gr S1 r nw h => ?_
  have kp : ∀ t, x.t? = some t → pS g B F1 D W (.rt (.v t)) → D.rt v H1 := fun t e6 h => by
    obtain ⟨F3, g3, s3, r3⟩ := Lr.keep gr r nw e6
    exact h v H1 F3 (S0.grow g3).wd.gr r3 trivial
  cases x with
  | l nwb ts =>
    cases nwb with
    | true => exact h v H1 F1 S1.wd.gr r (nw.base S0)
    | false => exact h.elim
  | v t => exact kp t rfl h
  | dk nwb ts =>
    cases nwb with
    | true => exact kp _ rfl h
    | false => exact h.elim
  | _ => exact h.elim
theorem s_retv (C : Gd cm g Φ cx k N sc W X) {i : Nat} {p pos : Pos} {n : Nat} (ok : visB N sc i = true) : PS X (.Return (some (.Name (nmOf N i) p)) pos) (tS g B W (evS Φ n (.retv i))) := by
  refine PS.imp (ps_ret (g_var C ok)) fun D σ H ⟨ρ, F, S, h⟩ => ?_
  rw [evS] at h
  unfold rd at h
  cases e1 : ρ[i]? with
  | none => rw [e1] at h; exact h.elim
  | some s =>
    rw [e1] at h
    obtain ⟨o, h1, h2⟩ := S.sl i s e1
    cases s with
    | im t =>
      obtain ⟨v, rfl, r⟩ := h2
      exact ⟨v, h1, h v H F S.wd.gr r trivial⟩
    | ow ts =>
      obtain ⟨a, vs, rfl, h3, h4, h5, l⟩ := h2
      exact ⟨_, h1, h _ H F S.wd.gr ⟨a, vs, rfl, h3, l⟩ ⟨a, rfl, h5, h4⟩⟩
    | dk ts =>
      obtain ⟨a, vs, rfl, h3, h4, h5, l⟩ := h2
      exact ⟨_, h1, h _ H F S.wd.gr ⟨a, vs, rfl, h3, l⟩ ⟨a, rfl, h5, h4⟩⟩
    | _ => exact h.elim
theorem s_retN {pos : Pos} {n : Nat} : PS X (.Return none pos) (tS g B W (evS Φ n .retN)) := PS.imp ps_retN fun D σ H ⟨ρ, F, S, h⟩ => by
  rw [evS] at h
  exact h .non H F S.wd.gr .non trivial
theorem s_pass {pos : Pos} {n : Nat} : PS X (.Pass pos) (tS g B W (evS Φ n .pass)) := PS.imp ps_pass fun D σ H ⟨ρ, F, S, h⟩ => by
  rw [evS] at h
  exact h σ H F S (Same.refl _)
theorem s_brk {pos : Pos} {n : Nat} : PS X (.Break pos) (tS g B W (evS Φ n .brk)) := PS.imp ps_break fun D σ H ⟨ρ, F, S, h⟩ => by
  rw [evS] at h
  exact h σ H F S (Same.refl _)
theorem s_raiseM (C : GdS cm g Φ cx k N sc W X) (hcm : cm = true) {c m : String} {j : Nat} {p p2 pos pos' : Pos} {n : Nat} (ok : glB sc c = true) : PS X (.Raise (some (.Call (.Name (Str.ofString c) p) [.Constant (.str (Str.ofString m)) j p2] [] pos)) none pos') (tS g B W (evS Φ n (.raiseM c m))) := by
  cases hk : Φ.rm c with
  | false => exact PS.imp ps_never fun D σ H ⟨ρ, F, S, h⟩ => by rw [evS, hk] at h; exact h
  | true =>
    obtain ⟨E, hmg⟩ := C.ers c hk
    have gl := C.scr.glo ok
    refine PS.imp (L2N.ps_raise (C.calm hcm) C.tk (L2N.pmk_own PySem.F.excBase_ValueError E.exi hmg E.kp (raises_own E.ex.hs E.ty) gl.1 gl.2.1)) fun D σ H ⟨ρ, F, S, h⟩ => ?_
    rw [evS, hk] at h
    exact h σ H F _ _ S (Same.refl _) ⟨rfl, rfl⟩
theorem s_raise1 (C : GdS cm g Φ cx k N sc W X) {c : String} {e : E} {π : PT} {p pos pos' : Pos} {n : Nat} (ok : glB sc c = true) (he : PE X (pyE N e π) (tR g W (evE Φ e))) :
    PS X (.Raise (some (.Call (.Name (Str.ofString c) p) [pyE N e π] [] pos)) none pos') (tS g B W (evS Φ n (.raise1 c e))) := by
  cases hk : Φ.r1 c with
  | false => exact PS.imp ps_never fun D σ H ⟨ρ, F, S, h⟩ => by rw [evS, hk] at h; exact h
  | true => rw [C.r1f c] at hk; cases hk
/-! ### blocks -/
theorem s_ife {c : E} {a b : Ss} {ec : Expr} {ba bb : List Stmt} {pos : Pos} {n : Nat} (hc : L2.PT X ec (tRB g W fun ρ => (evE Φ c ρ).bind asB)) (ha : PSs X ba (tS g B W (evSs Φ n a))) (hb : PSs X bb (tS g B W (evSs Φ n b))) :
    PS X (.If ec ba bb pos) (tS g B W (evS Φ n (.ife c a b))) := by
  refine PS.imp (ps_if hc ha hb) fun D σ H ⟨ρ, F, S, h⟩ => ?_
  rw [evS, ← out_bind] at h
  exact tRB.out (fa := fun ρ => (evE Φ c ρ).bind asB) S (Same.refl _) h fun x H1 F1 gr S1 h => by
    cases x with
    | true => exact ⟨ρ, F1, S1, h⟩
    | false => exact ⟨ρ, F1, S1, h⟩
theorem s_whl (own : PassesOwn (model X.prog X.w) X.A X.env X.xe) {c : E} {b : Ss} {ec : Expr} {bb : List Stmt} {pos : Pos} {n : Nat} (hc : L2.PT X ec (tRB g W fun ρ => (evE Φ c ρ).bind asB)) (hb : PSs X bb (tS g B W (evSs Φ n b))) :
    PS X (.While ec bb [] pos) (tS g B W (evS Φ n (.whl c b))) := by
  refine PS.imp (ps_while own hc hb) fun D σ H ⟨ρ, F, S, h⟩ => ?_
  rw [evS] at h
  refine ⟨fun m σ H => ∃ ρ F, SR g B ρ σ H F ∧ pS g B F D W (whlGo (fun ρ => (evE Φ c ρ).bind asB) (evSs Φ n b) m ρ), ⟨n, ρ, F, S, h⟩, ?_⟩
  rintro m σ H ⟨ρ, F, S, h⟩
  cases m with
  | zero => exact h.elim
  | succ m =>
    unfold whlGo at h
    refine tRB.out (fa := fun ρ => (evE Φ c ρ).bind asB) S (Same.refl _) h fun x H1 F1 gr S1 h => ?_
    cases x with
    | false => exact h σ H1 F1 S1 (Same.refl _)
    | true =>
      refine ⟨fun σ' H' => ∃ ρ F, SR g B ρ σ' H' F ∧ pS g B F D W (whlGo (fun ρ => (evE Φ c ρ).bind asB) (evSs Φ n b) m ρ), fun σ' H' q => ⟨m, Nat.lt_succ_self m, q⟩, ρ, F1, S1, ?_⟩
      have h : pS g B F1 D W (match evSs Φ n b ρ with
        | .nx ρ2 => whlGo (fun ρ => (evE Φ c ρ).bind asB) (evSs Φ n b) m ρ2
        | .bk ρ2 => .nx ρ2
        | o => o) := h
      cases e : evSs Φ n b ρ with
      | nx ρ2 => rw [e] at h; exact fun σ' H' F' S' s' => ⟨ρ2, F', S', h.mono s'⟩
      | bk ρ2 => rw [e] at h; exact h
      | rt x => rw [e] at h; exact h
      | ex c fs ρ' => rw [e] at h; exact h
      | no => rw [e] at h; exact h
theorem iT.out {ρ : Lr.Env} {σ : L2.St} {H F Fb : Hp} {D : Ends} {fz : Bool} {fa : Lr.Env → R (List T)} {f : List T → Out} (S : SR g B ρ σ H F) (sb : Same Fb F) (h : pS g B Fb D W ((fa ρ).out ρ f)) {Q1 : L2.It → Hp → Prop}
    (k : ∀ us J H1 F1, Grow H F H1 F1 → SR g B ρ σ H1 F1 → ItOk g (loF fz H1 F1) F1 J us → pS g B F1 D W (f us) → Q1 J H1) : iT g W fz fa σ H Q1 := by
  refine ⟨B, ρ, F, S, ?_⟩
  cases e : fa ρ with
  | ok x => rw [e] at h; exact fun J H1 F1 gr ok => k x J H1 F1 gr (S.grow gr) ok (h.mono (sb.trans gr.f))
  | exc c fs => rw [e] at h; exact fun H1 F1 cls d gr er => h σ H1 F1 cls d (S.grow gr) (sb.trans gr.f) er
  | no => rw [e] at h; exact h
theorem s_for (C : Gd cm g Φ cx k N sc W X) (hcm : cm = true) {z : List Nat} {t : Tg} {it : It} {b : Ss} {πt : PT} {ei : Expr} {bb : List Stmt} {pos : Pos} {n : Nat} (ot : okTg cm N sc t = true) (hi : PI X (pyTg N t πt) ei (iT g W true (evIt Φ true it))) (hs : ∀ x, foldedSetIterable ei X.env x = pure x) (hb : PSs X bb (tS g B W (evSs Φ n b))) :
    PS X (.For (pyTg N t πt) ei bb [] pos) (tS g B W (evS Φ n (.forr z t it b))) := by
  refine PS.imp (ps_for C.own (C.calm hcm) hi (g_tg C t πt ot) hb hs) fun D σ H ⟨ρ, F, S, h⟩ => ?_
  rw [evS] at h
  obtain ⟨F0, s0, S0⟩ := S.frz z
  refine iT.out S0 s0 h fun us J H1 F1 gr S1 ok h => ?_
  obtain ⟨G, Y, w, hG, hY⟩ := ok.ex
  refine for_it w (fun i σ H => ∃ ρ F, SR g B ρ σ H F ∧ Same F1 F ∧ pS g B F D W (forGo (fun u => bindTg t (.v u)) (evSs Φ n b) (us.drop i) ρ)) ⟨_, F1, S1, Same.refl _, by rw [List.drop_zero]; exact h⟩ ?_ ?_ ?_
  · rintro i σ H _ ⟨ρ, F, S, s1, _⟩
    exact hG H (s1.trans S.fh) (s1.trans S.fh)
  · rintro i x σ H2 H3 hi ⟨ρ, F2, S2, s1, hq⟩ y
    obtain ⟨u, hu⟩ : ∃ u, us[i]? = some u := ⟨us[i], List.getElem?_eq_getElem hi⟩
    obtain ⟨F3, g2, rx⟩ := hY i H2 F2 x H3 u hu s1 S2.fh y
    have hdr : us.drop i = u :: us.drop (i + 1) := by
      rw [List.drop_eq_getElem_cons hi]
      rw [List.getElem?_eq_getElem hi] at hu
      cases hu
      rfl
    rw [hdr] at hq
    unfold forGo at hq
    have S3 := S2.grow g2
    cases hb : bindTg t (.v u) ρ with
    | none => simp only [hb] at hq; exact hq.elim
    | some ρ1 =>
      simp only [hb] at hq
      refine ⟨B, ρ, F3, H3, F3, .v u, ρ1, S3, .refl g2.fh, rx, trivial, hb, fun σ2 S4 e1 e2 => ⟨ρ1, F3, S4, ?_⟩⟩
      have hq := hq.mono g2.f
      cases e : evSs Φ n b ρ1 with
      | nx ρ2 => rw [e] at hq; exact fun σ' H' F' S' s' => ⟨ρ2, F', S', (s1.trans g2.f).trans s', hq.mono s'⟩
      | bk ρ2 => rw [e] at hq; exact hq
      | rt x => rw [e] at hq; exact hq
      | ex c fs ρ' => rw [e] at hq; exact hq
      | no => rw [e] at hq; exact hq
  · rintro σ H' ⟨ρ, F', S', s', hq⟩
    rw [List.drop_length] at hq
    exact hq σ H' F' S' (Same.refl _)
theorem ss_nil {n : Nat} : PSs X [] (tS g B W (evSs Φ n .nil)) := PSs.imp pss_nil fun D σ H ⟨ρ, F, S, h⟩ => by
  rw [evSs] at h
  exact h σ H F S (Same.refl _)
theorem ss_cons {s : S} {ss : Ss} {st : Stmt} {r : List Stmt} {n : Nat} (h1 : PS X st (tS g B W (evS Φ n s))) (h2 : PSs X r (tS g B W (evSs Φ n ss))) : PSs X (st :: r) (tS g B W (evSs Φ n (.cons s ss))) := by
  refine PSs.imp (pss_cons h1 h2) fun D σ H ⟨ρ, F, S, h⟩ => ?_
  rw [evSs] at h
  refine ⟨ρ, F, S, ?_⟩
  cases e : evS Φ n s ρ with
  | nx ρ2 => rw [e] at h; exact fun σ' H' F' S' s' => ⟨ρ2, F', S', h.mono s'⟩
  | bk ρ2 => rw [e] at h; exact h
  | rt x => rw [e] at h; exact h
  | ex c fs ρ' => rw [e] at h; exact h
  | no => rw [e] at h; exact h
end
end Lr

set_option Elab.async false
set_option linter.all false
set_option maxRecDepth 100000
set_option maxHeartbeats 1000000
set_option autoImplicit false
/-! SndTr: try .. except X as e; the exception stays told behind the suite. -/
namespace Lr
open PySem PySem.Spec PyProof.Rows L2
/-- the ends of a suite: the name goes, the exception is told -/
def keepD (D : Ends) (i : Nat) (a : Addr) (cls : Value) (d : Option Addr) : Ends where
  nx := fun σ H => H a = none → D.nx (σ.set i none) (upd H a (ExR cls d a))
  rt := fun v H => H a = none → D.rt v (upd H a (ExR cls d a))
  bk := fun σ H => H a = none → D.bk (σ.set i none) (upd H a (ExR cls d a))
  ct := fun σ H => H a = none → D.ct (σ.set i none) (upd H a (ExR cls d a))
def wAsK (K : PySem.W.Frag) (c : Value) (i : Nat) (ts : Addr → Value → Option Addr → TS) (Wout : WX) (D : Ends) : WX := fun cls d σ H =>
  ∃ b, PySem.W.exmOne K cls c = some b ∧ (b = true → ∀ a, H a = none → ts a cls d (keepD D i a cls d) (σ.set i (some (.ref a))) H) ∧ (b = false → Wout cls d σ H)
section
variable {X : Cx} {pins : List (Addr × Obj)} {σ : L2.St} {H : Hp} {s : Shared} {a : Addr} {oe : Obj} {cls : Value} {d : Option Addr}
/-- an exception's object is told from now on -/
theorem Inv.told {vs : Array Value} (I : Inv X pins σ H s) (ha : s.heap.get? a = some oe) (hz : L2N.Zn cls d oe) (hd : oe.data = .fields vs) (na : H a = none) (n0 : X.s_0.heap.get? a = none) (nL : a ≠ X.env.locals)
    (nP : ∀ p ∈ X.pn ++ pins, p.1 ≠ a) : Inv X pins σ (upd H a (ExR cls d a)) s := by
  have ne0 : ∀ b o, X.s_0.heap.get? b = some o → b ≠ a := fun b o e z => by rw [z, n0] at e; cases e
  have nC : ∀ x c, X.env.cells.lookup x = some c → c ≠ a := fun x c e z => by
    obtain ⟨v, o, ho, hv⟩ := I.cell x c e
    rw [z, ha] at ho
    cases ho
    rw [hd] at hv
    cases hv
  exact ⟨I.ok, I.os, I.bare, ⟨I.base.keep, I.base.slot, fun b o e n x => by rw [upd_ne (ne0 b o e)]; exact I.base.free b o e n x, I.base.there,
      fun b xs e => by
        have q := I.base.tups b xs e
        rw [upd_ne (ne_of_none q na)]; exact q,
      fun b o xs e => by
        have q := I.base.frzs b o xs e
        rw [upd_ne (ne_of_none q na)]; exact q,
      fun b ps e => by
        obtain ⟨m, q⟩ := I.base.tbls b ps e
        exact ⟨m, by rw [upd_ne (ne_of_none q na)]; exact q⟩⟩,
    I.loc, I.cell, by rw [upd_ne (Ne.symm nL)]; exact I.free, fun x c e => by rw [upd_ne (nC x c e)]; exact I.freeC x c e,
    fun p hp => by
      obtain ⟨q1, q2, q3⟩ := I.pin p hp
      exact ⟨q1, by rw [upd_ne (nP p hp)]; exact q2, q3⟩,
    HOk.laidN I.hok (fun _ _ q => q) na ⟨⟨oe, vs, ha, hz, hd⟩, ⟨oe, ha⟩, fun _ _ ⟨o, v, q, r⟩ k => ⟨o, v, k o q, r⟩⟩, I.len⟩
end
section
variable {X : Cx} {x n : Str} {c : Value} {i : Nat} {body suite : List Stmt} {b₀ : Stmt} {np pos pos' : Pos} {tb : WX → TS} {ts : Addr → Value → Option Addr → TS} {Wout : WX}
theorem ps_try_keep (hs : X.stack = X.env :: X.outer) (hf : X.env.frame = some X.env.locals) (hex : X.ex = []) (hN : X.N.Nodup) (hi : X.N[i]? = some n) (hln : X.env.kindOf n = some .local) (hc : Names X x c) (tk : L2N.Takes X Wout)
    (hb : ∀ (W : WX) (pn : List (Addr × Obj)) (xe : Value → Shared → Prop), L2N.Takes (X.tr pn xe) W → PassesOwn (model X.prog X.w) X.A X.env xe → PSs (X.tr pn xe) body (tb W))
    (hsu : ∀ (a : Addr) (oe : Obj) (cls : Value) (d : Option Addr) (pn : List (Addr × Obj)), L2N.Zn cls d oe → (∃ vs, oe.data = .fields vs) → PSs (X.suite a ((a, oe) :: pn)) (b₀ :: suite) (ts a cls d)) :
    PS X (.Try body [.ExceptHandler (some (.Name x np)) (some n) (b₀ :: suite) pos'] [] [] pos) (fun D σ H => tb (wAsK X.K c i ts Wout D) D σ H) := by
  refine ⟨fun pins s σ H D I h => wpAny_Try_except ?_⟩
  have ok := I.ok
  have hfr : X.A.frames = some (X.env :: X.outer) := by rw [ok.frames, hs]
  let xe1 : Value → Shared → Prop := fun e s₁ => wpAny (model X.prog X.w) X.A (noteFrame e X.env) (fun _ s₂ => wpAny (model X.prog X.w) X.A (setFlight e none) (fun _ s₃ =>
    wpAny (model X.prog X.w) X.A (handleBy e X.env [.ExceptHandler (some (.Name x np)) (some n) (b₀ :: suite) pos']) (SP X pins D) X.xe s₃) X.xe s₂) X.xe s₁
  have caught : L2N.Takes (X.tr (X.pn ++ pins) xe1) (wAsK X.K c i ts Wout D) := by
    rintro u s' ⟨a, B, sI, pins', σ', H', cls, d, rfl, J', nb, up, sky, na, os, ag, b, hb1, hyes, hno⟩
    have J : Inv X pins σ' H' sI := J'.ofTry ok
    have sky' : Sky B (X.env :: X.outer) a (L2N.Zn cls d) X.env.locals s'.heap := by rw [← hs]; exact sky
    refine L2N.Sky.land L2N.Zn.steady hfr hf sky' fun h3 fl3 up3 => ?_
    -- the exception's object, as it stands; it is none of ours
    obtain ⟨oe3, vs3, he3, hz3, hd3⟩ := fl3.there
    have nfr : a ∉ frs (X.env :: X.outer) := fun hm => by
      obtain ⟨_, o', e', hnf⟩ := fl3.2.2.1.mem hm
      rw [he3] at e'
      cases e'
      exact hnf _ hd3
    have nL : a ≠ X.env.locals := fun z => nfr (List.mem_filterMap.mpr ⟨X.env, List.mem_cons_self, by rw [hf, z]⟩)
    have nF : a ∉ X.fs := fun hm => by
      obtain ⟨e, he, q⟩ := List.mem_filterMap.mp hm
      exact nfr (List.mem_filterMap.mpr ⟨e, List.mem_cons_of_mem _ he, q⟩)
    have nI : sI.heap.get? a = none := by
      cases q : sI.heap.get? a with
      | none => rfl
      | some o =>
        have z := nb a o q (by rw [hs]; exact nfr)
        rw [fl3.2.1] at z
        cases z
    have n0 : X.s_0.heap.get? a = none := by
      cases q : X.s_0.heap.get? a with
      | none => rfl
      | some o =>
        obtain ⟨o', z⟩ := J.base.there a o q (by rw [hex]; exact fun z => nomatch z)
        rw [nI] at z
        cases z
    have nP : ∀ p ∈ X.pn ++ pins, p.1 ≠ a := fun p hp z => by
      have := (J.pin p hp).1
      rw [z, nI] at this
      cases this
    have J3 : Inv X pins σ' H' { s' with heap := h3 } := J.landed nb fl3.1 (up.trans up3) os ag
    have S3 := J3.suite he3 hd3 na nL nF
    have LT : PySem.W.Looks (model X.prog X.w) h3 (typeOf (.ref a)) cls := fun A Q E s k q => wpAny_typeOf_ref (k _ _ he3) (by rw [hz3.1]; exact q)
    have LM := PySem.W.exm_one (M := model X.prog X.w) J3.kIn LT hb1
    refine wpAny_handleBy_cons (codeAny_handlers_test ?_) (by intro q; cases q)
    have test : ∀ {Q : Value → Shared → Prop} {E : Value → Shared → Prop}, Q c { s' with heap := h3 } → wpAny (model X.prog X.w) (X.A.mark (some (.ref a))) (eval (.Name x np) X.env) Q E { s' with heap := h3 } := fun {Q E} q => by
      obtain ⟨hg, hdbg, hm | ⟨hm, hv, hnn⟩⟩ := hc
      · exact ld_glob (X := X.suite a ((a, oe3) :: (X.pn ++ pins))) S3 hg hm q hdbg
      · exact ld_blt (X := X.suite a ((a, oe3) :: (X.pn ++ pins))) S3 hg hm hv q hnn hdbg
    refine test (LM.here ?_)
    cases b with
    | false =>
      refine wpAny_handleBy_nil ?_
      obtain ⟨k1, k2, k3, oe, vs, T, oT, ts', he, hz, hd, h1, hr⟩ := id fl3
      unfold PySem.passOn
      refine wpAny_bind (wpAny_field he hd h1 ?_)
      rw [if_neg (show ¬ ((Value.ref T == Value.none) = true) from by simp)]
      have fin : wpAny (model X.prog X.w) X.A (setFlight (.ref a) X.env.frame) (fun _ s4 => wpAny (model X.prog X.w) X.A (throw (.ref a) : Sem Flow) (SP X pins D) X.xe s4) X.xe { s' with heap := h3 } := by
        rw [hf]
        exact HandSPX.setFlight_upZ fl3 fun h4 hh4 up4 => wpAny_throw (tk _ _ ⟨a, B, sI, pins, σ', H', cls, d, rfl, J, nb, (up.trans up3).trans up4, .inr (.inr (by rw [hs]; exact hh4)), na, os, ag, hno rfl⟩)
      first
        | exact wpAny_bind (wpAny_pure (wpAny_bind fin))
        | exact wpAny_bind fin
    | true =>
      refine codeAny_handlers_suite_as (HandSPX.lands_againZ fl3 fun h4 fl4 up4 => ?_)
      obtain ⟨oe4, vs4, he4, hz4, hd4⟩ := fl4.there
      have J4 : Inv X pins σ' H' { s' with heap := h4 } := J.landed nb fl4.1 ((up.trans up3).trans up4) os ag
      refine store_ok (X := X.suite a ((a, oe4) :: (X.pn ++ pins))) (v := .ref a) (J4.suite he4 hd4 na nL nF) hN hi (.inl hln) rfl (fun s5 S5 => ?_) (.inr hln)
      refine wpAny_mono ((hsu a oe4 cls d (X.pn ++ pins) hz4 ⟨_, hd4⟩).run [] s5 _ H' _ S5 (hyes rfl a na)) (fun f s6 hsp => ?_) (fun _ _ z => False.elim z)
      -- behind it the name goes, the object is told
      have end_ : ∀ {σ6 : L2.St} {H6 : Hp} {Q : Shared → Prop}, Inv (X.suite a ((a, oe4) :: (X.pn ++ pins))) [] σ6 H6 s6 → (H6 a = none → ∀ s7, Inv X pins (σ6.set i none) (upd H6 a (ExR cls d a)) s7 → Q s7) →
          wpAny (model X.prog X.w) X.A (do bindName X.env n .none; unbindBehindTheSuite X.env n pos') (fun _ s7 => Q s7) X.xe s6 := fun {σ6 H6 Q} S6 hq =>
        gone_ok (X := X.suite a ((a, oe4) :: (X.pn ++ pins))) S6 hN hi hln fun s7 S7 => by
          have p7 := S7.pin (a, oe4) (List.mem_append_left _ List.mem_cons_self)
          exact hq p7.2.1 s7 (Inv.told (S7.unsuite ok) p7.1 hz4 hd4 p7.2.1 n0 nL nP)
      cases f with
      | next => obtain ⟨σ6, H6, S6, q6⟩ := hsp; exact end_ S6 fun na6 s7 J7 => ⟨_, _, J7, q6 na6⟩
      | brk => obtain ⟨σ6, H6, S6, q6⟩ := hsp; exact end_ S6 fun na6 s7 J7 => ⟨_, _, J7, q6 na6⟩
      | cont => obtain ⟨σ6, H6, S6, q6⟩ := hsp; exact end_ S6 fun na6 s7 J7 => ⟨_, _, J7, q6 na6⟩
      | ret u => obtain ⟨v6, σ6, H6, S6, r6, q6⟩ := hsp; exact end_ S6 fun na6 s7 J7 => ⟨_, _, _, J7, r6, q6 na6⟩
  refine wpAny_mono ((hb (wAsK X.K c i ts Wout D) (X.pn ++ pins) xe1 caught PassesOwn.looking).run [] s σ H D (I.toTry _) h) (fun f s1 hsp => ?_) (fun e s1 he => he)
  cases f with
  | next =>
    obtain ⟨σ', H', J', q⟩ := hsp
    exact wpAny_execs_nil ⟨σ', H', J'.ofTry ok, q⟩
  | brk => obtain ⟨σ', H', J', q⟩ := hsp; exact ⟨σ', H', J'.ofTry ok, q⟩
  | cont => obtain ⟨σ', H', J', q⟩ := hsp; exact ⟨σ', H', J'.ofTry ok, q⟩
  | ret u => obtain ⟨v, σ', H', J', r, q⟩ := hsp; exact ⟨v, σ', H', J'.ofTry ok, r, q⟩
end
/-! ### into the suite and out of it -/
def pinG (g : Gx) (a : Addr) (c : String) : Gx := { g with pin := fun b => if b = a then some (c, none) else none }
section
variable {g : Gx} {B : Bs} {ρ : Lr.Env} {σ : L2.St} {H F : Hp} {a : Addr} {c : String}
theorem SlR.chg {g' : Gx} {H' F' : Hp} (hc : g'.cls = g.cls) (hp : ∀ a c, ErrA g F a c none → ErrA g' F' a c none) (sF : Same F F') (sH : Same H H') (nf : ∀ b o, F b = none → H b = some o → F' b = none) {o : Option V} : ∀ {s : Sl}, SlR g B H F o s → SlR g' B H' F' o s
  | .un, _ => trivial
  | .im _, ⟨v, e, r⟩ => ⟨v, e, r.chg hc hp sF⟩
  | .ow _, ⟨p, vs, e, h, f, b, l⟩ => ⟨p, vs, e, sH _ _ h, nf _ _ f h, b, l.chg hc hp sF⟩
  | .dk _, ⟨p, vs, e, h, f, b, l⟩ => ⟨p, vs, e, sH _ _ h, nf _ _ f h, b, RepK.chg hc hp sF l⟩
  | .dt _, ⟨p, vs, e, h, f, b, l⟩ => ⟨p, vs, e, sH _ _ h, nf _ _ f h, b, RepK.chg hc hp sF l⟩
  | .ob _ _ _, ⟨p, dx, vs, e, h, n, f, b, l⟩ => ⟨p, dx, vs, e, by rw [hc]; exact sH _ _ h, n, nf _ _ f h, b, l.chg hc hp sF⟩
theorem SR.pin (S : SR g B ρ σ H F) (np : ∀ b, g.pin b = none) : SR (pinG g a c) B ρ σ H F := ⟨S.wd, S.len, fun i s e => by
  obtain ⟨o, h1, h2⟩ := S.sl i s e
  exact ⟨o, h1, SlR.chg (g := g) (g' := pinG g a c) rfl (fun a1 c1 h => h.imp id fun z => by rw [np] at z; cases z) (Same.refl _) (Same.refl _) (fun _ _ z _ => z) h2⟩, S.inj⟩
theorem pin_err (np : ∀ b, g.pin b = none) (fa : F a = none) : ∀ a1 c1, ErrA (pinG g a c) F a1 c1 none → ErrA g (upd F a (ExR (.ref (g.cls c)) none a)) a1 c1 none := fun a1 c1 h => by
  rcases h with h | h
  · exact .inl (by rw [upd_ne (ne_of_none h fa)]; exact h)
  · have h : (if a1 = a then some (c, (none : Option Addr)) else none) = some (c1, none) := h
    by_cases e : a1 = a
    · rw [if_pos e] at h
      cases h
      subst e
      exact .inl upd_same
    · rw [if_neg e] at h; cases h
theorem Wd.told {o : HO} (w : Wd B H F) (na : H a = none) : Wd B (upd H a o) (upd F a o) := by
  have g2 := Grow.new (o := o) w.fh na
  exact w.grow g2
theorem SR.unpin (S : SR (pinG g a c) B ρ σ H F) (np : ∀ b, g.pin b = none) (na : H a = none) : SR g B ρ σ (L2.upd H a (ExR (.ref (g.cls c)) none a)) (L2.upd F a (ExR (.ref (g.cls c)) none a)) := ⟨S.wd.told na, S.len, fun i s e => by
  obtain ⟨o, h1, h2⟩ := S.sl i s e
  exact ⟨o, h1, SlR.chg (g := pinG g a c) (g' := g) rfl (pin_err np (S.fh.free na)) (same_upd (S.fh.free na)) (same_upd na) (fun b o q1 q2 => by rw [upd_ne (ne_of_none q2 na)]; exact q1) h2⟩, S.inj⟩
theorem VRep.unpin {v : V} (s : Same F H) (np : ∀ b, g.pin b = none) (na : H a = none) : ∀ {x : Val}, VRep (pinG g a c) H F v x → VRep g (upd H a (ExR (.ref (g.cls c)) none a)) (upd F a (ExR (.ref (g.cls c)) none a)) v x
  | .v _, h => Rep.chg (g := pinG g a c) (g' := g) rfl (pin_err np (s.free na)) (same_upd (s.free na)) h
  | .l _ _, ⟨p, vs, e, h, l⟩ => ⟨p, vs, e, same_upd na _ _ h, RepL.chg (g := pinG g a c) (g' := g) rfl (pin_err np (s.free na)) (same_upd (s.free na)) l⟩
  | .dk _ _, ⟨p, vs, e, h, l⟩ => ⟨p, vs, e, same_upd na _ _ h, RepK.chg (g := pinG g a c) (g' := g) rfl (pin_err np (s.free na)) (same_upd (s.free na)) l⟩
  | .dt _ _, ⟨p, vs, e, h, l⟩ => ⟨p, vs, e, same_upd na _ _ h, RepK.chg (g := pinG g a c) (g' := g) rfl (pin_err np (s.free na)) (same_upd (s.free na)) l⟩
  | .ob _ _ _, ⟨p, dx, vs, e, h, n, l⟩ => ⟨p, dx, vs, e, same_upd na _ _ h, n, RepL.chg (g := pinG g a c) (g' := g) rfl (pin_err np (s.free na)) (same_upd (s.free na)) l⟩
theorem NewOk.told {H0 : Hp} {o : HO} {v : V} (na : H a = none) : ∀ {x : Val}, VRep g H F v x → NewOk H0 H F v x → NewOk H0 (upd H a o) (upd F a o) v x
  | .v _, _, h => h
  | .l true _, ⟨q, vs, e, h, _⟩, ⟨p, e2, h1, h2⟩ => ⟨p, e2, h1, by
    cases e.symm.trans e2
    rw [upd_ne (ne_of_none h na)]; exact h2⟩
  | .l false _, _, h => h
  | .dk true _, ⟨q, vs, e, h, _⟩, ⟨p, e2, h1, h2⟩ => ⟨p, e2, h1, by
    cases e.symm.trans e2
    rw [upd_ne (ne_of_none h na)]; exact h2⟩
  | .dk false _, _, h => h
  | .dt true _, ⟨q, vs, e, h, _⟩, ⟨p, e2, h1, h2⟩ => ⟨p, e2, h1, by
    cases e.symm.trans e2
    rw [upd_ne (ne_of_none h na)]; exact h2⟩
  | .dt false _, _, h => h
  | .ob _ _ _, _, h => h
end

/-! ### the contexts -/
section
variable {cm : Bool} {g : Gx} {Φ : Fe} {cx : CXT} {k : Nat} {N : List Str} {sc : Scope} {W : WX} {X : Cx} {B : Bs}
theorem GdS.tr (C : GdS cm g Φ cx k N sc W X) {W' : WX} {pn : List (Addr × Obj)} {xe : Value → Shared → Prop} (hcm : cm = true) (tk : L2N.Takes (X.tr pn xe) W') (own : PassesOwn (model X.prog X.w) X.A X.env xe) : GdS cm g Φ cx k N sc W' (X.tr pn xe) where
  hK := C.hK
  hN := C.hN
  nd := C.nd
  scr := C.scr
  fnc := C.fnc
  calm := C.calm
  hdl := C.hdl
  room := C.room
  np := C.np
  hot := fun z => by rw [hcm] at z; cases z
  own := own
  pas := fun σ => by
    rw [C.hcx]
    exact L2N.passAt tk σ
  nov := C.nov
  free := C.free
  glb := C.glb
  glx := C.glx
  dfs := fun x h e => ⟨(C.dfs x h e).ex⟩
  hfs := fun x h e => ⟨(C.hfs x h e).ex⟩
  cls := fun x h e => ⟨(C.cls x h e).ex⟩
  isa := C.isa
  exm := C.exm
  r1f := C.r1f
  ers := fun c e => ⟨⟨(C.ers c e).1.ex, (C.ers c e).1.exi, (C.ers c e).1.kp, (C.ers c e).1.ty⟩, (C.ers c e).2⟩
  cmg := C.cmg
  fok := C.fok
  hsc := C.hsc
  kind := C.kind
  hcx := C.hcx
  tk := tk
  hs := C.hs
  hex := C.hex
  hf := C.hf
theorem GdS.suite (C : GdS cm g Φ cx k N sc W X) (np : ∀ b, g.pin b = none) {a : Addr} {oe : Obj} {c : String} {pn : List (Addr × Obj)} (hz : L2N.Zn (.ref (g.cls c)) none oe) (hv : ∃ vs, oe.data = .fields vs) : GdS false (pinG g a c) Φ.hot cx k N sc (fun _ _ _ _ => False) (X.suite a ((a, oe) :: pn)) where
  hK := C.hK
  hN := C.hN
  nd := C.nd
  scr := C.scr
  fnc := C.fnc
  calm := fun z => nomatch z
  hdl := fun z => nomatch z
  room := ⟨C.room.dp, C.room.un⟩
  np := fun z => nomatch z
  hot := fun _ => ⟨(a, oe), List.mem_cons_self, fun a1 c1 d1 h => by
    have h : (if a1 = a then some (c, (none : Option Addr)) else none) = some (c1, d1) := h
    by_cases e : a1 = a
    · rw [if_pos e] at h
      cases h
      exact ⟨e, hz, hv⟩
    · rw [if_neg e] at h; cases h⟩
  own := PassesOwn.never
  pas := fun σ pins H s e s' I z => (C.nov _ _ _ _ _ z).elim
  nov := C.nov
  free := C.free
  glb := fun x v e => by
    obtain ⟨t, w, u, h1, h2, h3, h4⟩ := C.glb x v e
    exact ⟨t, w, u, h1, h2, h3, fun F => (h4 F).chg (g := g) (g' := pinG g a c) rfl (F := F) (F' := F) (fun a1 c1 h => by
      exact h.imp id fun z => by rw [np] at z; cases z) (Same.refl _)⟩
  glx := C.glx
  dfs := fun x h e => by
    obtain ⟨a, fd, ps, n, j, _, G0, r⟩ := (C.hfs x h e).ex
    exact ⟨a, fd, ps, n, j, (fun z => nomatch z), G0, r⟩
  hfs := fun x h e => by
    obtain ⟨a, fd, ps, n, j, _, G0, r⟩ := (C.hfs x h e).ex
    exact ⟨a, fd, ps, n, j, (fun z => nomatch z), G0, r⟩
  cls := fun x h e => nomatch e
  isa := C.isa
  exm := C.exm
  r1f := fun _ => rfl
  ers := fun c e => nomatch e
  cmg := C.cmg
  fok := C.fok
  hsc := C.hsc
  kind := C.kind
  hcx := C.hcx
  tk := fun u s' ⟨_, _, _, _, _, _, _, _, _, _, _, _, _, _, _, _, z⟩ => z.elim
  hs := C.hs
  hex := C.hex
  hf := C.hf
theorem s_try (C : GdS cm g Φ cx k N sc W X) (hcm : cm = true) {b h : Ss} {c : String} {i : Nat} {bb suite : List Stmt} {b0 : Stmt} {np pos' pos : Pos} {n : Nat} (oc : glB sc c = true) (oi : exB N sc i = true)
    (hb : ∀ X' W', GdS cm g Φ cx k N sc W' X' → PSs X' bb (tS g B W' (evSs Φ n b)))
    (hh : ∀ g' X', GdS false g' Φ.hot cx k N sc (fun _ _ _ _ => False) X' → PSs X' (b0 :: suite) (tS g' B (fun _ _ _ _ => False) (evSs Φ.hot n h))) :
    PS X (.Try bb [.ExceptHandler (some (.Name (Str.ofString c) np)) (some (nmOf N i)) (b0 :: suite) pos'] [] [] pos) (tS g B W (evS Φ n (.tryx b c (some i) h))) := by
  cases hcn : Φ.cn c with
  | false => exact PS.imp ps_never fun D σ H ⟨ρ, F, S, q⟩ => by rw [evS, hcn] at q; exact q
  | true =>
    have hmg := C.cmg c hcn
    have gl := C.scr.glo oc
    unfold exB at oi
    simp only [Bool.and_eq_true, decide_eq_true_eq] at oi
    obtain ⟨oi1, oi2⟩ := oi
    have hi : N[i]? = some (nmOf N i) := by
      unfold nmOf
      rw [List.getD_eq_getElem?_getD, List.getElem?_eq_getElem oi1]
      rfl
    have hln : X.env.kindOf (nmOf N i) = some .local := by
      show X.env.scope.names.lookup (nmOf N i) = some .local
      rw [C.hsc]
      split at oi2
      · assumption
      · cases oi2
    have np' := C.np hcm
    refine PS.imp (ps_try_keep (i := i) (tb := fun W' => tS g B W' (evSs Φ n b)) (ts := fun a cls d D σ H => ∃ c1, cls = .ref (g.cls c1) ∧ d = none ∧ tS (pinG g a c1) B (fun _ _ _ _ => False) (evSs Φ.hot n h) D σ H) (Wout := W)
      C.hs C.hf C.hex (by rw [C.hN]; exact C.nd) (by rw [C.hN]; exact hi) hln ⟨gl.1, gl.2.1, .inl hmg⟩ C.tk
      (fun W' pn xe tk own => hb _ W' (C.tr hcm tk own))
      (fun a oe cls d pn hz hv => ⟨fun pins s σ H D I ⟨c1, e1, e2, q⟩ => by
        subst e1
        subst e2
        exact (hh _ _ (C.suite np' hz hv)).run pins s σ H D I q⟩)) fun D σ H ⟨ρ, F, S, q⟩ => ⟨ρ, F, S, ?_⟩
    rw [evS, hcn, if_pos rfl] at q
    cases e : evSs Φ n b ρ with
    | nx ρ2 => rw [e] at q; exact q
    | bk ρ2 => rw [e] at q; exact q
    | rt x => rw [e] at q; exact q
    | no => rw [e] at q; exact q
    | ex c1 fs ρ1 =>
      rw [e] at q
      cases fs with
      | cons _ _ => exact q.elim
      | nil =>
        simp only at q
        intro σ1 H1 F1 cls d S1 s1 er
        obtain ⟨rfl, rfl⟩ := er
        cases ex : Φ.exm c1 c with
        | none => rw [ex] at q; exact q.elim
        | some t =>
          rw [ex] at q
          obtain ⟨x1, x2⟩ := C.exm c1 c t ex
          rw [C.hK] at x1
          cases t with
          | false => exact ⟨false, by rw [C.hK]; exact x1, (fun z => nomatch z), fun _ => q σ1 H1 F1 _ _ S1 s1 ⟨rfl, rfl⟩⟩
          | true =>
            refine ⟨true, by rw [C.hK]; exact x1, fun _ a na => ⟨c1, rfl, rfl, ρ1.set i (.im (.err c1 [])), F1, (S1.pin np').setIm (.err (.inr (if_pos rfl))), ?_⟩, fun z => nomatch z⟩
            simp only at q
            by_cases hlt : i < ρ1.length
            · rw [if_pos (decide_eq_true hlt)] at q
              have out : ∀ {ρ2 : Lr.Env} {σ2 : L2.St} {H2 F2 : Hp}, SR (pinG g a c1) B ρ2 σ2 H2 F2 → Same F1 F2 → H2 a = none → ∃ F3, SR g B (ρ2.set i .un) (σ2.set i none) (L2.upd H2 a (ExR (.ref (g.cls c1)) none a)) F3 ∧ Same F F3 := fun S2 s2 na2 =>
                ⟨_, (S2.unpin np' na2).un i, (s1.trans s2).trans (same_upd (S2.fh.free na2))⟩
              cases e2 : evSs Φ.hot n h (ρ1.set i (.im (.err c1 []))) with
              | nx ρ2 =>
                rw [e2] at q
                intro σ2 H2 F2 S2 s2 na2
                obtain ⟨F3, S3, s3⟩ := out S2 s2 na2
                exact q _ _ F3 S3 s3
              | bk ρ2 =>
                rw [e2] at q
                intro σ2 H2 F2 S2 s2 na2
                obtain ⟨F3, S3, s3⟩ := out S2 s2 na2
                exact q _ _ F3 S3 s3
              | rt x =>
                rw [e2] at q
                intro v H2 F2 gr rv nv na2
                have g3 : Grow H2 F2 (L2.upd H2 a (ExR (.ref (g.cls c1)) none a)) (L2.upd F2 a (ExR (.ref (g.cls c1)) none a)) := Grow.new gr.fh na2
                exact q v _ _ (gr.trans g3) (rv.unpin gr.fh np' na2) (NewOk.told na2 rv nv)
              | ex _ _ _ => rw [e2] at q; exact q.elim
              | no => rw [e2] at q; exact q.elim
            · rw [if_neg (by rw [decide_eq_true_eq]; exact hlt)] at q
              exact q.elim
end
end Lr

set_option Elab.async false
set_option linter.all false
set_option maxRecDepth 100000
set_option maxHeartbeats 1000000
set_option autoImplicit false
/-! SndK: all statements; defs; the table of defs. -/
namespace Lr
open PySem PySem.Spec PyProof.Rows L2
section
variable {cx : CXT} {k : Nat} {N : List Str} {sc : Scope} {B : Bs}
theorem sws_nl {t : Tg} {πt : PT} {e : E} {π : PT} {l : Nat} {env : PySem.Env} (h : e.isLc = false) : swapsWithSole [pyTg N t πt] (pyE N e π) l env = pure false := sws_py e π _ l env h
theorem sst_py {t : Tg} {πt : PT} {e : E} {π : PT} {env : PySem.Env} (h : (t.isTup && (e.isTup || e.isLc)) = false) : swappedStores [pyTg N t πt] (pyE N e π) env = pure none := by
  cases t with
  | nm i => rfl
  | tup ts => cases e <;> first | rfl | cases h
mutual
theorem s_ok {cm : Bool} {g : Gx} {Φ : Fe} (X : Cx) (W : WX) (C : GdS cm g Φ cx k N sc W X) (n : Nat) : ∀ (s : S) (π : PT), okS cm N sc s π = true → PS X (pyS N s π) (tS g B W (evS Φ n s))
  | .asg z t e, π, ok => by
    simp only [okS, Bool.and_eq_true, Bool.not_eq_true', Bool.or_eq_true] at ok
    obtain ⟨⟨⟨o1, o2⟩, o3⟩, o4⟩ := ok
    have he := (e_ok e (π.c 1) sc W X C.toGd o2).1
    cases hl : e.isLc with
    | false => exact s_asg0 C.toGd o1 he (sws_nl hl) (sst_py o3)
    | true =>
      rcases o4 with o4 | o4
      · rw [hl] at o4; cases o4
      cases e with
      | lc elt t2 it cs b own =>
        cases t with
        | tup ts => cases o4
        | nm i =>
          have o4 : (swapB N sc i (.lc elt t2 it cs b own) π || cellB N sc i) = true := o4
          rw [Bool.or_eq_true] at o4
          rcases o4 with o4 | o4
          rotate_left
          · have hcell : sc.names.lookup (nmOf N i) = some .cell := by
              unfold cellB at o4
              split at o4
              · assumption
              · cases o4
            exact s_asg0 C.toGd o1 he (sw_cell (l := (π.p 0).line) (by rw [C.hsc]; exact hcell)) (sst_py o3)
          simp only [swapB, E.isLc, E.lcSc, Bool.and_eq_true, decide_eq_true_eq, Bool.not_eq_true', Bool.true_and] at o4
          obtain ⟨⟨p1, p2⟩, p3⟩ := o4
          have hloc : sc.names.lookup (nmOf N i) = some .local := by
            split at p1
            · assumption
            · cases p1
          simp only [okE, Bool.and_eq_true, decide_eq_true_eq] at o2
          obtain ⟨⟨⟨⟨⟨⟨⟨⟨oc, q1⟩, q2⟩, q3⟩, q4⟩, q5⟩, q6⟩, q7⟩, q8⟩ := o2
          exact s_asgL C.toGd oc C.hsc C.kind (πy := π.c 0) (by simpa only [okTg] using o1) hloc (by rw [p2]; exact beq_self_eq_true _) p3 q3 q5 q6 q8 (it_fs it _)
            (it_ok it _ sc W X C.toGd q2 t2 _ q1 false) (fun X' C' => (e_ok elt _ b _ X' C' q4).1) (fun X' C' e es z => by
              subst z
              simp only [okEs, Bool.and_eq_true] at q7
              exact (e_ok e _ b _ X' C' q7.1).2)
      | _ => cases hl
  | .aug i op e, π, ok => by
    simp only [okS, Bool.and_eq_true] at ok
    obtain ⟨⟨⟨o1, o2⟩, _⟩, o3⟩ := ok
    exact s_aug C.toGd o1 o2 (e_ok e _ sc W X C.toGd o3).1
  | .ex e, π, ok => by
    simp only [okS, Bool.and_eq_true, Bool.not_eq_true'] at ok
    exact s_ex ok.2 (e_ok e _ sc W X C.toGd ok.1).1
  | .mut m z i es, π, ok => by
    simp only [okS, Bool.and_eq_true] at ok
    obtain ⟨⟨⟨o1, o2⟩, o3⟩, o4⟩ := ok
    have ha := es_ok es _ sc W X C.toGd o2
    cases es with
    | nil => exact s_mut0 C.toGd (of_decide_eq_true o4) o1 o3
    | cons e es => cases es with
      | nil => exact s_mut1 C.toGd (of_decide_eq_true o4) o1 o3 ha
      | cons e2 es => cases es with
        | nil => exact s_mut2 C.toGd (of_decide_eq_true o4) o1 o3 ha
        | cons _ _ => cases o4
  | .seti z i q e, π, ok => by
    simp only [okS, Bool.and_eq_true, Bool.not_eq_true'] at ok
    obtain ⟨⟨⟨o1, o2⟩, o3⟩, o4⟩ := ok
    exact s_seti C.toGd o1 o4 (e_ok q _ sc W X C.toGd o2).1 (e_ok e _ sc W X C.toGd o3).1
  | .setf z i f e, π, ok => by
    simp only [okS, Bool.and_eq_true, Bool.not_eq_true'] at ok
    obtain ⟨⟨o1, o3⟩, o4⟩ := ok
    exact s_setf C.toGd o1 o4 (e_ok e _ sc W X C.toGd o3).1
  | .ret z e, π, ok => by
    simp only [okS] at ok
    exact s_ret (e_ok e _ sc W X C.toGd ok).1
  | .retv i, π, ok => by
    simp only [okS] at ok
    exact s_retv C.toGd ok
  | .retN, _, _ => s_retN
  | .ife c a b, π, ok => by
    simp only [okS, Bool.and_eq_true] at ok
    exact s_ife (e_ok c _ sc W X C.toGd ok.1.1).2 (ss_ok X W C n a _ ok.1.2) (ss_ok X W C n b _ ok.2)
  | .whl c b, π, ok => by
    simp only [okS, Bool.and_eq_true] at ok
    exact s_whl C.own (e_ok c _ sc W X C.toGd ok.1).2 (ss_ok X W C n b _ ok.2)
  | .forr z t it b, π, ok => by
    simp only [okS, Bool.and_eq_true] at ok
    obtain ⟨⟨⟨⟨oc, o1⟩, o2⟩, o3⟩, o4⟩ := ok
    exact s_for C.toGd oc o2 (it_ok it _ sc W X C.toGd o3 t _ o1 true) (it_fs it _) (ss_ok X W C n b _ o4)
  | .pass, _, _ => s_pass
  | .brk, _, _ => s_brk
  | .raiseM c m, π, ok => by
    simp only [okS, Bool.and_eq_true] at ok
    exact s_raiseM C ok.1 ok.2
  | .raise1 c e, π, ok => by
    simp only [okS, Bool.and_eq_true] at ok
    exact s_raise1 C ok.1.2 (e_ok e _ sc W X C.toGd ok.2).1
  | .tryx b c i h, π, ok => by
    simp only [okS, Bool.and_eq_true] at ok
    obtain ⟨⟨⟨⟨⟨oc, o1⟩, o2⟩, o3⟩, o4⟩, o5⟩ := ok
    cases i with
    | none => cases o4
    | some i =>
      cases h with
      | nil => cases o5
      | cons s ss => exact s_try C oc o2 o4 (fun X' W' C' => ss_ok X' W' C' n b _ o1) (fun g' X' C' => ss_ok X' _ C' n (.cons s ss) _ o3)
theorem ss_ok {cm : Bool} {g : Gx} {Φ : Fe} (X : Cx) (W : WX) (C : GdS cm g Φ cx k N sc W X) (n : Nat) : ∀ (ss : Ss) (l : List PT), okSs cm N sc ss l = true → PSs X (pySs N ss l) (tS g B W (evSs Φ n ss))
  | .nil, _, _ => ss_nil
  | .cons s ss, l, ok => by
    simp only [okSs, Bool.and_eq_true] at ok
    exact ss_cons (s_ok X W C n s (hd l) ok.1) (ss_ok X W C n ss l.tail ok.2)
end
end
/-! ### defs -/
/-- an exception's class, told of the written part -/
structure ErrK (K : PySem.W.Frag) (C : Addr) : Prop where
  ex : ExcC K C
  exi : PySem.W.excIn K C [.type "ValueError", .type "Exception", .type "BaseException", .type "object"] "ValueError.__new__" = true
  kp : PySem.W.keepIn K (.ref C) = true
  ty : PySem.W.typeIn K (.ref C) = some (.type "type")
/-- what stands around all defs: the module's facts -/
structure Wo (P : Program) (w : World) (g : Gx) (mg : Str → Option Value) (base : Heap) (Φ : Fe) (cx : CXT) (k : Nat) : Prop where
  free : ∀ f ∈ FR, mg (Str.ofString f) = none
  glb : ∀ x v, Φ.glb x = .ok v → ∃ t w u, v = .v t ∧ mg (Str.ofString x) = some u ∧ RelV w u ∧ ∀ F, Rep g F w t
  glx : ∀ x, (Φ.glb x).ne
  dfs : ∀ x h, Φ.fn x = some h → ∃ (a : Addr) (fd : FuncData) (ps : List Str) (n j : Nat), FnOk P w g.K mg base cx j a fd ps (spF g n h) ∧ j ≤ k ∧ mg (Str.ofString x) = some (.ref a) ∧ PySem.W.keepIn g.K (.ref a) = true ∧ Binds g.K fd ps [] ∧ ∀ ts, ts.length ≠ n → h ts = .no
  hfs : ∀ x h, Φ.hfn x = some h → ∃ (a : Addr) (fd : FuncData) (ps : List Str) (n j : Nat), FnP P w g.K mg base cx j a fd ps (spP g n h) ∧ j ≤ k ∧ mg (Str.ofString x) = some (.ref a) ∧ PySem.W.keepIn g.K (.ref a) = true ∧ Binds g.K fd ps [] ∧ ∀ ts, ts.length ≠ n → h ts = .no
  cls : ∀ x h, Φ.cs x = some h → ∃ (a : Addr) (fd : FuncData) (ps : List Str) (n j : Nat), Mk g.K (g.cls x) a ∧ FnOk P w g.K mg base cx j a fd ps (spI g n x h) ∧ j + 1 ≤ k ∧ mg (Str.ofString x) = some (.ref (g.cls x)) ∧ Binds g.K fd ps [] ∧ ∀ ts, ts.length ≠ n → h ts = .no
  isa : ∀ d c b, Φ.isa d c = some b → PySem.W.kitOne g.K (clV g d) (clV g c) = some b ∧ (∀ n, d = .own n → InsOk g.K (g.cls n)) ∧ (∀ n, d = .exn n → ExcC g.K (g.cls n))
  exm : ∀ d c b, Φ.exm d c = some b → PySem.W.exmOne g.K (.ref (g.cls d)) (.ref (g.cls c)) = some b ∧ mg (Str.ofString c) = some (.ref (g.cls c))
  r1f : ∀ c, Φ.r1 c = false
  ers : ∀ c, Φ.rm c = true → ErrK g.K (g.cls c) ∧ mg (Str.ofString c) = some (.ref (g.cls c))
  np : ∀ a, g.pin a = none
  cmg : ∀ n, Φ.cn n = true → mg (Str.ofString n) = some (.ref (g.cls n))
  fok : ∀ c f, Φ.fok c f = true → Cls g.K (g.cls c) ∧ NoAttr g.K (g.cls c) (Str.ofString f)
theorem Wo.mono {P : Program} {w : World} {g : Gx} {mg : Str → Option Value} {base : Heap} {Φ : Fe} {cx : CXT} {j k : Nat} (h : Wo P w g mg base Φ cx j) (hk : j ≤ k) : Wo P w g mg base Φ cx k := ⟨h.free, h.glb, h.glx, fun x f e => by
  obtain ⟨a, fd, ps, n, i, h1, h2, h3⟩ := h.dfs x f e
  exact ⟨a, fd, ps, n, i, h1, Nat.le_trans h2 hk, h3⟩, fun x f e => by
  obtain ⟨a, fd, ps, n, i, h1, h2, h3⟩ := h.hfs x f e
  exact ⟨a, fd, ps, n, i, h1, Nat.le_trans h2 hk, h3⟩, fun x f e => by
  obtain ⟨a, fd, ps, n, i, h0, h1, h2, h3⟩ := h.cls x f e
  exact ⟨a, fd, ps, n, i, h0, h1, Nat.le_trans h2 hk, h3⟩, h.isa, h.exm, h.r1f, h.ers, h.np, h.cmg, h.fok⟩
section
variable {P : Program} {w : World} {g : Gx} {mg : Str → Option Value} {base : Heap} {Φ : Fe} {k : Nat}
theorem cx_false {l : List PySem.Env} {H : Hp} {s : Shared} {e : Value} {s' : Shared} (z : L2N.CX P w l H s (fun _ _ _ => False) e s') : False := by
  obtain ⟨_, _, _, _, _, _, _, _, _, _, _, _, q⟩ := z
  exact q
theorem Wo.gd (o : Wo P w g mg base Φ (L2N.CX P w) k) {N ps : List Str} {sc : Scope} {qual : Str} {f : Addr} {cdv : Value} {A : Around} {outer : List PySem.Env} {s : Shared} {H : Hp} {E : XK} (S : FnScope N ps sc) (hr : Room k (A.deeper (envOfC qual sc s.heap.objs.size f cdv))) :
    GdS true g Φ (L2N.CX P w) k N sc (fun c d _ H => E c d H) (cxOf (L2N.CX P w) P w g.K mg base N qual sc f cdv A outer s H E) where
  hK := rfl
  hN := rfl
  nd := S.nd
  scr := fun x => .inl rfl
  fnc := fun x h => rfl
  calm := fun _ => rfl
  hdl := fun _ => hr.hd
  room := L2H.roomH_of hr
  np := fun _ => o.np
  hot := fun z => nomatch z
  own := L2.passes_of rfl
  pas := fun σ => L2N.passAt (L2N.takes_of rfl rfl rfl rfl) σ
  nov := fun _ _ _ _ _ z => cx_false z
  free := o.free
  glb := o.glb
  glx := o.glx
  dfs := fun x h e => by
    obtain ⟨a, fd, ps, n, j, G, r⟩ := o.dfs x h e
    exact ⟨a, fd, ps, n, j, (fun _ => G), (fun z => nomatch z), r⟩
  hfs := fun x h e => by
    obtain ⟨a, fd, ps, n, j, G, r⟩ := o.hfs x h e
    exact ⟨a, fd, ps, n, j, (fun z => nomatch z), (fun _ => G), r⟩
  cls := fun x h e => ⟨o.cls x h e⟩
  isa := o.isa
  exm := o.exm
  r1f := o.r1f
  ers := fun c e => ⟨⟨(o.ers c e).1.ex, (o.ers c e).1.exi, (o.ers c e).1.kp, (o.ers c e).1.ty⟩, (o.ers c e).2⟩
  cmg := o.cmg
  fok := o.fok
  hsc := rfl
  kind := S.kind
  hcx := rfl
  tk := L2N.takes_of rfl rfl rfl rfl
  hs := rfl
  hex := rfl
  hf := rfl
/-- .. where an exception is held -/
theorem Wo.gdP (o : Wo P w g mg base Φ (L2N.CX P w) k) {g' : Gx} (eK : g'.K = g.K) (ec : g'.cls = g.cls) {N ps : List Str} {sc : Scope} {qual : Str} {f : Addr} {cdv : Value} {A : Around} {outer : List PySem.Env} {s : Shared} {H : Hp} {E : XK} {p : Addr × Obj} (hp : PinsAt g' p) (S : FnScope N ps sc) (hr : L2H.RoomH k (A.deeper (envOfC qual sc s.heap.objs.size f cdv))) :
    GdS false g' Φ.hot (L2N.CX P w) k N sc (fun c d _ H => E c d H) (L2H.cxH (L2N.CX P w) P w g.K mg base N qual sc f cdv A outer s H E p) := by
  obtain ⟨K, cl, pin⟩ := g
  obtain ⟨K', cl', pin'⟩ := g'
  dsimp only at eK ec
  subst eK ec
  exact {
  hK := rfl
  hN := rfl
  nd := S.nd
  scr := fun x => .inl rfl
  fnc := fun x h => rfl
  calm := fun z => nomatch z
  hdl := fun z => nomatch z
  room := hr
  np := fun z => nomatch z
  hot := fun _ => ⟨p, List.mem_cons_self, hp⟩
  own := L2.passes_of rfl
  pas := fun σ => L2N.passAt (L2N.takes_of rfl rfl rfl rfl) σ
  nov := fun _ _ _ _ _ z => cx_false z
  free := o.free
  glb := fun x v e => by
    obtain ⟨t, w, u, h1, h2, h3, h4⟩ := o.glb x v e
    exact ⟨t, w, u, h1, h2, h3, fun F => Rep.chg (g := ⟨K', cl', pin⟩) (g' := ⟨K', cl', pin'⟩) (F := F) (F' := F) rfl (fun a1 c1 h => h.imp id fun z => by
      have q := o.np a1
      have z : pin a1 = _ := z
      have q : pin a1 = none := q
      rw [q] at z; cases z) (Same.refl _) (h4 F)⟩
  glx := o.glx
  dfs := fun x h e => by
    obtain ⟨a, fd, ps, n, j, G, r⟩ := o.hfs x h e
    exact ⟨a, fd, ps, n, j, (fun z => nomatch z), (fun _ => G), r⟩
  hfs := fun x h e => by
    obtain ⟨a, fd, ps, n, j, G, r⟩ := o.hfs x h e
    exact ⟨a, fd, ps, n, j, (fun z => nomatch z), (fun _ => G), r⟩
  cls := fun x h e => nomatch e
  isa := o.isa
  exm := o.exm
  r1f := fun _ => rfl
  ers := fun c e => nomatch e
  cmg := o.cmg
  fok := o.fok
  hsc := rfl
  kind := S.kind
  hcx := rfl
  tk := L2N.takes_of rfl rfl rfl rfl
  hs := rfl
  hex := rfl
  hf := rfl }
theorem startE_get {n : Nat} {ts : List T} {i : Nat} {s : Sl} (h : (startE n ts)[i]? = some s) : (∃ t, ts[i]? = some t ∧ s = .im t) ∨ s = .un := by
  unfold startE at h
  by_cases hi : i < ts.length
  · rw [List.getElem?_append_left (by rw [List.length_map]; exact hi), List.getElem?_map] at h
    rw [List.getElem?_eq_getElem hi] at h ⊢
    cases h
    exact .inl ⟨_, rfl, rfl⟩
  · rw [List.getElem?_append_right (by rw [List.length_map]; omega), List.getElem?_replicate] at h
    split at h
    · cases h; exact .inr rfl
    · cases h
theorem start_sr {N : List Str} {H F : Hp} {vs : List V} {ts : List T} (s : Same F H) (l : RepL g F vs ts) (hl : ts.length ≤ N.length) : SR g ⟨H, F, 0⟩ (startE N.length ts) (L2.start N vs) H F := by
  have e := l.length
  refine ⟨⟨s, Same.refl _, Same.refl _, fun a o h => .inl h⟩, ?_, fun i t h => ?_, fun i j t u a hij h1 h2 o1 o2 => ?_⟩
  · unfold startE L2.start
    simp only [List.length_append, List.length_map, List.length_replicate]
    omega
  · have hi : i < (L2.start N vs).length := by
      have := (List.getElem?_eq_some_iff.mp h).1
      unfold startE at this
      unfold L2.start
      simp only [List.length_append, List.length_map, List.length_replicate] at this ⊢
      omega
    refine ⟨(L2.start N vs)[i], List.getElem?_eq_getElem hi, ?_⟩
    rcases startE_get h with ⟨t', h1, rfl⟩ | rfl
    · obtain ⟨v, h2, r⟩ := l.get h1
      refine ⟨v, ?_, r⟩
      have hv : i < vs.length := (List.getElem?_eq_some_iff.mp h2).1
      have : (L2.start N vs)[i]? = some (some v) := by
        unfold L2.start
        rw [List.getElem?_append_left (by rw [List.length_map]; exact hv), List.getElem?_map, h2]
        rfl
      rw [List.getElem?_eq_getElem hi] at this
      exact Option.some.inj this
    · trivial
  · rcases startE_get h1 with ⟨t', _, rfl⟩ | rfl <;> cases o1
/-- a def's form -/
structure RowOk (f : Fn) (d : He.DefD) : Prop where
  sc : FnScope f.N (f.N.take f.arity) d.scope
  ar : f.arity ≤ f.N.length
  py : pySs f.N f.body (posB d.body).cs = d.body
  ok : okSs true f.N d.scope f.body (posB d.body).cs = true
  dfl : d.dfl = [] ∧ d.kwd = []
  bd : ∀ (kV doc pm : Value) (an : Option Addr) (cdv ct : Value) (us : List Value), us.length = (f.N.take f.arity).length → bindArgs (PySem.W.fnOf d.name d.qual d.params d.body d.scope .none kV doc pm an cdv ct) ⟨us, []⟩ = pure ((f.N.take f.arity).zip us)
theorem RowOk.fn {f : Fn} {d : He.DefD} {a : Addr} {fd : FuncData} (r : RowOk f d) (F : FunD g.K d.name d.qual d.params d.body d.scope (d.dvs g.K) (d.kws g.K) a fd) (o : Wo P w g mg base Φ (L2N.CX P w) k) (n : Nat) :
    FnOk P w g.K mg base (L2N.CX P w) (k + 1) a fd (f.N.take f.arity) (spF g f.arity (callF Φ n f)) ∧ Binds g.K fd (f.N.take f.arity) [] := by
  have hN : f.N.length = f.names.length := by unfold Fn.N; rw [List.length_map]
  have hlen : (f.N.take f.arity).length = f.arity := by rw [List.length_take]; have := r.ar; omega
  have hd : d.dvs g.K = [] := by unfold He.DefD.dvs; rw [r.dfl.1]; rfl
  rw [hd] at F
  refine ⟨F.ok r.sc (fun vs H Q E h => ?_) (fun cdv A outer s H vs Q E hr h => ?_), F.bindsN r.bd⟩
  · obtain ⟨F, ts, _, l, e, _⟩ := h
    rw [l.length, e, hlen]
  · obtain ⟨F0, ts, s0, l, e, q⟩ := h
    have G := o.gd (E := E) (qual := d.qual) (f := a) (cdv := cdv) (A := A) (outer := outer) (s := s) (H := H) r.sc hr
    have hb := ss_ok (B := ⟨H, F0, 0⟩) _ _ G n f.body (posB d.body).cs r.ok
    rw [r.py] at hb
    refine ⟨_, hb, startE f.N.length ts, F0, start_sr s0 l (by have := r.ar; omega), ?_⟩
    unfold callF at q
    rw [if_pos (decide_eq_true e), ← hN] at q
    cases ev : evSs Φ n f.body (startE f.N.length ts) with
    | nx ρ =>
      rw [ev] at q
      exact fun σ H' F' S _ => q .non H' F' S.wd.gr .non trivial
    | bk ρ => rw [ev] at q; exact q.elim
    | rt x =>
      rw [ev] at q
      exact q
    | ex c fs ρ =>
      rw [ev] at q
      exact fun σ H' F' cls d S _ er => q H' F' cls d S.wd.gr er
    | no => rw [ev] at q; exact q.elim
theorem RowOk.fnP {f : Fn} {d : He.DefD} {a : Addr} {fd : FuncData} (r : RowOk f d) (hk : okSs false f.N d.scope f.body (posB d.body).cs = true) (F : FunD g.K d.name d.qual d.params d.body d.scope (d.dvs g.K) (d.kws g.K) a fd) (o : Wo P w g mg base Φ (L2N.CX P w) k) (n : Nat) :
    FnP P w g.K mg base (L2N.CX P w) (k + 1) a fd (f.N.take f.arity) (spP g f.arity (callF Φ.hot n f)) := by
  have hN : f.N.length = f.names.length := by unfold Fn.N; rw [List.length_map]
  have hlen : (f.N.take f.arity).length = f.arity := by rw [List.length_take]; have := r.ar; omega
  have hd : d.dvs g.K = [] := by unfold He.DefD.dvs; rw [r.dfl.1]; rfl
  rw [hd] at F
  refine Lr.FunD.okP F r.sc (fun p vs H Q E h => ?_) (fun cdv A outer s H vs Q E p hr h => ?_)
  · obtain ⟨g', F, ts, _, _, _, _, l, e, _⟩ := h
    rw [l.length, e, hlen]
  · obtain ⟨g', F0, ts, e1, e2, hp, s0, l, e, q⟩ := h
    have G := o.gdP e1 e2 hp (E := E) (qual := d.qual) (f := a) (cdv := cdv) (A := A) (outer := outer) (s := s) (H := H) r.sc hr
    have hb := ss_ok (B := ⟨H, F0, 0⟩) _ _ G n f.body (posB d.body).cs hk
    rw [r.py] at hb
    refine ⟨_, hb, startE f.N.length ts, F0, start_sr s0 l (by have := r.ar; omega), ?_⟩
    unfold callF at q
    rw [if_pos (decide_eq_true e), ← hN] at q
    cases ev : evSs Φ.hot n f.body (startE f.N.length ts) with
    | nx ρ =>
      rw [ev] at q
      exact fun σ H' F' S _ => q .non H' F' S.wd.gr .non trivial
    | bk ρ => rw [ev] at q; exact q.elim
    | rt x =>
      rw [ev] at q
      exact q
    | ex c fs ρ =>
      rw [ev] at q
      exact fun σ H' F' cls d S _ er => q H' F' cls d S.wd.gr er
    | no => rw [ev] at q; exact q.elim
theorem RowOk.init {f : Fn} {d : He.DefD} {a : Addr} {fd : FuncData} {c : String} (r : RowOk f d) (ha : 0 < f.arity) (F : FunD g.K d.name d.qual d.params d.body d.scope (d.dvs g.K) (d.kws g.K) a fd) (o : Wo P w g mg base Φ (L2N.CX P w) k) (n : Nat) :
    FnOk P w g.K mg base (L2N.CX P w) (k + 1) a fd (f.N.take f.arity) (spI g (f.arity - 1) c (makeF Φ n c f)) ∧ Binds g.K fd (f.N.take f.arity) [] := by
  have hN : f.N.length = f.names.length := by unfold Fn.N; rw [List.length_map]
  have hlen : (f.N.take f.arity).length = f.arity := by rw [List.length_take]; have := r.ar; omega
  have hd : d.dvs g.K = [] := by unfold He.DefD.dvs; rw [r.dfl.1]; rfl
  rw [hd] at F
  refine ⟨F.ok r.sc (fun vs H Q E h => ?_) (fun cdv A outer s H vs Q E hr h => ?_), F.bindsN r.bd⟩
  · obtain ⟨F, ts, x, dx, ws, rfl, _, _, _, l, e, _⟩ := h
    rw [List.length_cons, l.length, e, hlen]
    omega
  · obtain ⟨F0, ts, x, dx, ws, rfl, hx, hF, s0, l, e, q⟩ := h
    have G := o.gd (E := E) (qual := d.qual) (f := a) (cdv := cdv) (A := A) (outer := outer) (s := s) (H := H) r.sc hr
    have hb := ss_ok (B := ⟨cutA H x, F0, x⟩) _ _ G n f.body (posB d.body).cs r.ok
    rw [r.py] at hb
    have el := l.length
    have hcut : Same (cutA H x) H := fun b o z => by
      unfold cutA at z
      split at z
      · cases z
      · exact z
    have sr : SR g ⟨cutA H x, F0, x⟩ (Sl.ob c [] [] :: startE (f.names.length - 1) ts) (L2.start f.N (.ref x :: ws)) H F0 := by
      have est : L2.start f.N (.ref x :: ws) = some (.ref x) :: (ws.map some ++ List.replicate (f.names.length - 1 - ws.length) none) := by
        unfold L2.start
        simp only [List.map_cons, List.length_cons, List.cons_append, hN]
        congr 3
        omega
      rw [est]
      refine ⟨⟨s0, hcut, Same.refl _, fun a o h => .inl h⟩, ?_, fun i t h => ?_, fun i j t u b hij h1 h2 o1 o2 => ?_⟩
      · unfold startE
        simp only [List.length_cons, List.length_append, List.length_map, List.length_replicate]
        omega
      · cases i with
        | zero =>
          simp only [List.getElem?_cons_zero, Option.some.injEq] at h
          subst h
          exact ⟨_, rfl, x, dx, [], rfl, hx, rfl, hF, ⟨if_pos rfl, rfl⟩, .nil⟩
        | succ i =>
          simp only [List.getElem?_cons_succ] at h ⊢
          have hi : i < (ws.map some ++ List.replicate (f.names.length - 1 - ws.length) none).length := by
            have := (List.getElem?_eq_some_iff.mp h).1
            unfold startE at this
            simp only [List.length_append, List.length_map, List.length_replicate] at this ⊢
            omega
          refine ⟨_, List.getElem?_eq_getElem hi, ?_⟩
          rcases startE_get h with ⟨t', h1, rfl⟩ | rfl
          · obtain ⟨v, h2, r⟩ := l.get h1
            refine ⟨v, ?_, r⟩
            have hv : i < ws.length := (List.getElem?_eq_some_iff.mp h2).1
            have : (ws.map some ++ List.replicate (f.names.length - 1 - ws.length) none)[i]? = some (some v) := by
              rw [List.getElem?_append_left (by rw [List.length_map]; exact hv), List.getElem?_map, h2]
              rfl
            rw [List.getElem?_eq_getElem hi] at this
            exact Option.some.inj this
          · trivial
      · have z : ∀ (i : Nat) (t : Sl), (Sl.ob c [] [] :: startE (f.names.length - 1) ts)[i]? = some t → t.own = true → i = 0 := fun i t h ho => by
          cases i with
          | zero => rfl
          | succ i =>
            simp only [List.getElem?_cons_succ] at h
            rcases startE_get h with ⟨t', _, rfl⟩ | rfl <;> cases ho
        exact absurd ((z i t h1 o1).trans (z j u h2 o2).symm) hij
    refine ⟨_, hb, _, F0, sr, ?_⟩
    unfold makeF at q
    rw [if_pos (decide_eq_true (by omega))] at q
    cases ev : evSs Φ n f.body (Sl.ob c [] [] :: startE (f.names.length - 1) ts) with
    | nx ρ =>
      simp only [ev] at q
      intro σ H' F' S _
      cases e1 : ρ[0]? with
      | none => simp only [e1] at q; exact q.elim
      | some sl =>
        simp only [e1] at q
        cases sl with
        | ob c2 ns us =>
          obtain ⟨a2, dx2, xs, g1, g2, g3, g4, ⟨_, g5⟩, g6⟩ := S.ob e1
          have g5 : a2 = x := g5
          subst g5
          exact q H' _ (S.wd.gr.frz (if_pos rfl) g2 g4) (.ins upd_same g3 (g6.mono (same_upd g4))) trivial
        | _ => exact q.elim
    | bk ρ => simp only [ev] at q; exact q.elim
    | rt x => simp only [ev] at q; exact q.elim
    | ex c fs ρ =>
      simp only [ev] at q
      exact fun σ H' F' cls d S _ er => q H' F' cls d S.wd.gr er
    | no => simp only [ev] at q; exact q.elim
end
end Lr

set_option Elab.async false
set_option linter.all false
set_option maxRecDepth 100000
set_option maxHeartbeats 1000000
set_option autoImplicit false
/-! SndL: a law's table of defs; the head's hook; the end. -/
namespace Lr
open PySem PySem.Spec PyProof.Rows L2
inductive Ent where
  | fn (x : String) (f : Fn) (d : He.DefD) (ht : Bool := false)
  | cl (c : String) (f : Fn) (d : He.DefD)
def Ent.d : Ent → He.DefD
  | .fn _ _ d _ => d
  | .cl _ _ d => d
def feT (Φ : Fe) (n : Nat) : List Ent → Fe
  | [] => Φ
  | .fn x f _ ht :: r => { feT Φ n r with fn := fun y => if y = x then some (callF (feT Φ n r) n f) else (feT Φ n r).fn y, hfn := fun y => if y = x then (if ht then some (callF (feT Φ n r).hot n f) else none) else (feT Φ n r).hfn y }
  | .cl x f _ :: r => { feT Φ n r with cs := fun y => if y = x then some (makeF (feT Φ n r) n x f) else (feT Φ n r).cs y }
/-- an entry's form -/
def EntOk : Ent → Prop
  | .fn x f d ht => RowOk f d ∧ d.at_ = (Str.ofString x, none) ∧ (ht = true → okSs false f.N d.scope f.body (posB d.body).cs = true)
  | .cl c f d => RowOk f d ∧ d.at_ = (Str.ofString c, some (Str.ofString "__init__")) ∧ 0 < f.arity
/-- what else a law leans on: classes with fields, isinstance's answers, constants -/
structure Ex where
  cs : List (String × List String)
  isl : List (Cl × Cl × Bool)
  ks : List (String × Int)
  es : List String := []
  exl : List (String × String × Bool) := []
  en : List String := []
  ss : List (String × String) := []
def isL (d c : Cl) : List (Cl × Cl × Bool) → Option Bool
  | [] => none
  | (d', c', b) :: r => if d = d' ∧ c = c' then some b else isL d c r
def exL (d c : String) : List (String × String × Bool) → Option Bool
  | [] => none
  | (d', c', b) :: r => if d = d' ∧ c = c' then some b else exL d c r
def Ex.fe (x : Ex) : Fe where
  fn := fun _ => none
  hfn := fun _ => none
  exm := fun d c => exL d c x.exl
  cs := fun _ => none
  glb := fun n => match x.ks.lookup n with
    | some i => .ok (.v (.int i))
    | none => match x.ss.lookup n with
      | some z => .ok (.v (.str (Str.ofString z)))
      | none => .no
  isa := fun d c => isL d c x.isl
  cn := fun n => (x.cs.lookup n).isSome || x.en.contains n
  rm := fun n => x.es.contains n
  r1 := fun _ => false
  fok := fun c f => match x.cs.lookup c with
    | some fs => fs.contains f
    | none => false
def gK (K : PySem.W.Frag) : Gx := ⟨K, fun c => He.ga K (Str.ofString c), fun _ => none⟩
def entFa : Ent → List He.Fa
  | .fn x _ _ _ => [.glo (Str.ofString x)]
  | .cl c _ _ => [.glo (Str.ofString c), .mkr (Str.ofString c)]
def csFa (p : String × List String) : List He.Fa := .glo (Str.ofString p.1) :: .cls (Str.ofString p.1) :: p.2.map fun f => .noat (Str.ofString p.1) (Str.ofString f)
def faT (es : List Ent) (x : Ex) : List He.Fa := es.flatMap entFa ++ x.cs.flatMap csFa ++ (x.es ++ x.en).map (fun n => .glo (Str.ofString n)) ++ FR.map (fun f => .free (Str.ofString f)) ++ x.ks.map (fun p => .int (Str.ofString p.1) p.2) ++ x.ss.map fun p => .str (Str.ofString p.1) (Str.ofString p.2)
def fnT (es : List Ent) : List He.DefD := es.map Ent.d
def insB (K : PySem.W.Frag) (C : Addr) : Bool := He.eqO (PySem.W.findIn K (.ref C) "__class__") (some (some (.builtin "object.__class__"))) && He.eqO (PySem.W.specialIn K (.builtin "object.__class__") "__get__") (some (some (.builtin "getset_descriptor.__get__"))) &&
  decide (PySem.W.takesIn K (.builtin "object.__class__") = some true) && decide (PySem.W.mroIn K C (.type "object") = some true)
def noneB (o : Option (Option Value)) : Bool := match o with
  | some none => true
  | _ => false
theorem noneB_ok {o : Option (Option Value)} (h : noneB o = true) : o = some none := by
  unfold noneB at h
  split at h
  · rfl
  · cases h
/-- an exception's class -/
def excB (K : PySem.W.Frag) (C : Addr) : Bool := He.eqO (PySem.W.findIn K (.ref C) "__getattribute__") (some (some (.builtin "BaseException.__getattribute__"))) && noneB (PySem.W.findIn K (.ref C) "__getattr__") && decide (PySem.W.subIn K (.ref C) (.type "BaseException") = some true) &&
  PySem.W.hasDictIn K C && insB K C && PySem.W.excIn K C [.type "ValueError", .type "Exception", .type "BaseException", .type "object"] "ValueError.__new__" && PySem.W.keepIn K (.ref C) && He.eqO ((PySem.W.typeIn K (.ref C)).map some) (some (some (.type "type")))
theorem excB_ok {K : PySem.W.Frag} {C : Addr} (h : excB K C = true) : ErrK K C := by
  unfold excB insB at h
  simp only [Bool.and_eq_true, decide_eq_true_eq] at h
  obtain ⟨⟨⟨⟨⟨⟨⟨h1, h2⟩, h3⟩, h4⟩, ⟨⟨h5, h6⟩, h7⟩, h8⟩, h9⟩, h10⟩, h11⟩ := h
  refine ⟨⟨He.eqO_ok h1, noneB_ok h2, h3, h4, He.eqO_ok h5, He.eqO_ok h6, h7, h8⟩, h9, h10, ?_⟩
  have z := He.eqO_ok h11
  cases e : PySem.W.typeIn K (.ref C) with
  | none => rw [e] at z; cases z
  | some v => rw [e] at z; cases z; rfl
def xfE (x : Ex) (K : PySem.W.Frag) : Bool := (x.es.all fun n => excB K (He.ga K (Str.ofString n))) && (x.isl.all fun (d, _, _) => match d with
  | .exn n => x.es.contains n
  | _ => true) && x.exl.all fun (d, c, b) => decide (PySem.W.exmOne K (.ref (He.ga K (Str.ofString d))) (.ref (He.ga K (Str.ofString c))) = some b) && x.en.contains c
def xfB (x : Ex) (K : PySem.W.Frag) : Bool := xfE x K && ((x.isl.all fun (d, c, b) => decide (PySem.W.kitOne K (clV (gK K) d) (clV (gK K) c) = some b) && (match d with
  | .own n => (x.cs.lookup n).isSome
  | _ => true)) && x.cs.all fun p => x.isl.isEmpty || insB K (He.ga K (Str.ofString p.1)))
/-! ### the hook: lists are left out -/
def isLst (o : Obj) : Bool := match o.cls with
  | .type n => n == "list"
  | _ => false
def frN (g : Addr → Option Obj) (as : List Addr) : PySem.W.Frag := (He.frG g as).filter fun p => !isLst p.2
theorem lookup_mem {α β : Type} [BEq α] [LawfulBEq α] {a : α} {b : β} : ∀ {l : List (α × β)}, l.lookup a = some b → (a, b) ∈ l
  | [], h => by cases h
  | (c, d) :: r, h => by
    rw [List.lookup_cons] at h
    cases e : a == c with
    | true =>
      rw [e] at h
      have := eq_of_beq e
      cases h
      subst this
      exact List.mem_cons_self ..
    | false =>
      rw [e] at h
      exact List.mem_cons_of_mem _ (lookup_mem h)
theorem frG_mem {g : Addr → Option Obj} {as : List Addr} {a : Addr} {o : Obj} (h : (a, o) ∈ He.frG g as) : g a = some o := by
  unfold He.frG at h
  obtain ⟨b, _, e⟩ := List.mem_filterMap.mp h
  cases q : g b with
  | none => rw [q] at e; cases e
  | some u => rw [q] at e; cases e; exact q
theorem frN_in {as : List Addr} {h : Heap} : (frN h.get? as).In h := fun a o e => frG_mem (List.mem_filter.mp (lookup_mem e)).1
def NoL (K : PySem.W.Frag) : Prop := ∀ a o, K.lookup a = some o → o.cls ≠ .type "list"
theorem frN_nol {g : Addr → Option Obj} {as : List Addr} : NoL (frN g as) := fun a o e z => by
  have := (List.mem_filter.mp (lookup_mem e)).2
  unfold isLst at this
  simp only [z] at this
  cases this
def obsN (es : List Ent) (x : Ex) (K : PySem.W.Frag) : He.AlD := (((faT es x).all fun f => f.ok K) && ((fnT es).all fun d => d.ok K) && xfB x K, (fnT es).map fun d => He.fnW K d.at_)
def SaysN (es : List Ent) (x : Ex) (K : PySem.W.Frag) : Prop := obsN es x K = He.valD (fnT es)
def hookN (n : Nat) (es : List Ent) (x : Ex) : PySem.W.Hook where
  α := He.AlD
  obs := fun s => obsN es x (frN s.heap.get? (He.asD s.heap.get? n))
  val := fun _ => He.valD (fnT es)
  says := fun _ h => ∃ K : PySem.W.Frag, K.In h ∧ NoL K ∧ SaysN es x K
  of := fun _ _ e => ⟨_, frN_in, frN_nol, e⟩
  keeps := fun _ _ _ ⟨K, hK, l, c⟩ k => ⟨K, PySem.W.Frag.In.keeps hK k, l, c⟩
def obN (n : Nat) (es : List Ent) (x : Ex) (s : PySem.W.SharedT) : He.AlD := obsN es x (frN (HandSHeadRun.getT s) (He.asD (HandSHeadRun.getT s) n))
theorem obN_eq {n : Nat} {es : List Ent} {x : Ex} (s : PySem.W.SharedT) : obN n es x s = (hookN n es x).obs s.abs := by
  have e : HandSHeadRun.getT s = s.abs.heap.get? := funext (HandSHeadRun.getT_eq s)
  unfold obN
  rw [e]
  rfl
section
variable {es : List Ent} {x : Ex} {K : PySem.W.Frag} {h : Heap} {mg : Str → Option Value}
theorem SaysN.fst (c : SaysN es x K) : ((faT es x).all fun f => f.ok K) = true ∧ ((fnT es).all fun d => d.ok K) = true ∧ xfB x K = true := by
  have e : (((faT es x).all fun f => f.ok K) && ((fnT es).all fun d => d.ok K) && xfB x K) = true := congrArg (fun z : He.AlD => z.1) c
  simp only [Bool.and_eq_true] at e
  exact ⟨e.1.1, e.1.2, e.2⟩
theorem SaysN.fact (c : SaysN es x K) {f : He.Fa} (hf : f ∈ faT es x) : f.ok K = true := List.all_eq_true.mp c.fst.1 f hf
theorem SaysN.d (c : SaysN es x K) : He.SaysD [] (fnT es) K := by
  have e1 := c.fst.2.1
  have e2 : (fnT es).map (fun d => He.fnW K d.at_) = (fnT es).map He.DefD.val := congrArg (fun z : He.AlD => z.2) c
  unfold He.SaysD He.obsD He.valD
  rw [e1, e2]
  rfl
theorem SaysN.def_ (c : SaysN es x K) {e : Ent} (he : e ∈ es) : ∃ fd, FunD K e.d.name e.d.qual e.d.params e.d.body e.d.scope (e.d.dvs K) (e.d.kws K) (He.fAd K e.d.at_) fd := by
  have hm : e.d ∈ fnT es := List.mem_map_of_mem he
  obtain ⟨i, hi, hx⟩ := List.mem_iff_getElem.mp hm
  exact c.d.def_ i (d := e.d) (by rw [List.getElem?_eq_getElem hi, hx])
theorem fa_ent {e : Ent} {f : He.Fa} (he : e ∈ es) (hf : f ∈ entFa e) : f ∈ faT es x := by
  unfold faT
  exact List.mem_append_left _ (List.mem_append_left _ (List.mem_append_left _ (List.mem_append_left _ (List.mem_append_left _ (List.mem_flatMap.mpr ⟨e, he, hf⟩)))))
theorem fa_cs {p : String × List String} {f : He.Fa} (he : p ∈ x.cs) (hf : f ∈ csFa p) : f ∈ faT es x := by
  unfold faT
  exact List.mem_append_left _ (List.mem_append_left _ (List.mem_append_left _ (List.mem_append_left _ (List.mem_append_right _ (List.mem_flatMap.mpr ⟨p, he, hf⟩)))))
theorem fa_es {n : String} (he : n ∈ x.es ++ x.en) : He.Fa.glo (Str.ofString n) ∈ faT es x := by
  unfold faT
  exact List.mem_append_left _ (List.mem_append_left _ (List.mem_append_left _ (List.mem_append_right _ (List.mem_map_of_mem (f := fun n => He.Fa.glo (Str.ofString n)) he))))
theorem exL_mem {d c : String} {b : Bool} : ∀ {l : List (String × String × Bool)}, exL d c l = some b → (d, c, b) ∈ l
  | [], h => by cases h
  | (d', c', b') :: r, h => by
    unfold exL at h
    split at h
    · rename_i z
      cases h
      rw [z.1, z.2]
      exact List.mem_cons_self ..
    · exact List.mem_cons_of_mem _ (exL_mem h)
theorem isL_mem {d c : Cl} {b : Bool} : ∀ {l : List (Cl × Cl × Bool)}, isL d c l = some b → (d, c, b) ∈ l
  | [], h => by cases h
  | (d', c', b') :: r, h => by
    unfold isL at h
    split at h
    · rename_i z
      cases h
      rw [z.1, z.2]
      exact List.mem_cons_self ..
    · exact List.mem_cons_of_mem _ (isL_mem h)
theorem wo0 {P : Program} {w : World} {base : Heap} (X : K.In h) (G : h.Ns mainGlobals mg) (c : SaysN es x K) : Wo P w (gK K) mg base x.fe (L2N.CX P w) 0 where
  free := fun f hf => He.free_ok X G (c.fact (by unfold faT; exact List.mem_append_left _ (List.mem_append_left _ (List.mem_append_right _ (List.mem_map_of_mem hf)))))
  glb := fun n v e => by
    unfold Ex.fe at e
    simp only at e
    cases q : x.ks.lookup n with
    | none =>
      rw [q] at e
      simp only at e
      cases q2 : x.ss.lookup n with
      | none => rw [q2] at e; cases e
      | some z =>
        rw [q2] at e
        cases e
        obtain ⟨t, ht⟩ := He.str_ok X G (c.fact (f := .str (Str.ofString n) (Str.ofString z)) (by unfold faT; exact List.mem_append_right _ (List.mem_map_of_mem (f := fun p : String × String => He.Fa.str (Str.ofString p.1) (Str.ofString p.2)) (lookup_mem q2))))
        exact ⟨.str (Str.ofString z), .str (Str.ofString z), _, rfl, ht, ⟨t, rfl⟩, fun F => .str _⟩
    | some i =>
      rw [q] at e
      cases e
      obtain ⟨t, ht⟩ := He.int_ok X G (c.fact (f := .int (Str.ofString n) i) (by unfold faT; exact List.mem_append_left _ (List.mem_append_right _ (List.mem_map_of_mem (f := fun p : String × Int => He.Fa.int (Str.ofString p.1) p.2) (lookup_mem q)))))
      exact ⟨.int i, .int i, _, rfl, ht, ⟨t, rfl⟩, fun F => .int i⟩
  glx := fun n => by
    unfold Ex.fe
    simp only
    cases x.ks.lookup n with
    | some i => trivial
    | none =>
      simp only
      cases x.ss.lookup n <;> trivial
  dfs := fun n f e => by cases e
  hfs := fun n f e => by cases e
  cls := fun n f e => by cases e
  isa := fun d q b e => by
    have hm := isL_mem (show isL d q x.isl = some b from e)
    have xf := c.fst.2.2
    unfold xfB xfE at xf
    simp only [Bool.and_eq_true] at xf
    obtain ⟨⟨⟨y1, y2⟩, y3⟩, xf⟩ := xf
    have x1 := List.all_eq_true.mp xf.1 _ hm
    simp only [Bool.and_eq_true, decide_eq_true_eq] at x1
    refine ⟨x1.1, fun n hn => ?_, fun n hn => ?_⟩
    · subst hn
      have x2 := x1.2
      simp only at x2
      obtain ⟨fs, hfs⟩ := Option.isSome_iff_exists.mp x2
      have hp := lookup_mem hfs
      have x3 := List.all_eq_true.mp xf.2 _ hp
      have ne : x.isl.isEmpty = false := by
        cases hl : x.isl with
        | nil => rw [hl] at hm; cases hm
        | cons _ _ => rfl
      rw [ne, Bool.false_or] at x3
      unfold insB at x3
      simp only [Bool.and_eq_true, decide_eq_true_eq] at x3
      exact ⟨He.cls_ok (c.fact (fa_cs hp (List.mem_cons_of_mem _ (List.mem_cons_self ..)))), He.eqO_ok x3.1.1.1, He.eqO_ok x3.1.1.2, x3.1.2, x3.2⟩
    · subst hn
      have z := List.all_eq_true.mp y2 _ hm
      simp only at z
      exact (excB_ok (List.all_eq_true.mp y1 n (List.contains_iff_mem.mp z))).ex
  exm := fun d q b e => by
    have hm := exL_mem (show exL d q x.exl = some b from e)
    have xf := c.fst.2.2
    unfold xfB xfE at xf
    simp only [Bool.and_eq_true] at xf
    obtain ⟨⟨⟨y1, y2⟩, y3⟩, xf⟩ := xf
    have z := List.all_eq_true.mp y3 _ hm
    simp only [Bool.and_eq_true, decide_eq_true_eq] at z
    exact ⟨z.1, He.glo_ok X G (c.fact (fa_es (List.mem_append_right _ (List.contains_iff_mem.mp z.2))))⟩
  r1f := fun _ => rfl
  ers := fun n e => by
    have hn := List.contains_iff_mem.mp (show x.es.contains n = true from e)
    have xf := c.fst.2.2
    unfold xfB xfE at xf
    simp only [Bool.and_eq_true] at xf
    obtain ⟨⟨⟨y1, y2⟩, y3⟩, xf⟩ := xf
    exact ⟨excB_ok (List.all_eq_true.mp y1 n hn), He.glo_ok X G (c.fact (fa_es (List.mem_append_left _ hn)))⟩
  np := fun _ => rfl
  cmg := fun n e => by
    have e : ((x.cs.lookup n).isSome || x.en.contains n) = true := e
    rw [Bool.or_eq_true] at e
    rcases e with e | e
    rotate_left
    · exact He.glo_ok X G (c.fact (fa_es (List.mem_append_right _ (List.contains_iff_mem.mp e))))
    obtain ⟨fs, hfs⟩ := Option.isSome_iff_exists.mp e
    exact He.glo_ok X G (c.fact (fa_cs (lookup_mem hfs) (List.mem_cons_self ..)))
  fok := fun n f e => by
    unfold Ex.fe at e
    simp only at e
    cases q : x.cs.lookup n with
    | none => rw [q] at e; cases e
    | some fs =>
      rw [q] at e
      have hp := lookup_mem q
      refine ⟨He.cls_ok (c.fact (fa_cs hp (List.mem_cons_of_mem _ (List.mem_cons_self ..)))), He.noat_ok (c.fact (fa_cs hp (List.mem_cons_of_mem _ (List.mem_cons_of_mem _ ?_))))⟩
      exact List.mem_map_of_mem (f := fun f => He.Fa.noat (Str.ofString n) (Str.ofString f)) (List.contains_iff_mem.mp e)
/-- the table's defs keep their promises -/
theorem wo_of {P : Program} {w : World} {base : Heap} {n : Nat} (X : K.In h) (G : h.Ns mainGlobals mg) (c : SaysN es x K) (ok : ∀ e ∈ es, EntOk e) : ∀ (r : List Ent), (∀ e ∈ r, e ∈ es) → Wo P w (gK K) mg base (feT x.fe n r) (L2N.CX P w) (2 * r.length)
  | [], _ => wo0 X G c
  | .fn y f d ht :: r, hr => by
    have o := wo_of (P := P) (w := w) (base := base) (n := n) X G c ok r fun e he => hr e (List.mem_cons_of_mem _ he)
    have he := hr _ (List.mem_cons_self ..)
    obtain ⟨row, hat, hht⟩ := ok _ he
    obtain ⟨fd, F⟩ := c.def_ he
    have hat : (Ent.fn y f d ht).d.at_ = (Str.ofString y, none) := hat
    rw [hat] at F
    obtain ⟨F1, F2⟩ := row.fn (g := gK K) F o n
    have om := o.mono (k := 2 * (r.length + 1)) (by omega)
    refine ⟨om.free, om.glb, om.glx, fun y' h' e => ?_, fun y' h' e => ?_, om.cls, om.isa, om.exm, om.r1f, om.ers, om.np, om.cmg, om.fok⟩
    rotate_left
    · have e5 : (if y' = y then (if ht then some (callF (feT x.fe n r).hot n f) else none) else (feT x.fe n r).hfn y') = some h' := e
      by_cases hy : y' = y
      · rw [if_pos hy] at e5
        clear e
        subst hy
        cases ht with
        | false => cases e5
        | true =>
          have e6 := Option.some.inj e5
          subst e6
          refine ⟨_, fd, _, f.arity, _, row.fnP (g := gK K) (hht rfl) F o n, by simp only [List.length_cons]; omega, He.glo_ok X G (c.fact (fa_ent he (List.mem_cons_self ..))), F.kp, F2, fun ts ht => ?_⟩
          unfold callF
          rw [if_neg (by rw [decide_eq_true_eq]; exact ht)]
      · rw [if_neg hy] at e5
        exact om.hfs y' h' e5
    have e5 : (if y' = y then some (callF (feT x.fe n r) n f) else (feT x.fe n r).fn y') = some h' := e
    by_cases hy : y' = y
    · rw [if_pos hy] at e5
      clear e
      subst hy
      have e6 := Option.some.inj e5
      subst e6
      refine ⟨_, fd, _, f.arity, _, F1, by simp only [List.length_cons]; omega, He.glo_ok X G (c.fact (fa_ent he (List.mem_cons_self ..))), F.kp, F2, fun ts ht => ?_⟩
      unfold callF
      rw [if_neg (by rw [decide_eq_true_eq]; exact ht)]
    · rw [if_neg hy] at e5
      exact om.dfs y' h' e5
  | .cl y f d :: r, hr => by
    have o := wo_of (P := P) (w := w) (base := base) (n := n) X G c ok r fun e he => hr e (List.mem_cons_of_mem _ he)
    have he := hr _ (List.mem_cons_self ..)
    obtain ⟨row, hat, har⟩ := ok _ he
    obtain ⟨fd, F⟩ := c.def_ he
    have hat : (Ent.cl y f d).d.at_ = (Str.ofString y, some (Str.ofString "__init__")) := hat
    rw [hat] at F
    obtain ⟨F1, F2⟩ := row.init (g := gK K) (c := y) har F o n
    have om := o.mono (k := 2 * (r.length + 1)) (by omega)
    refine ⟨om.free, om.glb, om.glx, om.dfs, om.hfs, fun y' h' e => ?_, om.isa, om.exm, om.r1f, om.ers, om.np, om.cmg, om.fok⟩
    have e5 : (if y' = y then some (makeF (feT x.fe n r) n y f) else (feT x.fe n r).cs y') = some h' := e
    by_cases hy : y' = y
    · rw [if_pos hy] at e5
      clear e
      subst hy
      have e6 := Option.some.inj e5
      subst e6
      refine ⟨_, fd, _, f.arity - 1, _, He.mkr_ok (c.fact (fa_ent he (List.mem_cons_of_mem _ (List.mem_cons_self ..)))), F1, by simp only [List.length_cons]; omega, He.glo_ok X G (c.fact (fa_ent he (List.mem_cons_self ..))), F2, fun ts ht => ?_⟩
      unfold makeF
      rw [if_neg (by rw [decide_eq_true_eq]; omega)]
    · rw [if_neg hy] at e5
      exact om.cls y' h' e5
theorem fn_cx0 {P : Program} {w : World} {base : Heap} {k : Nat} {f : Addr} {fd : FuncData} {ps : List Str} {sp : Sp} (F : FnOk P w K mg base (L2N.CX P w) k f fd ps sp) : FnOk P w K mg base L2.CX0 k f fd ps (fun vs H Q _ => sp vs H Q (fun _ _ _ => False)) :=
  ⟨fun vs H Q E h => F.len vs H Q _ h, fun A outer s H args us vs Q E hr e0 hb r h => codeAny_mono (F.run A outer s H args us vs Q _ hr e0 hb r h) fun r s' hq => by
    cases r with
    | error e => exact (cx_false hq).elim
    | ok fl => cases fl <;> exact hq⟩
/-- the end -/
theorem law_end {P : Program} {f : Fn} {d : He.DefD} {r : List Ent} {nm : Str} {n m k : Nat} (hes : es = .fn "law" f d false :: r) (ok : ∀ e ∈ es, EntOk e) (hx : f.N.take f.arity = [nm]) (hk : 2 * r.length + 1 ≤ k)
    (law : ∀ ns : List Int, ns.length ≤ m → callF (feT x.fe n r) n f [.lst (ns.map .int)] = .ok (.v (.bl true))) :
    ∀ (w : World) (mg : Str → Option Value) (fa : Addr) (h : Heap), (∃ K : PySem.W.Frag, K.In h ∧ NoL K ∧ SaysN es x K) → h.Ns mainGlobals mg → mg (Str.ofString "law") = some (.ref fa) →
      ∃ (K : PySem.W.Frag) (fd : FuncData) (sp : Sp), K.In h ∧ (∀ (s : Shared) (u : Value), BindsTo s fd ⟨[u], []⟩ [(nm, u)]) ∧
        (∀ (H : Hp) (a : Addr) (ns : List Int), ns.length ≤ m → Only H → SqL K H a (ns.map V.int) → sp [.ref a] H (fun v _ => v = .bl true) fun _ _ _ => False) ∧
        ∀ base : Heap, K.In base → base.Ns mainGlobals mg → FnOk P w K mg base L2.CX0 k fa fd [nm] sp := by
  intro w mg fa h ⟨K, X, nl, c⟩ G hmg
  have he : Ent.fn "law" f d false ∈ es := by rw [hes]; exact List.mem_cons_self ..
  obtain ⟨row, hat, _⟩ := ok _ he
  obtain ⟨fd, F⟩ := c.def_ he
  have hat : (Ent.fn "law" f d false).d.at_ = (Str.ofString "law", none) := hat
  rw [hat] at F
  have g1 := He.glo_ok X G (c.fact (fa_ent (x := x) he (List.mem_cons_self ..)))
  have ea : fa = He.ga K (Str.ofString "law") := by
    rw [hmg] at g1
    injection g1 with z
    injection z
  subst ea
  have hd : d.dvs K = [] := by unfold He.DefD.dvs; rw [row.dfl.1]; rfl
  have F' : FunD K d.name d.qual d.params d.body d.scope [] (d.kws K) (He.ga K (Str.ofString "law")) fd := by
    rw [← hd]
    exact F
  have har : f.arity = 1 := by
    have := congrArg List.length hx
    rw [List.length_take] at this
    have := row.ar
    simp only [List.length_cons, List.length_nil] at *
    omega
  have bd := row.bd
  rw [hx] at bd
  have b := FunD.bindsA (ps := [nm]) F' bd
  refine ⟨K, fd, fun vs H Q _ => spF (gK K) f.arity (callF (feT x.fe n r) n f) vs H Q (fun _ _ _ => False), X, fun s u => b s [u] rfl, fun H a ns hl hO hS => ?_, fun base _ _ => ?_⟩
  · rcases hS with hS | ⟨o, its, n2, hk2, hc, _⟩
    · refine ⟨H, [.lst (ns.map .int)], Same.refl _, .one (.lst hS .ofInts), har.symm, ?_⟩
      rw [law ns hl]
      intro v H' F2 gr rv nv
      cases rv
      rfl
    · exact (nl a o hk2 hc).elim
  · have o := wo_of (P := P) (w := w) (base := base) (n := n) X G c ok r fun e he => by rw [hes]; exact List.mem_cons_of_mem _ he
    have F1 := (row.fn (g := gK K) F o n).1
    rw [hx] at F1
    exact (fn_cx0 F1).mono hk
end
end Lr

set_option Elab.async false
set_option linter.all false
set_option maxRecDepth 100000
set_option maxHeartbeats 1000000
set_option autoImplicit false
/-! Pure: what helps to compute in the evaluator. -/
namespace Lr
open PySem PySem.Spec PyProof.Rows L2
/-- the k-th number of the script, or nought -/
def cel (ns : List Int) (k : Int) : Int := ns.getD k.toNat 0
theorem atI_nn {α : Type} {xs : List α} {k : Int} (h0 : 0 ≤ k) (h : k < xs.length) : atI xs k = xs[k.toNat]? := by
  unfold atI ixN
  rw [if_pos h0, if_pos h]
  rfl
/-- a loop by a word of the turn -/
theorem forGo_rel {tgt : T → Env → Option Env} {body : Env → Out} (P : Nat → Env → Prop) : ∀ (us : List T) (i : Nat) (ρ : Env), P i ρ → (∀ j u ρ, us[j]? = some u → P (i + j) ρ → ∃ ρ1 ρ2, tgt u ρ = some ρ1 ∧ body ρ1 = .nx ρ2 ∧ P (i + j + 1) ρ2) →
    ∃ ρ', forGo tgt body us ρ = .nx ρ' ∧ P (i + us.length) ρ'
  | [], i, ρ, h, _ => ⟨ρ, rfl, h⟩
  | u :: us, i, ρ, h, hs => by
    obtain ⟨ρ1, ρ2, h1, h2, h3⟩ := hs 0 u ρ rfl h
    obtain ⟨ρ', h4, h5⟩ := forGo_rel P us (i + 1) ρ2 h3 fun j v ρ hv hp => by
      have := hs (j + 1) v ρ (by simpa using hv) (by rw [show i + (j + 1) = i + 1 + j by omega]; exact hp)
      rw [show i + 1 + j + 1 = i + (j + 1) + 1 by omega]
      exact this
    refine ⟨ρ', ?_, by rw [List.length_cons, show i + (us.length + 1) = i + 1 + us.length by omega]; exact h5⟩
    unfold forGo
    simp only [h1, h2]
    exact h4
/-- one turn -/
def turn (t : Tg) (body : Env → Out) (u : T) (ρ : Env) : Out := match bindTg t (.v u) ρ with
  | some ρ1 => body ρ1
  | none => .no
theorem forGo_inv {t : Tg} {body : Env → Out} (P : Nat → Env → Prop) (us : List T) (ρ : Env) (h : P 0 ρ) (hs : ∀ j u ρ, us[j]? = some u → P j ρ → ∃ ρ2, turn t body u ρ = .nx ρ2 ∧ P (j + 1) ρ2) :
    ∃ ρ', forGo (fun u => bindTg t (.v u)) body us ρ = .nx ρ' ∧ P us.length ρ' := by
  have := forGo_rel (tgt := fun u => bindTg t (.v u)) (body := body) P us 0 ρ h fun j u ρ hu hp => by
    rw [Nat.zero_add] at hp ⊢
    obtain ⟨ρ2, h1, h2⟩ := hs j u ρ hu hp
    unfold turn at h1
    cases e : bindTg t (.v u) ρ with
    | none => rw [e] at h1; cases h1
    | some ρ1 => rw [e] at h1; exact ⟨ρ1, ρ2, rfl, h1, h2⟩
  rw [Nat.zero_add] at this
  exact this
/-- .. that may leave at some turn: the first at which q holds of the turn's number -/
theorem forGo_leave {t : Tg} {body : Env → Out} (P : Nat → Env → Prop) (x : Nat → Val) (q : Nat → Bool) : ∀ (us : List T) (i : Nat) (ρ : Env), P i ρ →
    (∀ j u ρ, us[j]? = some u → P (i + j) ρ → if q (i + j) = true then turn t body u ρ = .rt (x (i + j)) else ∃ ρ2, turn t body u ρ = .nx ρ2 ∧ P (i + j + 1) ρ2) →
    (∃ j, j < us.length ∧ q (i + j) = true ∧ (∀ l, l < j → q (i + l) = false) ∧ forGo (fun u => bindTg t (.v u)) body us ρ = .rt (x (i + j))) ∨
      ((∀ l, l < us.length → q (i + l) = false) ∧ ∃ ρ', forGo (fun u => bindTg t (.v u)) body us ρ = .nx ρ' ∧ P (i + us.length) ρ')
  | [], i, ρ, h, _ => .inr ⟨fun l hl => by simp at hl, ρ, rfl, h⟩
  | u :: us, i, ρ, h, hs => by
    have h0 := hs 0 u ρ rfl h
    rw [Nat.add_zero] at h0
    by_cases hq : q i = true
    · rw [if_pos hq] at h0
      refine .inl ⟨0, by simp, by simpa using hq, fun l hl => by omega, ?_⟩
      unfold turn at h0
      unfold forGo
      cases e : bindTg t (.v u) ρ with
      | none => rw [e] at h0; cases h0
      | some ρ1 => rw [e] at h0; simp only [e, h0, Nat.add_zero]
    · rw [if_neg hq] at h0
      obtain ⟨ρ2, h1, h2⟩ := h0
      have step : forGo (fun u => bindTg t (.v u)) body (u :: us) ρ = forGo (fun u => bindTg t (.v u)) body us ρ2 := by
        unfold turn at h1
        rw [forGo]
        cases e : bindTg t (.v u) ρ with
        | none => rw [e] at h1; cases h1
        | some ρ1 => rw [e] at h1; simp only [e, h1]
      rw [step]
      have qf : q i = false := by simpa using hq
      rcases forGo_leave P x q us (i + 1) ρ2 h2 fun j v ρ hv hp => by
          have := hs (j + 1) v ρ (by simpa using hv) (by rw [show i + (j + 1) = i + 1 + j by omega]; exact hp)
          rw [show i + (j + 1) = i + 1 + j by omega] at this
          exact this with ⟨j, hj, h3, h4, h5⟩ | ⟨h3, ρ', h4, h5⟩
      · refine .inl ⟨j + 1, by simpa using hj, by rw [show i + (j + 1) = i + 1 + j by omega]; exact h3, fun l hl => ?_, by rw [show i + (j + 1) = i + 1 + j by omega]; exact h5⟩
        cases l with
        | zero => exact qf
        | succ l => rw [show i + (l + 1) = i + 1 + l by omega]; exact h4 l (by omega)
      · refine .inr ⟨fun l hl => ?_, ρ', h4, by rw [List.length_cons, show i + (us.length + 1) = i + 1 + us.length by omega]; exact h5⟩
        cases l with
        | zero => exact qf
        | succ l => rw [show i + (l + 1) = i + 1 + l by omega]; exact h3 l (by simpa using hl)
/-- a comprehension without tests -/
theorem lcGo_map {tgt : T → Option Env} {test : Env → R Bool} {elt : Env → R Val} (f : T → T) : ∀ (us acc : List T), (∀ u ∈ us, ∃ ρ x, tgt u = some ρ ∧ test ρ = .ok true ∧ elt ρ = .ok x ∧ x.t? = some (f u)) → acc.length + us.length ≤ sizeLine →
    lcGo tgt test elt us acc = .ok (.l true (acc ++ us.map f))
  | [], acc, _, _ => by rw [List.map_nil, List.append_nil]; rfl
  | u :: us, acc, h, hl => by
    obtain ⟨ρ, x, h1, h2, h3, h4⟩ := h u (List.mem_cons_self ..)
    unfold lcGo
    have hlt : acc.length < sizeLine := by simp only [List.length_cons] at hl; omega
    simp only [h1, h2, R.nx_ok, R.bind_ok, if_true, h3, h4, hlt, decide_true]
    rw [lcGo_map f us (acc ++ [f u]) (fun v hv => h v (List.mem_cons_of_mem _ hv)) (by simp only [List.length_append, List.length_cons, List.length_nil] at hl ⊢; omega)]
    simp
/-! the evaluator's steps, one by one -/
section
variable (Φ : Fe) (W : Nat) (ρ : Env)
def lcT (Φ : Fe) (elt : E) (tg : Tg) (cs : Es) (ρ : Env) (us : List T) : R Val := lcGo (fun u => bindTg tg (.v u) ρ) (evCs Φ cs) (evE Φ elt) us []
def forT (Φ : Fe) (W : Nat) (t : Tg) (b : Ss) (us : List T) (ρ : Env) : Out := forGo (fun u => bindTg t (.v u)) (evSs Φ W b) us ρ
theorem x_v (i : Nat) : evE Φ (.v i) ρ = rd ρ i := by rw [evE]
theorem x_int (i : Int) : evE Φ (.int i) ρ = .ok (.v (.int i)) := by rw [evE]
theorem x_str (i : String) : evE Φ (.str i) ρ = .ok (.v (.str (Str.ofString i))) := by rw [evE]
theorem x_bl (i : Bool) : evE Φ (.bl i) ρ = .ok (.v (.bl i)) := by rw [evE]
theorem x_non : evE Φ .non ρ = .ok (.v .non) := by rw [evE]
theorem x_glb (x : String) : evE Φ (.glb x) ρ = Φ.glb x := by rw [evE]
theorem x_bin (op : Operator) (a b : E) : evE Φ (.bin op a b) ρ = (evE Φ a ρ).bind fun x => (evE Φ b ρ).bind fun y => binV op x y := by rw [evE]
theorem x_neg (a : E) : evE Φ (.neg a) ρ = (evE Φ a ρ).bind fun x => (asI x).bind fun i => .ok (.v (.int (-i))) := by rw [evE]
theorem x_not (a : E) : evE Φ (.not a) ρ = (evE Φ a ρ).bind fun x => (asB x).bind fun b => .ok (.v (.bl (!b))) := by rw [evE]
theorem x_and (a : E) (r : Es) : evE Φ (.and a r) ρ = (evE Φ a ρ).bind fun x => (asB x).bind fun b => if b then evAnd Φ r ρ else .ok (.v (.bl false)) := by rw [evE]
theorem x_or (a : E) (r : Es) : evE Φ (.or a r) ρ = (evE Φ a ρ).bind fun x => (asB x).bind fun b => if b then .ok (.v (.bl true)) else evOr Φ r ρ := by rw [evE]
theorem x_cmp (op : CmpOp) (a b : E) : evE Φ (.cmp op a b) ρ = (evE Φ a ρ).bind fun x => (evE Φ b ρ).bind fun y => (cmpV op x y).bind fun k => .ok (.v (.bl k)) := by rw [evE]
theorem x_ite (c a b : E) : evE Φ (.ite c a b) ρ = (evE Φ c ρ).bind fun x => (asB x).bind fun k => if k then (evE Φ a ρ).bind valT else (evE Φ b ρ).bind valT := by rw [evE]
theorem x_tup (es : Es) : evE Φ (.tup es) ρ = (evEs Φ es ρ).bind fun xs => (match keeps? xs with
    | some ts => if fitsL ts.length then .ok (.v (.tup ts)) else .no
    | none => .no) := by rw [evE] <;> rfl
theorem x_lst (es : Es) : evE Φ (.lst es) ρ = (evEs Φ es ρ).bind fun xs => (match keeps? xs with
    | some ts => if fitsL ts.length then .ok (.l true ts) else .no
    | none => .no) := by rw [evE] <;> rfl
theorem x_call (f : String) (es : Es) : evE Φ (.call f es) ρ = (match Φ.fn f with
    | some h => (evEs Φ es ρ).bind fun xs => callV h xs
    | none => .no) := by rw [evE] <;> rfl
theorem x_mk (f : String) (es : Es) : evE Φ (.mk f es) ρ = (match Φ.cs f with
    | some h => (evEs Φ es ρ).bind fun xs => callV h xs
    | none => .no) := by rw [evE] <;> rfl
theorem x_bi (f : String) (es : Es) : evE Φ (.bi f es) ρ = (evEs Φ es ρ).bind fun xs => biV f xs := by rw [evE]
theorem x_ty (f : String) (es : Es) : evE Φ (.ty f es) ρ = (evEs Φ es ρ).bind fun xs => tyV f xs := by rw [evE]
theorem x_isiT (e : E) (cs : List Cl) : evE Φ (.isiT e cs) ρ = if cs.all (Cl.known Φ) then (evE Φ e ρ).bind fun x => (match x.cl? with
    | some d => (match isaAny Φ d cs with
      | some b => .ok (.v (.bl b))
      | none => .no)
    | none => .no) else .no := by rw [evE] <;> rfl
theorem x_isi (e : E) (c : Cl) : evE Φ (.isi e c) ρ = if c.known Φ then (evE Φ e ρ).bind fun x => (match x.cl? with
    | some d => (match Φ.isa d c with
      | some b => .ok (.v (.bl b))
      | none => .no)
    | none => .no) else .no := by rw [evE] <;> rfl
theorem x_me (m : String) (o : E) (es : Es) : evE Φ (.me m o es) ρ = (evE Φ o ρ).bind fun x => if meTy m x then (evEs Φ es ρ).bind fun xs => meV m x xs else .no := by rw [evE]
theorem x_fld (o : E) (f : String) : evE Φ (.fld o f) ρ = (evE Φ o ρ).bind fun x => (match x with
    | .v (.ins c ns ts) => if Φ.fok c f then R.of (((ns.zip ts).lookup (Str.ofString f)).map .v) else .no
    | .ob c ns ts => if Φ.fok c f then R.of (((ns.zip ts).lookup (Str.ofString f)).map .v) else .no
    | _ => .no) := by rw [evE] <;> rfl
theorem x_ix (a b : E) : evE Φ (.ix a b) ρ = (evE Φ a ρ).bind fun x => (evE Φ b ρ).bind fun y => ixV x y := by rw [evE]
theorem x_sl (a : E) (lo hi : Eo) : evE Φ (.sl a lo hi) ρ = (evE Φ a ρ).bind fun x => (evEo Φ lo ρ).bind fun l => (evEo Φ hi ρ).bind fun h => slV x l h := by rw [evE]
theorem x_dk : evE Φ .dk ρ = .ok (.dk true []) := by rw [evE]
theorem x_dt : evE Φ .dt ρ = .ok (.dt true []) := by rw [evE]
theorem x_lc (elt : E) (tg : Tg) (it : It) (cs : Es) (sc : Scope) (own : List Nat) : evE Φ (.lc elt tg it cs sc own) ρ = (evIt Φ false it ρ).bind fun us => lcT Φ elt tg cs (wipeE own ρ) us := by rw [evE] <;> rfl
theorem x_e0 : evEs Φ .nil ρ = .ok [] := by rw [evEs]
theorem x_e1 (e : E) (es : Es) : evEs Φ (.cons e es) ρ = (evE Φ e ρ).bind fun x => (evEs Φ es ρ).bind fun xs => .ok (x :: xs) := by rw [evEs]
theorem x_a0 : evAnd Φ .nil ρ = .ok (.v (.bl true)) := by rw [evAnd]
theorem x_a1 (e : E) (es : Es) : evAnd Φ (.cons e es) ρ = (evE Φ e ρ).bind fun x => (asB x).bind fun b => if b then evAnd Φ es ρ else .ok (.v (.bl false)) := by rw [evAnd]
theorem x_o0 : evOr Φ .nil ρ = .ok (.v (.bl false)) := by rw [evOr]
theorem x_o1 (e : E) (es : Es) : evOr Φ (.cons e es) ρ = (evE Φ e ρ).bind fun x => (asB x).bind fun b => if b then .ok (.v (.bl true)) else evOr Φ es ρ := by rw [evOr]
theorem x_eo0 : evEo Φ .no ρ = .ok none := by rw [evEo]
theorem x_eo1 (e : E) : evEo Φ (.so e) ρ = (evE Φ e ρ).bind fun x => (asI x).bind fun i => .ok (some i) := by rw [evEo]
theorem y_asg (z : List Nat) (t : Tg) (e : E) : evS Φ W (.asg z t e) ρ = (evE Φ e (frz z ρ)).out (frz z ρ) fun x => (match bindTg t x (frz z ρ) with
    | some ρ' => .nx ρ'
    | none => .no) := by rw [evS] <;> rfl
theorem y_ex (e : E) : evS Φ W (.ex e) ρ = (evE Φ e ρ).out ρ fun _ => .nx ρ := by rw [evS]
theorem y_ret (z : List Nat) (e : E) : evS Φ W (.ret z e) ρ = (evE Φ e (frz z ρ)).out (frz z ρ) fun x => (match x with
    | .l true ts => .rt (.l true ts)
    | x => (match x.t? with
      | some t => .rt (.v t)
      | none => .no)) := by rw [evS] <;> rfl
theorem y_retv (i : Nat) : evS Φ W (.retv i) ρ = (rd ρ i).out ρ fun x => (match x with
    | .l _ ts => .rt (.l true ts)
    | .v t => .rt (.v t)
    | .dk _ ts => .rt (.dk true ts)
    | _ => .no) := by rw [evS] <;> rfl
theorem y_retN : evS Φ W .retN ρ = .rt (.v .non) := by rw [evS]
theorem y_ife (c : E) (a b : Ss) : evS Φ W (.ife c a b) ρ = (evE Φ c ρ).out ρ fun x => (asB x).out ρ fun k => if k then evSs Φ W a ρ else evSs Φ W b ρ := by rw [evS]
theorem y_for (z : List Nat) (t : Tg) (it : It) (b : Ss) : evS Φ W (.forr z t it b) ρ = (evIt Φ true it (frz z ρ)).out (frz z ρ) fun us => forT Φ W t b us (frz z ρ) := by rw [evS] <;> rfl
theorem y_mut (m : String) (z : List Nat) (i : Nat) (es : Es) : evS Φ W (.mut m z i es) ρ = (match (frz z ρ)[i]? with
    | some (.ow ts) => (evEs Φ es (frz z ρ)).out (frz z ρ) fun xs => (match keeps? xs with
      | some us => (muV (muN m es) ts us).out (frz z ρ) fun ts' => setSl (frz z ρ) i (.ow ts')
      | none => .no)
    | _ => .no) := by rw [evS] <;> rfl
theorem y_aug (i : Nat) (op : Operator) (e : E) : evS Φ W (.aug i op e) ρ = (rd ρ i).out ρ fun x => (evE Φ e ρ).out ρ fun y => (match x, y with
    | .v (.int a), .v (.int b) => augV op a b ρ i
    | _, _ => .no) := by rw [evS] <;> rfl
theorem y_seti (z : List Nat) (i : Nat) (k e : E) : evS Φ W (.seti z i k e) ρ = (match (frz z ρ)[i]? with
    | some (.ow ts) => (evE Φ e (frz z ρ)).out (frz z ρ) fun x => (evE Φ k (frz z ρ)).out (frz z ρ) fun y => (match x.t? with
      | some t => (asI y).out (frz z ρ) fun j => (match ixN ts.length j with
        | some n => setSl (frz z ρ) i (.ow (ts.set n t))
        | none => .no)
      | none => .no)
    | some (.dk kvs) => (evE Φ e (frz z ρ)).out (frz z ρ) fun x => (evE Φ k (frz z ρ)).out (frz z ρ) fun y => (match x.t?, y with
      | some t, .v u => (match u.key? with
        | some q => if decide (kvs.length < sizeLine) then setSl (frz z ρ) i (.dk (kPut kvs q t)) else .no
        | none => .no)
      | _, _ => .no)
    | some (.dt kvs) => (evE Φ e (frz z ρ)).out (frz z ρ) fun x => (evE Φ k (frz z ρ)).out (frz z ρ) fun y => (match x.t?, y with
      | some t, .v u => (match u.keyT? with
        | some q => if decide (kvs.length < sizeLine) then setSl (frz z ρ) i (.dt (ktPut kvs q t)) else .no
        | none => .no)
      | _, _ => .no)
    | _ => .no) := by rw [evS] <;> rfl
theorem y_setf (z : List Nat) (i : Nat) (f : String) (e : E) : evS Φ W (.setf z i f e) ρ = (match (frz z ρ)[i]? with
    | some (.ob c ns ts) => if Φ.fok c f then (evE Φ e (frz z ρ)).out (frz z ρ) fun x => (match x.t? with
      | some t => if decide (ns.length < 900) then setSl (frz z ρ) i (.ob c (zipSet ns ts (Str.ofString f) t).1 (zipSet ns ts (Str.ofString f) t).2) else .no
      | none => .no) else .no
    | _ => .no) := by rw [evS] <;> rfl
theorem y_pass : evS Φ W .pass ρ = .nx ρ := by rw [evS]
theorem y_brk : evS Φ W .brk ρ = .bk ρ := by rw [evS]
theorem y_s0 : evSs Φ W .nil ρ = .nx ρ := by rw [evSs]
theorem y_s1 (s : S) (ss : Ss) : evSs Φ W (.cons s ss) ρ = (evS Φ W s ρ).andThen (evSs Φ W ss) := by rw [evSs]
end
theorem bnm (i : Nat) (x : Val) (ρ : Env) : bindTg (.nm i) x ρ = if decide (i < ρ.length) then (match x.sl? with
  | some s => some (ρ.set i s)
  | none => none) else none := by rw [bindTg] <;> (split <;> rfl)
theorem btu (ts : Tgs) (us : List T) (ρ : Env) : bindTg (.tup ts) (.v (.tup us)) ρ = bindTgs ts us ρ := by rw [bindTg]
theorem line_le {n : Nat} (h : n ≤ 1000000) : n ≤ sizeLine := Nat.le_trans h (by decide)
theorem line_lt {n : Nat} (h : n < 1000000) : n < sizeLine := Nat.lt_of_lt_of_le h (by decide)
theorem fits {n : Nat} (h : n ≤ 1000000) : fitsL n = true := decide_eq_true (line_le h)
/-- pairs of whole numbers -/
def tp (p : Int × Int) : T := .tup [.int p.1, .int p.2]
theorem dtp : ∀ l : List (Int × Int), datas (l.map tp) = some (l.map fun p => .tuple [.int p.1, .int p.2])
  | [] => rfl
  | p :: l => by
    rw [List.map_cons, datas, dtp l]
    rfl
def dp (p : Int × Int) : PyData := .tuple [.int p.1, .int p.2]
theorem dtp' (l : List (Int × Int)) : datas (l.map tp) = some (l.map dp) := dtp l
theorem lay_dp : ∀ l : List (Int × Int), PyData.canLayAll0 (l.map dp) = true
  | [] => rfl
  | p :: l => by
    rw [List.map_cons, PyData.canLayAll0, lay_dp l]
    rfl
theorem dep_dp : ∀ l : List (Int × Int), PyData.depthAll (l.map dp) ≤ 1
  | [] => Nat.zero_le _
  | p :: l => by
    rw [List.map_cons, PyData.depthAll]
    exact Nat.max_le.mpr ⟨Nat.le_refl 1, dep_dp l⟩
theorem shp (l : List (Int × Int)) : SeqAt.shaped (.list (l.map dp)) = true := by
  unfold SeqAt.shaped
  rw [PyData.canLay0, lay_dp l, PyData.depth]
  have := dep_dp l
  rw [Bool.true_and]
  exact decide_eq_true (by omega)
theorem shpT (l : List (Int × Int)) : SeqAt.shaped (.tuple (l.map dp)) = true := by
  unfold SeqAt.shaped
  rw [PyData.canLay0, lay_dp l, PyData.depth]
  have := dep_dp l
  rw [Bool.true_and]
  exact decide_eq_true (by omega)
theorem eqv_dp (p q : Int × Int) : PyData.eqv (dp p) (dp q) = decide (p = q) := by
  have h : ∀ a b : Int, (a == b) = decide (a = b) := fun a b => by
    by_cases h : a = b <;> simp [h]
  cases p with
  | mk a b =>
    cases q with
    | mk c d => simp [dp, PyData.eqv, PyData.eqvAll, h]
theorem eqv_dps : ∀ l m : List (Int × Int), PyData.eqvAll (l.map dp) (m.map dp) = decide (l = m)
  | [], [] => by simp [PyData.eqvAll]
  | [], _ :: _ => by simp [PyData.eqvAll]
  | _ :: _, [] => by simp [PyData.eqvAll]
  | p :: l, q :: m => by
    simp only [List.map_cons, PyData.eqvAll, eqv_dp, eqv_dps l m, List.cons.injEq]
    by_cases h1 : p = q <;> by_cases h2 : l = m <;> simp [h1, h2]
end Lr

set_option Elab.async false
set_option linter.all false
set_option maxRecDepth 100000
set_option maxHeartbeats 1000000
set_option autoImplicit false
/-! Sim: the evaluator's equations as rules of simp; loops. -/
namespace Lr
open PySem PySem.Spec PyProof.Rows L2
section
variable (Φ : Fe) (W : Nat) (ρ : Env)
@[simp] theorem s_v (i : Nat) : evE Φ (.v i) ρ = rd ρ i := x_v Φ ρ i
@[simp] theorem s_int (i : Int) : evE Φ (.int i) ρ = .ok (.v (.int i)) := x_int Φ ρ i
@[simp] theorem s_str (i : String) : evE Φ (.str i) ρ = .ok (.v (.str (Str.ofString i))) := x_str Φ ρ i
@[simp] theorem s_bl (i : Bool) : evE Φ (.bl i) ρ = .ok (.v (.bl i)) := x_bl Φ ρ i
@[simp] theorem s_non : evE Φ .non ρ = .ok (.v .non) := x_non Φ ρ
@[simp] theorem s_glb (x : String) : evE Φ (.glb x) ρ = Φ.glb x := x_glb Φ ρ x
@[simp] theorem s_bin (op : Operator) (a b : E) : evE Φ (.bin op a b) ρ = (evE Φ a ρ).bind fun x => (evE Φ b ρ).bind fun y => binV op x y := x_bin Φ ρ op a b
@[simp] theorem s_neg (a : E) : evE Φ (.neg a) ρ = (evE Φ a ρ).bind fun x => (asI x).bind fun i => .ok (.v (.int (-i))) := x_neg Φ ρ a
@[simp] theorem s_not (a : E) : evE Φ (.not a) ρ = (evE Φ a ρ).bind fun x => (asB x).bind fun b => .ok (.v (.bl (!b))) := x_not Φ ρ a
@[simp] theorem s_and (a : E) (r : Es) : evE Φ (.and a r) ρ = (evE Φ a ρ).bind fun x => (asB x).bind fun b => if b then evAnd Φ r ρ else .ok (.v (.bl false)) := x_and Φ ρ a r
@[simp] theorem s_or (a : E) (r : Es) : evE Φ (.or a r) ρ = (evE Φ a ρ).bind fun x => (asB x).bind fun b => if b then .ok (.v (.bl true)) else evOr Φ r ρ := x_or Φ ρ a r
@[simp] theorem s_cmp (op : CmpOp) (a b : E) : evE Φ (.cmp op a b) ρ = (evE Φ a ρ).bind fun x => (evE Φ b ρ).bind fun y => (cmpV op x y).bind fun k => .ok (.v (.bl k)) := x_cmp Φ ρ op a b
@[simp] theorem s_ite (c a b : E) : evE Φ (.ite c a b) ρ = (evE Φ c ρ).bind fun x => (asB x).bind fun k => if k then (evE Φ a ρ).bind valT else (evE Φ b ρ).bind valT := x_ite Φ ρ c a b
/-- what is kept, as a tuple, as a list -/
def tupR : Option (List T) → R Val
  | some ts => if fitsL ts.length then .ok (.v (.tup ts)) else .no
  | none => .no
def lstR : Option (List T) → R Val
  | some ts => if fitsL ts.length then .ok (.l true ts) else .no
  | none => .no
@[simp] theorem s_tup (es : Es) : evE Φ (.tup es) ρ = (evEs Φ es ρ).bind fun xs => tupR (keeps? xs) := by rw [x_tup]; rfl
@[simp] theorem s_lst (es : Es) : evE Φ (.lst es) ρ = (evEs Φ es ρ).bind fun xs => lstR (keeps? xs) := by rw [x_lst]; rfl
@[simp] theorem s_call (f : String) (es : Es) : evE Φ (.call f es) ρ = (match Φ.fn f with
    | some h => (evEs Φ es ρ).bind fun xs => callV h xs
    | none => .no) := x_call Φ ρ f es
@[simp] theorem s_mk (f : String) (es : Es) : evE Φ (.mk f es) ρ = (match Φ.cs f with
    | some h => (evEs Φ es ρ).bind fun xs => callV h xs
    | none => .no) := x_mk Φ ρ f es
@[simp] theorem s_bi (f : String) (es : Es) : evE Φ (.bi f es) ρ = (evEs Φ es ρ).bind fun xs => biV f xs := x_bi Φ ρ f es
@[simp] theorem s_ty (f : String) (es : Es) : evE Φ (.ty f es) ρ = (evEs Φ es ρ).bind fun xs => tyV f xs := x_ty Φ ρ f es
def isiTR (Φ : Fe) (cs : List Cl) (x : Val) : R Val := match x.cl? with
  | some d => (match isaAny Φ d cs with
    | some b => .ok (.v (.bl b))
    | none => .no)
  | none => .no
@[simp] theorem s_isiT (e : E) (cs : List Cl) : evE Φ (.isiT e cs) ρ = if cs.all (Cl.known Φ) then (evE Φ e ρ).bind fun x => isiTR Φ cs x else .no := by rw [x_isiT]; rfl
@[simp] theorem isaAny_nil (d : Cl) : isaAny Φ d [] = some false := (rfl)
@[simp] theorem isaAny_cons (d c : Cl) (r : List Cl) : isaAny Φ d (c :: r) = (match Φ.isa d c with
  | some true => some true
  | some false => isaAny Φ d r
  | none => none) := (rfl)
def isiR (Φ : Fe) (c : Cl) (x : Val) : R Val := match x.cl? with
  | some d => (match Φ.isa d c with
    | some b => .ok (.v (.bl b))
    | none => .no)
  | none => .no
@[simp] theorem s_isi (e : E) (c : Cl) : evE Φ (.isi e c) ρ = if c.known Φ then (evE Φ e ρ).bind fun x => isiR Φ c x else .no := by rw [x_isi]; rfl
@[simp] theorem s_me (m : String) (o : E) (es : Es) : evE Φ (.me m o es) ρ = (evE Φ o ρ).bind fun x => if meTy m x then (evEs Φ es ρ).bind fun xs => meV m x xs else .no := x_me Φ ρ m o es
def fldR (Φ : Fe) (f : String) : Val → R Val
  | .v (.ins c ns ts) => if Φ.fok c f then R.of (((ns.zip ts).lookup (Str.ofString f)).map .v) else .no
  | .ob c ns ts => if Φ.fok c f then R.of (((ns.zip ts).lookup (Str.ofString f)).map .v) else .no
  | _ => .no
@[simp] theorem s_fld (o : E) (f : String) : evE Φ (.fld o f) ρ = (evE Φ o ρ).bind fun x => fldR Φ f x := by rw [x_fld]; congr
@[simp] theorem s_ix (a b : E) : evE Φ (.ix a b) ρ = (evE Φ a ρ).bind fun x => (evE Φ b ρ).bind fun y => ixV x y := x_ix Φ ρ a b
@[simp] theorem s_sl (a : E) (lo hi : Eo) : evE Φ (.sl a lo hi) ρ = (evE Φ a ρ).bind fun x => (evEo Φ lo ρ).bind fun l => (evEo Φ hi ρ).bind fun h => slV x l h := x_sl Φ ρ a lo hi
def lrevR (x : Val) : R Val := match x.lst? with
  | some ts => .ok (.l true ts.reverse)
  | none => .no
def ssetR (x : Val) : R Val := match x.lst?.bind ints? with
  | some ns => if ns.length < 64 then .ok (.l true ((usort ns).map .int)) else .no
  | none => .no
def lsetR (x : Val) : R Val := match x.lst?.bind ints? with
  | some ns => if ns.length ≤ 4000 then .ok (.v (.int (usort ns).length)) else .no
  | none => .no
def srevR (x : Val) : R Val := match x.lst?.bind ints? with
  | some ns => .ok (.l true ((isort ns).reverse.map .int))
  | none => .no
@[simp] theorem s_cmp2 (op op2 : CmpOp) (a b c : E) : evE Φ (.cmp2 op op2 a b c) ρ = (evE Φ a ρ).bind fun x => (evE Φ b ρ).bind fun y => (cmpV op x y).bind fun k => if k then (evE Φ c ρ).bind fun z => (cmpV op2 y z).bind fun j => .ok (.v (.bl j)) else .ok (.v (.bl false)) := by rw [evE]
@[simp] theorem s_sset (e : E) : evE Φ (.sset e) ρ = (evE Φ e ρ).bind ssetR := by rw [evE]; rfl
@[simp] theorem s_lset (e : E) : evE Φ (.lset e) ρ = (evE Φ e ρ).bind lsetR := by rw [evE]; rfl
@[simp] theorem s_srev (e : E) : evE Φ (.srev e) ρ = (evE Φ e ρ).bind srevR := by rw [evE]; rfl
@[simp] theorem s_lrev (e : E) : evE Φ (.lrev e) ρ = (evE Φ e ρ).bind lrevR := by rw [evE]; rfl
@[simp] theorem s_dv (i : Nat) : evE Φ (.dv i) ρ = (rd ρ i).bind fun x => .ok x.nrm := by rw [evE]
def lkeysR (x : Val) : R Val := match x with
  | .dk _ kvs => (match kInts kvs with
    | some ns => .ok (.l true (ns.map .int))
    | none => .no)
  | _ => .no
def dofpR (x : Val) : R Val := match x.lst?.bind kvs? with
  | some kvs => .ok (.dk true (kvs.foldl (fun d p => kPut d p.1 p.2) []))
  | none => .no
def sl2R (lo : Nat) (x : Val) : R Val := match x.lst? with
  | some ts => .ok (.l true (alt (ts.drop lo)))
  | none => .no
@[simp] theorem s_lkeys (d : E) : evE Φ (.lkeys d) ρ = (evE Φ d ρ).bind lkeysR := by rw [evE]; rfl
@[simp] theorem s_dofp (e : E) : evE Φ (.dofp e) ρ = (evE Φ e ρ).bind dofpR := by rw [evE]; rfl
@[simp] theorem s_sl2 (a : E) (lo : Nat) : evE Φ (.sl2 a lo) ρ = (evE Φ a ρ).bind (sl2R lo) := by rw [evE]; rfl
@[simp] theorem s_dk : evE Φ .dk ρ = .ok (.dk true []) := x_dk Φ ρ
@[simp] theorem s_dt : evE Φ .dt ρ = .ok (.dt true []) := x_dt Φ ρ
/-- a comprehension from some turns on -/
def lcA (Φ : Fe) (elt : E) (tg : Tg) (cs : Es) (ρ : Env) (us acc : List T) : R Val := lcGo (fun u => bindTg tg (.v u) ρ) (evCs Φ cs) (evE Φ elt) us acc
@[simp] theorem s_lc (elt : E) (tg : Tg) (it : It) (cs : Es) (sc : Scope) (own : List Nat) : evE Φ (.lc elt tg it cs sc own) ρ = (evIt Φ false it ρ).bind fun us => lcA Φ elt tg cs (wipeE own ρ) us [] := x_lc Φ ρ elt tg it cs sc own
@[simp] theorem s_e0 : evEs Φ .nil ρ = .ok [] := x_e0 Φ ρ
@[simp] theorem s_e1 (e : E) (es : Es) : evEs Φ (.cons e es) ρ = (evE Φ e ρ).bind fun x => (evEs Φ es ρ).bind fun xs => .ok (x :: xs) := x_e1 Φ ρ e es
@[simp] theorem s_a0 : evAnd Φ .nil ρ = .ok (.v (.bl true)) := x_a0 Φ ρ
@[simp] theorem s_a1 (e : E) (es : Es) : evAnd Φ (.cons e es) ρ = (evE Φ e ρ).bind fun x => (asB x).bind fun b => if b then evAnd Φ es ρ else .ok (.v (.bl false)) := x_a1 Φ ρ e es
@[simp] theorem s_o0 : evOr Φ .nil ρ = .ok (.v (.bl false)) := x_o0 Φ ρ
@[simp] theorem s_o1 (e : E) (es : Es) : evOr Φ (.cons e es) ρ = (evE Φ e ρ).bind fun x => (asB x).bind fun b => if b then .ok (.v (.bl true)) else evOr Φ es ρ := x_o1 Φ ρ e es
@[simp] theorem s_c0 : evCs Φ .nil ρ = .ok true := by rw [evCs]
@[simp] theorem s_c1 (e : E) (es : Es) : evCs Φ (.cons e es) ρ = (evE Φ e ρ).bind fun x => (asB x).bind fun b => if b then evCs Φ es ρ else .ok false := by rw [evCs]
@[simp] theorem s_eo0 : evEo Φ .no ρ = .ok none := x_eo0 Φ ρ
@[simp] theorem s_eo1 (e : E) : evEo Φ (.so e) ρ = (evE Φ e ρ).bind fun x => (asI x).bind fun i => .ok (some i) := x_eo1 Φ ρ e
variable (fz : Bool)
@[simp] theorem s_seq (e : E) : evIt Φ fz (.seq e) ρ = (evE Φ e ρ).bind (itemsV fz) := by rw [evIt]
@[simp] theorem s_rg1 (a : E) : evIt Φ fz (.rg1 a) ρ = (evE Φ a ρ).bind fun x => (asI x).bind fun i => if rngOk 0 i then .ok (rng 0 i.toNat) else .no := by rw [evIt]
@[simp] theorem s_rg2 (a b : E) : evIt Φ fz (.rg2 a b) ρ = (evE Φ a ρ).bind fun x => (evE Φ b ρ).bind fun y => (asI x).bind fun i => (asI y).bind fun j => if rngOk i j then .ok (rng i (j - i).toNat) else .no := by rw [evIt]
@[simp] theorem s_rg3 (a b c : E) : evIt Φ fz (.rg3 a b c) ρ = (evE Φ a ρ).bind fun x => (evE Φ b ρ).bind fun y => (evE Φ c ρ).bind fun z => (asI x).bind fun i => (asI y).bind fun j => (asI z).bind fun k =>
      if rg3Ok i j k then .ok (rng3 i k (stepN i j k)) else .no := by rw [evIt]
def enuR (fz : Bool) (x : Val) : R (List T) := match tup? x with
  | some ts => .ok (enumT 0 ts)
  | none => (lsV fz x).bind fun ts => .ok (enumT 0 ts)
@[simp] theorem s_enu (e : E) : evIt Φ fz (.enu e) ρ = (evE Φ e ρ).bind (enuR fz) := by rw [evIt]; rfl
@[simp] theorem s_zip (a b : E) : evIt Φ fz (.zip a b) ρ = (evE Φ a ρ).bind fun x => (evE Φ b ρ).bind fun y => zipV fz x y := by rw [evIt]
@[simp] theorem s_rev (e : E) : evIt Φ fz (.rev e) ρ = (evE Φ e ρ).bind fun x => (seqV fz x).bind fun ts => .ok ts.reverse := by rw [evIt]
@[simp] theorem s_revr (a b : E) : evIt Φ fz (.revr a b) ρ = (evE Φ a ρ).bind fun x => (evE Φ b ρ).bind fun y => (asI x).bind fun i => (asI y).bind fun j => if rngOk i j then .ok (rng i (j - i).toNat).reverse else .no := by rw [evIt]
def bindO (o : Option Env) : Out := match o with
  | some ρ' => .nx ρ'
  | none => .no
@[simp] theorem bindO_some : bindO (some ρ) = .nx ρ := (rfl)
@[simp] theorem bindO_none : bindO none = .no := (rfl)
@[simp] theorem t_asg (z : List Nat) (t : Tg) (e : E) : evS Φ W (.asg z t e) ρ = (evE Φ e (frz z ρ)).out (frz z ρ) fun x => bindO (bindTg t x (frz z ρ)) := by rw [y_asg]; rfl
@[simp] theorem t_ex (e : E) : evS Φ W (.ex e) ρ = (evE Φ e ρ).out ρ fun _ => .nx ρ := y_ex Φ W ρ e
def retO : Val → Out
  | .l true ts => .rt (.l true ts)
  | x => (match x.t? with
    | some t => .rt (.v t)
    | none => .no)
@[simp] theorem retO_v (t : T) : retO (.v t) = .rt (.v t) := (rfl)
@[simp] theorem retO_l (ts : List T) : retO (.l true ts) = .rt (.l true ts) := (rfl)
@[simp] theorem t_ret (z : List Nat) (e : E) : evS Φ W (.ret z e) ρ = (evE Φ e (frz z ρ)).out (frz z ρ) retO := by rw [y_ret]; rfl
def retvO : Val → Out
  | .l _ ts => .rt (.l true ts)
  | .v t => .rt (.v t)
  | .dk _ ts => .rt (.dk true ts)
  | _ => .no
@[simp] theorem retvO_v (t : T) : retvO (.v t) = .rt (.v t) := (rfl)
@[simp] theorem retvO_l (b : Bool) (ts : List T) : retvO (.l b ts) = .rt (.l true ts) := (rfl)
@[simp] theorem retvO_dk (b : Bool) (ts : List (Key × T)) : retvO (.dk b ts) = .rt (.dk true ts) := (rfl)
@[simp] theorem t_retv (i : Nat) : evS Φ W (.retv i) ρ = (rd ρ i).out ρ retvO := by rw [y_retv]; rfl
@[simp] theorem t_retN : evS Φ W .retN ρ = .rt (.v .non) := y_retN Φ W ρ
@[simp] theorem t_ife (c : E) (a b : Ss) : evS Φ W (.ife c a b) ρ = (evE Φ c ρ).out ρ fun x => (asB x).out ρ fun k => if k then evSs Φ W a ρ else evSs Φ W b ρ := y_ife Φ W ρ c a b
@[simp] theorem t_for (z : List Nat) (t : Tg) (it : It) (b : Ss) : evS Φ W (.forr z t it b) ρ = (evIt Φ true it (frz z ρ)).out (frz z ρ) fun us => forT Φ W t b us (frz z ρ) := y_for Φ W ρ z t it b
/-- a loop with a test -/
def whlT (Φ : Fe) (W : Nat) (c : E) (b : Ss) (n : Nat) (ρ : Env) : Out := whlGo (fun ρ => (evE Φ c ρ).bind asB) (evSs Φ W b) n ρ
@[simp] theorem t_whl (c : E) (b : Ss) : evS Φ W (.whl c b) ρ = whlT Φ W c b W ρ := by rw [evS]; rfl
def Out.loop : Out → (Env → Out) → Out
  | .nx ρ2, f => f ρ2
  | .bk ρ2, _ => .nx ρ2
  | o, _ => o
@[simp] theorem loop_nx (f : Env → Out) : (Out.nx ρ).loop f = f ρ := (rfl)
@[simp] theorem loop_bk (f : Env → Out) : (Out.bk ρ).loop f = .nx ρ := (rfl)
@[simp] theorem loop_rt (x : Val) (f : Env → Out) : (Out.rt x).loop f = .rt x := (rfl)
@[simp] theorem loop_ex (c : String) (fs : List T) (f : Env → Out) : (Out.ex c fs ρ).loop f = .ex c fs ρ := (rfl)
@[simp] theorem loop_no (f : Env → Out) : (Out.no).loop f = .no := (rfl)
theorem whlT_succ (c : E) (b : Ss) (n : Nat) : whlT Φ W c b (n + 1) ρ = ((evE Φ c ρ).bind asB).out ρ fun k => if k then (evSs Φ W b ρ).loop (whlT Φ W c b n) else .nx ρ := by
  unfold whlT
  rw [whlGo]
  congr
  funext k
  cases k with
  | false => rfl
  | true =>
    simp only [if_true]
    cases evSs Φ W b ρ <;> rfl
@[simp] theorem forT_nil (t : Tg) (b : Ss) : forT Φ W t b [] ρ = .nx ρ := (rfl)
theorem forT_cons (t : Tg) (b : Ss) (u : T) (us : List T) : forT Φ W t b (u :: us) ρ = ((bindO (bindTg t (.v u) ρ)).andThen (evSs Φ W b)).loop (forT Φ W t b us) := by
  unfold forT
  rw [forGo]
  cases bindTg t (.v u) ρ with
  | none => rfl
  | some ρ1 =>
    simp only [bindO_some, Out.andThen_nx]
    cases evSs Φ W b ρ1 <;> rfl
theorem lcA_nil (elt : E) (tg : Tg) (cs : Es) (acc : List T) : lcA Φ elt tg cs ρ [] acc = .ok (.l true acc) := (rfl)
def mutO (m : String) (i : Nat) (ts : List T) (ρ : Env) (xs : List Val) : Out := match keeps? xs with
  | some us => (muV m ts us).out ρ fun ts' => setSl ρ i (.ow ts')
  | none => .no
def mutS (Φ : Fe) (m : String) (i : Nat) (es : Es) (ρ : Env) : Option Sl → Out
  | some (.ow ts) => (evEs Φ es ρ).out ρ (mutO (muN m es) i ts ρ)
  | _ => .no
@[simp] theorem mutS_ow (m : String) (i : Nat) (es : Es) (ts : List T) : mutS Φ m i es ρ (some (.ow ts)) = (evEs Φ es ρ).out ρ (mutO (muN m es) i ts ρ) := (rfl)
@[simp] theorem muN_nil (m : String) : muN m .nil = m := (rfl)
@[simp] theorem muN_app (e : E) (es : Es) : muN "append" (.cons e es) = "append" := (rfl)
@[simp] theorem muN_ext (e : E) (es : Es) : muN "extend" (.cons e es) = "extend" := (rfl)
@[simp] theorem muN_pop (e : E) (es : Es) : muN "pop" (.cons e es) = "pop1" := (rfl)
@[simp] theorem muN_rem (e : E) (es : Es) : muN "remove" (.cons e es) = "remove" := (rfl)
@[simp] theorem muN_ins (e : E) (es : Es) : muN "insert" (.cons e es) = "insert" := (rfl)
@[simp] theorem t_mut (m : String) (z : List Nat) (i : Nat) (es : Es) : evS Φ W (.mut m z i es) ρ = mutS Φ m i es (frz z ρ) (frz z ρ)[i]? := by
  rw [y_mut]
  cases (frz z ρ)[i]? with
  | none => rfl
  | some s => cases s <;> rfl
@[simp] theorem t_pass : evS Φ W .pass ρ = .nx ρ := y_pass Φ W ρ
@[simp] theorem t_brk : evS Φ W .brk ρ = .bk ρ := y_brk Φ W ρ
@[simp] theorem t_s0 : evSs Φ W .nil ρ = .nx ρ := y_s0 Φ W ρ
@[simp] theorem t_s1 (s : S) (ss : Ss) : evSs Φ W (.cons s ss) ρ = (evS Φ W s ρ).andThen (evSs Φ W ss) := y_s1 Φ W ρ s ss
def augO (i : Nat) (op : Operator) (ρ : Env) : Val → Val → Out
  | .v (.int a), .v (.int b) => (match op with
    | .Add => setSl ρ i (.im (.int (a + b)))
    | .Sub => setSl ρ i (.im (.int (a - b)))
    | _ => .no)
  | _, _ => .no
@[simp] theorem t_aug (i : Nat) (op : Operator) (e : E) : evS Φ W (.aug i op e) ρ = (rd ρ i).out ρ fun x => (evE Φ e ρ).out ρ fun y => augO i op ρ x y := by
  rw [evS]
  all_goals rfl
@[simp] theorem augO_add (i : Nat) (a b : Int) : augO i .Add ρ (.v (.int a)) (.v (.int b)) = setSl ρ i (.im (.int (a + b))) := (rfl)
@[simp] theorem augO_sub (i : Nat) (a b : Int) : augO i .Sub ρ (.v (.int a)) (.v (.int b)) = setSl ρ i (.im (.int (a - b))) := (rfl)
def setiO (i : Nat) (ρ : Env) (ts : List T) (x y : Val) : Out := match x.t? with
  | some t => (asI y).out ρ fun j => (match ixN ts.length j with
    | some n => setSl ρ i (.ow (ts.set n t))
    | none => .no)
  | none => .no
def setiD (i : Nat) (ρ : Env) (kvs : List (Key × T)) (x y : Val) : Out := match x.t?, y with
  | some t, .v u => (match u.key? with
    | some q => if decide (kvs.length < sizeLine) then setSl ρ i (.dk (kPut kvs q t)) else .no
    | none => .no)
  | _, _ => .no
def setiT (i : Nat) (ρ : Env) (kvs : List (List Key × T)) (x y : Val) : Out := match x.t?, y with
  | some t, .v u => (match u.keyT? with
    | some q => if decide (kvs.length < sizeLine) then setSl ρ i (.dt (ktPut kvs q t)) else .no
    | none => .no)
  | _, _ => .no
def setiS (Φ : Fe) (i : Nat) (k e : E) (ρ : Env) : Option Sl → Out
  | some (.ow ts) => (evE Φ e ρ).out ρ fun x => (evE Φ k ρ).out ρ fun y => setiO i ρ ts x y
  | some (.dk kvs) => (evE Φ e ρ).out ρ fun x => (evE Φ k ρ).out ρ fun y => setiD i ρ kvs x y
  | some (.dt kvs) => (evE Φ e ρ).out ρ fun x => (evE Φ k ρ).out ρ fun y => setiT i ρ kvs x y
  | _ => .no
@[simp] theorem setiS_ow (i : Nat) (k e : E) (ts : List T) : setiS Φ i k e ρ (some (.ow ts)) = (evE Φ e ρ).out ρ fun x => (evE Φ k ρ).out ρ fun y => setiO i ρ ts x y := (rfl)
@[simp] theorem setiS_dk (i : Nat) (k e : E) (ts : List (Key × T)) : setiS Φ i k e ρ (some (.dk ts)) = (evE Φ e ρ).out ρ fun x => (evE Φ k ρ).out ρ fun y => setiD i ρ ts x y := (rfl)
@[simp] theorem setiS_dt (i : Nat) (k e : E) (ts : List (List Key × T)) : setiS Φ i k e ρ (some (.dt ts)) = (evE Φ e ρ).out ρ fun x => (evE Φ k ρ).out ρ fun y => setiT i ρ ts x y := (rfl)
@[simp] theorem t_seti (z : List Nat) (i : Nat) (k e : E) : evS Φ W (.seti z i k e) ρ = setiS Φ i k e (frz z ρ) (frz z ρ)[i]? := by
  rw [y_seti]
  cases (frz z ρ)[i]? with
  | none => rfl
  | some s => cases s <;> rfl
def setfS (Φ : Fe) (i : Nat) (f : String) (e : E) (ρ : Env) : Option Sl → Out
  | some (.ob c ns ts) => if Φ.fok c f then (evE Φ e ρ).out ρ fun x => (match x.t? with
      | some t => if decide (ns.length < 900) then setSl ρ i (.ob c (zipSet ns ts (Str.ofString f) t).1 (zipSet ns ts (Str.ofString f) t).2) else .no
      | none => .no) else .no
  | _ => .no
@[simp] theorem setfS_ob (i : Nat) (f : String) (e : E) (c : String) (ns : List Str) (ts : List T) : setfS Φ i f e ρ (some (.ob c ns ts)) = if Φ.fok c f then (evE Φ e ρ).out ρ fun x => (match x.t? with
      | some t => if decide (ns.length < 900) then setSl ρ i (.ob c (zipSet ns ts (Str.ofString f) t).1 (zipSet ns ts (Str.ofString f) t).2) else .no
      | none => .no) else .no := (rfl)
@[simp] theorem t_setf (z : List Nat) (i : Nat) (f : String) (e : E) : evS Φ W (.setf z i f e) ρ = setfS Φ i f e (frz z ρ) (frz z ρ)[i]? := by
  rw [y_setf]
  cases (frz z ρ)[i]? with
  | none => rfl
  | some s => cases s <;> rfl
/-- a try: what the suite's end becomes -/
def suO (j : Nat) : Out → Out
  | .nx ρ2 => .nx (ρ2.set j .un)
  | .bk ρ2 => .bk (ρ2.set j .un)
  | .rt x => .rt x
  | _ => .no
@[simp] theorem suO_nx (j : Nat) (ρ : Env) : suO j (.nx ρ) = .nx (ρ.set j .un) := (rfl)
@[simp] theorem suO_bk (j : Nat) (ρ : Env) : suO j (.bk ρ) = .bk (ρ.set j .un) := (rfl)
@[simp] theorem suO_rt (j : Nat) (x : Val) : suO j (.rt x) = .rt x := (rfl)
def tryO (Φ : Fe) (W : Nat) (c : String) (j : Nat) (h : Ss) : Out → Out
  | .ex d [] ρ1 => (match Φ.exm d c with
      | some true => if decide (j < ρ1.length) then suO j (evSs Φ.hot W h (ρ1.set j (.im (.err d [])))) else .no
      | some false => .ex d [] ρ1
      | none => .no)
  | .ex _ _ _ => .no
  | o => o
@[simp] theorem tryO_nx (Φ : Fe) (W : Nat) (c : String) (j : Nat) (h : Ss) (ρ : Env) : tryO Φ W c j h (.nx ρ) = .nx ρ := (rfl)
@[simp] theorem tryO_rt (Φ : Fe) (W : Nat) (c : String) (j : Nat) (h : Ss) (x : Val) : tryO Φ W c j h (.rt x) = .rt x := (rfl)
@[simp] theorem tryO_bk (Φ : Fe) (W : Nat) (c : String) (j : Nat) (h : Ss) (ρ : Env) : tryO Φ W c j h (.bk ρ) = .bk ρ := (rfl)
@[simp] theorem tryO_ex (Φ : Fe) (W : Nat) (c d : String) (j : Nat) (h : Ss) (ρ : Env) : tryO Φ W c j h (.ex d [] ρ) = (match Φ.exm d c with
      | some true => if decide (j < ρ.length) then suO j (evSs Φ.hot W h (ρ.set j (.im (.err d [])))) else .no
      | some false => .ex d [] ρ
      | none => .no) := (rfl)
@[simp] theorem t_tryx (b : Ss) (c : String) (j : Nat) (h : Ss) : evS Φ W (.tryx b c (some j) h) ρ = if Φ.cn c then tryO Φ W c j h (evSs Φ W b ρ) else .no := by
  rw [evS]
  split
  · cases evSs Φ W b ρ with
    | ex d fs ρ1 =>
      cases fs with
      | nil =>
        unfold tryO
        simp only
        cases Φ.exm d c with
        | none => rfl
        | some t => cases t with
          | false => rfl
          | true =>
            simp only
            split
            · cases evSs Φ.hot W h (ρ1.set j (.im (.err d []))) <;> rfl
            · rfl
      | cons _ _ => rfl
    | _ => rfl
  · rfl
@[simp] theorem hot_fn (Φ : Fe) (x : String) : Φ.hot.fn x = Φ.hfn x := (rfl)
@[simp] theorem hot_hfn (Φ : Fe) (x : String) : Φ.hot.hfn x = Φ.hfn x := (rfl)
@[simp] theorem hot_isa (Φ : Fe) (d c : Cl) : Φ.hot.isa d c = Φ.isa d c := (rfl)
@[simp] theorem hot_cn (Φ : Fe) (c : String) : Φ.hot.cn c = Φ.cn c := (rfl)
@[simp] theorem hot_glb (Φ : Fe) (c : String) : Φ.hot.glb c = Φ.glb c := (rfl)
@[simp] theorem hot_fok (Φ : Fe) (c f : String) : Φ.hot.fok c f = Φ.fok c f := (rfl)
@[simp] theorem t_raiseM (c m : String) : evS Φ W (.raiseM c m) ρ = if Φ.rm c then .ex c [] ρ else .no := by rw [evS]
def raise1O (c : String) (ρ : Env) : Val → Out
  | .v t => .ex c [t] ρ
  | _ => .no
@[simp] theorem raise1O_v (c : String) (t : T) : raise1O c ρ (.v t) = .ex c [t] ρ := (rfl)
@[simp] theorem t_raise1 (c : String) (e : E) : evS Φ W (.raise1 c e) ρ = if Φ.r1 c then (evE Φ e ρ).out ρ (raise1O c ρ) else .no := by rw [evS]; rfl
end
/-! values -/
@[simp] theorem tupR_some (ts : List T) : tupR (some ts) = if fitsL ts.length then .ok (.v (.tup ts)) else .no := (rfl)
@[simp] theorem lstR_some (ts : List T) : lstR (some ts) = if fitsL ts.length then .ok (.l true ts) else .no := (rfl)
@[simp] theorem fldR_ins (Φ : Fe) (f c : String) (ns : List Str) (ts : List T) : fldR Φ f (.v (.ins c ns ts)) = if Φ.fok c f then R.of (((ns.zip ts).lookup (Str.ofString f)).map .v) else .no := (rfl)
@[simp] theorem fldR_ob (Φ : Fe) (f c : String) (ns : List Str) (ts : List T) : fldR Φ f (.ob c ns ts) = if Φ.fok c f then R.of (((ns.zip ts).lookup (Str.ofString f)).map .v) else .no := (rfl)
@[simp] theorem s_bnm (i : Nat) (x : Val) (ρ : Env) : bindTg (.nm i) x ρ = if decide (i < ρ.length) then (match x.sl? with
  | some s => some (ρ.set i s)
  | none => none) else none := bnm i x ρ
@[simp] theorem s_btu (ts : Tgs) (us : List T) (ρ : Env) : bindTg (.tup ts) (.v (.tup us)) ρ = bindTgs ts us ρ := btu ts us ρ
@[simp] theorem s_bt0 (ρ : Env) : bindTgs .nil [] ρ = some ρ := by rw [bindTgs]
@[simp] theorem s_bt1 (t : Tg) (ts : Tgs) (u : T) (us : List T) (ρ : Env) : bindTgs (.cons t ts) (u :: us) ρ = (match bindTg t (.v u) ρ with
    | some ρ' => bindTgs ts us ρ'
    | none => none) := by rw [bindTgs] <;> rfl
section
variable (ρ : Env) (i : Nat)
@[simp] theorem rd_eq : rd ρ i = (match ρ[i]? with
  | some (.im t) => .ok (.v t)
  | some (.ow ts) => .ok (.l false ts)
  | some (.dk kvs) => .ok (.dk false kvs)
  | some (.dt kvs) => .ok (.dt false kvs)
  | some (.ob c ns ts) => .ok (.ob c ns ts)
  | _ => .no) := (rfl)
@[simp] theorem frz0 : frz [] ρ = ρ := (rfl)
@[simp] theorem frz1 (is : List Nat) : frz (i :: is) ρ = frz is (match ρ[i]? with
    | some s => ρ.set i s.frz
    | none => ρ) := (rfl)
@[simp] theorem sfrz_ow (ts : List T) : (Sl.ow ts).frz = .im (.lst ts) := (rfl)
@[simp] theorem sfrz_dk (kvs : List (Key × T)) : (Sl.dk kvs).frz = .im (.dct (kvs.map (·.1)) (kvs.map (·.2))) := (rfl)
@[simp] theorem nrm_dct (ks : List Key) (ts : List T) : (Val.v (.dct ks ts)).nrm = .dk false (ks.zip ts) := (rfl)
@[simp] theorem nrm_dk (b : Bool) (kvs : List (Key × T)) : (Val.dk b kvs).nrm = .dk b kvs := (rfl)
@[simp] theorem lenF_dk (b : Bool) (kvs : List (Key × T)) : lenF [.dk b kvs] = .ok (.v (.int kvs.length)) := (rfl)
@[simp] theorem lkeysR_dk (b : Bool) (kvs : List (Key × T)) : lkeysR (.dk b kvs) = (match kInts kvs with
  | some ns => .ok (.l true (ns.map .int))
  | none => .no) := (rfl)
@[simp] theorem zip_unz (kvs : List (Key × T)) : (kvs.map (·.1)).zip (kvs.map (·.2)) = kvs := by
  induction kvs with
  | nil => rfl
  | cons p r ih => simp [ih]
@[simp] theorem sfrz_im (t : T) : (Sl.im t).frz = .im t := (rfl)
@[simp] theorem sfrz_un : (Sl.un).frz = .un := (rfl)
@[simp] theorem wipe0 : wipeE [] ρ = ρ := (rfl)
@[simp] theorem wipe1 (is : List Nat) : wipeE (i :: is) ρ = (wipeE is ρ).set i .un := (rfl)
@[simp] theorem setSl_eq (s : Sl) : setSl ρ i s = if decide (i < ρ.length) then .nx (ρ.set i s) else .no := (rfl)
end
@[simp] theorem sl_v (t : T) : (Val.v t).sl? = some (.im t) := (rfl)
@[simp] theorem sl_l (ts : List T) : (Val.l true ts).sl? = some (.ow ts) := (rfl)
@[simp] theorem sl_dk (ts : List (Key × T)) : (Val.dk true ts).sl? = some (.dk ts) := (rfl)
@[simp] theorem sl_dt (ts : List (List Key × T)) : (Val.dt true ts).sl? = some (.dt ts) := (rfl)
@[simp] theorem tq_v (t : T) : (Val.v t).t? = some t := (rfl)
@[simp] theorem tq_l (ts : List T) : (Val.l true ts).t? = some (.lst ts) := (rfl)
@[simp] theorem arg_v (t : T) : (Val.v t).arg? = some t := (rfl)
@[simp] theorem arg_l (b : Bool) (ts : List T) : (Val.l b ts).arg? = some (.lst ts) := (rfl)
@[simp] theorem args0 : args? [] = some [] := (rfl)
@[simp] theorem args1 (x : Val) (xs : List Val) : args? (x :: xs) = (match x.arg?, args? xs with
    | some t, some ts => some (t :: ts)
    | _, _ => none) := (rfl)
@[simp] theorem keeps0 : keeps? [] = some [] := (rfl)
@[simp] theorem keeps1 (x : Val) (xs : List Val) : keeps? (x :: xs) = (match x.t?, keeps? xs with
    | some t, some ts => some (t :: ts)
    | _, _ => none) := (rfl)
@[simp] theorem asI_int (i : Int) : asI (.v (.int i)) = .ok i := (rfl)
@[simp] theorem asB_bl (i : Bool) : asB (.v (.bl i)) = .ok i := (rfl)
@[simp] theorem valT_v (t : T) : valT (.v t) = .ok (.v t) := (rfl)
@[simp] theorem bin_add (i j : Int) : binV .Add (.v (.int i)) (.v (.int j)) = .ok (.v (.int (i + j))) := (rfl)
@[simp] theorem bin_adds (a b : Str) : binV .Add (.v (.str a)) (.v (.str b)) = if fitsL (a.length + b.length) then .ok (.v (.str (a ++ b))) else .no := (rfl)
@[simp] theorem bin_addt (a b : List T) : binV .Add (.v (.tup a)) (.v (.tup b)) = if fitsL (a.length + b.length) then .ok (.v (.tup (a ++ b))) else .no := (rfl)
@[simp] theorem bin_addl (x y : Bool) (a b : List T) : binV .Add (.l x a) (.l y b) = if fitsL (a.length + b.length) then .ok (.l true (a ++ b)) else .no := (rfl)
@[simp] theorem bin_addl1 (y : Bool) (a b : List T) : binV .Add (.v (.lst a)) (.l y b) = if fitsL (a.length + b.length) then .ok (.l true (a ++ b)) else .no := (rfl)
@[simp] theorem bin_addl2 (x : Bool) (a b : List T) : binV .Add (.l x a) (.v (.lst b)) = if fitsL (a.length + b.length) then .ok (.l true (a ++ b)) else .no := (rfl)
@[simp] theorem bin_addl3 (a b : List T) : binV .Add (.v (.lst a)) (.v (.lst b)) = if fitsL (a.length + b.length) then .ok (.l true (a ++ b)) else .no := (rfl)
@[simp] theorem bin_sub (i j : Int) : binV .Sub (.v (.int i)) (.v (.int j)) = .ok (.v (.int (i - j))) := (rfl)
@[simp] theorem bin_mul (i j : Int) : binV .Mult (.v (.int i)) (.v (.int j)) = if mulOk i j then .ok (.v (.int (i * j))) else .no := (rfl)
@[simp] theorem bin_mull (b : Bool) (a : List T) (k : Int) : binV .Mult (.l b a) (.v (.int k)) = if decide (-(2 ^ 63) ≤ k) && decide (k < 2 ^ 63) && fitsL (a.length * k.toNat) then .ok (.l true (List.replicate k.toNat a).flatten) else .no := (rfl)
@[simp] theorem bin_muls (a : Str) (k : Int) : binV .Mult (.v (.str a)) (.v (.int k)) = if decide (-(2 ^ 63) ≤ k) && decide (k < 2 ^ 63) && fitsL (a.length * k.toNat) then .ok (.v (.str (repS a k.toNat))) else .no := (rfl)
@[simp] theorem bin_div (i j : Int) : binV .FloorDiv (.v (.int i)) (.v (.int j)) = if divOk j then .ok (.v (.int (i / j))) else .no := (rfl)
@[simp] theorem bin_mod (i j : Int) : binV .Mod (.v (.int i)) (.v (.int j)) = if decide (0 < j) then .ok (.v (.int (i % j))) else .no := (rfl)
@[simp] theorem bin_pow (i j : Int) : binV .Pow (.v (.int i)) (.v (.int j)) = if decide (0 ≤ j) && decide (j ≤ 1000000) && decide (i.natAbs < 2 ^ 64) then .ok (.v (.int (i ^ j.toNat))) else if decide (0 ≤ j) && decide (j ≤ 1000) && decide (i.natAbs.log2 < 100000) then .ok (.v (.int (i ^ j.toNat))) else .no := (rfl)
@[simp] theorem s_fits {n : Nat} (h : n ≤ 1000000) : fitsL n = true := fits h
@[simp] theorem mulA1 (x : Int) : mulOk 1 x = true := by unfold mulOk; simp
@[simp] theorem mulB1 (x : Int) : mulOk x 1 = true := by unfold mulOk; simp
@[simp] theorem mulA2 (x : Int) : mulOk 2 x = true := by unfold mulOk; simp
@[simp] theorem mulB2 (x : Int) : mulOk x 2 = true := by unfold mulOk; simp
@[simp] theorem mulA3 (x : Int) : mulOk 3 x = true := by unfold mulOk; simp
@[simp] theorem mulB3 (x : Int) : mulOk x 3 = true := by unfold mulOk; simp
@[simp] theorem mulA4 (x : Int) : mulOk 4 x = true := by unfold mulOk; simp
@[simp] theorem mulB4 (x : Int) : mulOk x 4 = true := by unfold mulOk; simp
@[simp] theorem mulA5 (x : Int) : mulOk 5 x = true := by unfold mulOk; simp
@[simp] theorem mulB5 (x : Int) : mulOk x 5 = true := by unfold mulOk; simp
@[simp] theorem mulA6 (x : Int) : mulOk 6 x = true := by unfold mulOk; simp
@[simp] theorem mulB6 (x : Int) : mulOk x 6 = true := by unfold mulOk; simp
@[simp] theorem mulA7 (x : Int) : mulOk 7 x = true := by unfold mulOk; simp
@[simp] theorem mulB7 (x : Int) : mulOk x 7 = true := by unfold mulOk; simp
@[simp] theorem mulA9 (x : Int) : mulOk 9 x = true := by unfold mulOk; simp
@[simp] theorem mulB9 (x : Int) : mulOk x 9 = true := by unfold mulOk; simp
@[simp] theorem mulA10 (x : Int) : mulOk 10 x = true := by unfold mulOk; simp
@[simp] theorem mulB10 (x : Int) : mulOk x 10 = true := by unfold mulOk; simp
theorem mul_smallA {a : Int} (b : Int) (h : a.natAbs < 2 ^ 64) : mulOk a b = true := by unfold mulOk; simp [h]
theorem mul_smallB (a : Int) {b : Int} (h : b.natAbs < 2 ^ 64) : mulOk a b = true := by unfold mulOk; simp [h]
@[simp] theorem cmp_eq (x y : Val) : cmpV .Eq x y = eqV x y := (rfl)
@[simp] theorem cmp_ne (x y : Val) : cmpV .NotEq x y = (eqV x y).bind fun k => .ok (!k) := (rfl)
@[simp] theorem cmp_is (x : Val) : cmpV .Is x (.v .non) = isV x (.v .non) := (rfl)
@[simp] theorem cmp_isnot (x : Val) : cmpV .IsNot x (.v .non) = (isV x (.v .non)).bind fun k => .ok (!k) := (rfl)
@[simp] theorem isV_non (t : T) : isV (.v t) (.v .non) = .ok t.isNon := (rfl)
@[simp] theorem isNon_non : T.isNon .non = true := (rfl)
@[simp] theorem isNon_int (i : Int) : T.isNon (.int i) = false := (rfl)
@[simp] theorem isNon_tup (i : List T) : T.isNon (.tup i) = false := (rfl)
@[simp] theorem isNon_lst (i : List T) : T.isNon (.lst i) = false := (rfl)
@[simp] theorem isNon_ins (c : String) (n : List Str) (i : List T) : T.isNon (.ins c n i) = false := (rfl)
@[simp] theorem cmp_lt (i j : Int) : cmpV .Lt (.v (.int i)) (.v (.int j)) = .ok (decide (i < j)) := (rfl)
@[simp] theorem cmp_le (i j : Int) : cmpV .LtE (.v (.int i)) (.v (.int j)) = .ok (decide (i ≤ j)) := (rfl)
@[simp] theorem cmp_gt (i j : Int) : cmpV .Gt (.v (.int i)) (.v (.int j)) = .ok (decide (j < i)) := (rfl)
@[simp] theorem cmp_ge (i j : Int) : cmpV .GtE (.v (.int i)) (.v (.int j)) = .ok (decide (j ≤ i)) := (rfl)
@[simp] theorem eqV_ii (i j : Int) : eqV (.v (.int i)) (.v (.int j)) = .ok (decide (i = j)) := (rfl)
@[simp] theorem eqV_bb (i j : Bool) : eqV (.v (.bl i)) (.v (.bl j)) = .ok (decide (i = j)) := (rfl)
@[simp] theorem eqV_ss (i j : Str) : eqV (.v (.str i)) (.v (.str j)) = .ok (decide (i = j)) := (rfl)
@[simp] theorem sbi_len (xs : List Val) : biV "len" xs = lenF xs := (rfl)
@[simp] theorem sbi_abs (xs : List Val) : biV "abs" xs = absF xs := (rfl)
@[simp] theorem sbi_min (xs : List Val) : biV "min" xs = minF xs := (rfl)
@[simp] theorem sbi_max (xs : List Val) : biV "max" xs = maxF xs := (rfl)
@[simp] theorem sbi_sum (xs : List Val) : biV "sum" xs = sumF xs := (rfl)
@[simp] theorem sbi_any (xs : List Val) : biV "any" xs = anyF xs := (rfl)
@[simp] theorem sbi_all (xs : List Val) : biV "all" xs = allF xs := (rfl)
@[simp] theorem sbi_sorted (xs : List Val) : biV "sorted" xs = sortF xs := (rfl)
@[simp] theorem sbi_divmod (xs : List Val) : biV "divmod" xs = dmF xs := (rfl)
@[simp] theorem sty_int (xs : List Val) : tyV "int" xs = intF xs := (rfl)
@[simp] theorem sty_str (xs : List Val) : tyV "str" xs = strF xs := (rfl)
@[simp] theorem sty_list (xs : List Val) : tyV "list" xs = listF xs := (rfl)
@[simp] theorem sty_tuple (xs : List Val) : tyV "tuple" xs = tupF xs := (rfl)
@[simp] theorem len_l (b : Bool) (ts : List T) : lenF [.l b ts] = .ok (.v (.int ts.length)) := (rfl)
@[simp] theorem len_lst (ts : List T) : lenF [.v (.lst ts)] = .ok (.v (.int ts.length)) := (rfl)
@[simp] theorem len_tup (ts : List T) : lenF [.v (.tup ts)] = .ok (.v (.int ts.length)) := (rfl)
@[simp] theorem len_str (z : Str) : lenF [.v (.str z)] = if fitsL z.length then .ok (.v (.int z.length)) else .no := (rfl)
@[simp] theorem abs_i (i : Int) : absF [.v (.int i)] = .ok (.v (.int (if i < 0 then -i else i))) := (rfl)
@[simp] theorem min_ii (i j : Int) : minF [.v (.int i), .v (.int j)] = .ok (.v (.int (min i j))) := by
  show R.ok (Val.v (T.int (if j < i then j else i))) = _
  congr 3
  omega
@[simp] theorem max_ii (i j : Int) : maxF [.v (.int i), .v (.int j)] = .ok (.v (.int (max i j))) := by
  show R.ok (Val.v (T.int (if j > i then j else i))) = _
  congr 3
  omega
@[simp] theorem ints_map {α : Type} (f : α → Int) : ∀ l : List α, ints? (l.map fun a => .int (f a)) = some (l.map f)
  | [] => rfl
  | a :: l => by rw [List.map_cons, ints?, ints_map f l]; rfl
@[simp] theorem ints_map' : ∀ l : List Int, ints? (l.map T.int) = some l
  | [] => rfl
  | a :: l => by rw [List.map_cons, ints?, ints_map' l]; rfl
@[simp] theorem seq_l (b : Bool) (ts : List T) : (Val.l b ts).seq? = some ts := (rfl)
@[simp] theorem seq_lst (ts : List T) : (Val.v (.lst ts)).seq? = some ts := (rfl)
@[simp] theorem seq_tup (ts : List T) : (Val.v (.tup ts)).seq? = some ts := (rfl)
@[simp] theorem lst_l (b : Bool) (ts : List T) : (Val.l b ts).lst? = some ts := (rfl)
@[simp] theorem lst_lst (ts : List T) : (Val.v (.lst ts)).lst? = some ts := (rfl)
@[simp] theorem lrev_l (b : Bool) (ts : List T) : lrevR (.l b ts) = .ok (.l true ts.reverse) := (rfl)
@[simp] theorem lrev_lst (ts : List T) : lrevR (.v (.lst ts)) = .ok (.l true ts.reverse) := (rfl)
@[simp] theorem sum_l (b : Bool) (ns : List Int) : sumF [.l b (ns.map .int)] = .ok (.v (.int ns.sum)) := by simp [sumF]
@[simp] theorem sum_lst (ns : List Int) : sumF [.v (.lst (ns.map .int))] = .ok (.v (.int ns.sum)) := by simp [sumF]
@[simp] theorem list_l (b : Bool) (ts : List T) : listF [.l b ts] = .ok (.l true ts) := (rfl)
@[simp] theorem list_lst (ts : List T) : listF [.v (.lst ts)] = .ok (.l true ts) := (rfl)
@[simp] theorem list_tup (ts : List T) : listF [.v (.tup ts)] = .ok (.l true ts) := (rfl)
@[simp] theorem tup_l (b : Bool) (ts : List T) : tupF [.l b ts] = .ok (.v (.tup ts)) := (rfl)
@[simp] theorem tup_lst (ts : List T) : tupF [.v (.lst ts)] = .ok (.v (.tup ts)) := (rfl)
@[simp] theorem tup_tup (ts : List T) : tupF [.v (.tup ts)] = .ok (.v (.tup ts)) := (rfl)
@[simp] theorem int_i (i : Int) : intF [.v (.int i)] = .ok (.v (.int i)) := (rfl)
@[simp] theorem int_b (i : Bool) : intF [.v (.bl i)] = .ok (.v (.int (if i then 1 else 0))) := (rfl)
@[simp] theorem ix_l (b : Bool) (ts : List T) (i : Int) : ixV (.l b ts) (.v (.int i)) = (match atI ts i with
      | some t => .ok (.v t)
      | none => .no) := (rfl)
@[simp] theorem ix_lst (ts : List T) (i : Int) : ixV (.v (.lst ts)) (.v (.int i)) = (match atI ts i with
      | some t => .ok (.v t)
      | none => .no) := (rfl)
@[simp] theorem ix_tup (ts : List T) (i : Int) : ixV (.v (.tup ts)) (.v (.int i)) = (match atI ts i with
      | some t => .ok (.v t)
      | none => .no) := (rfl)
@[simp] theorem sl_tup (ts : List T) (lo hi : Option Int) : slV (.v (.tup ts)) lo hi = .ok (.v (.tup (cutT ts lo hi))) := (rfl)
@[simp] theorem slV_l (b : Bool) (ts : List T) (lo hi : Option Int) : slV (.l b ts) lo hi = .ok (.l true (cutT ts lo hi)) := (rfl)
@[simp] theorem slV_lst (ts : List T) (lo hi : Option Int) : slV (.v (.lst ts)) lo hi = .ok (.l true (cutT ts lo hi)) := (rfl)
@[simp] theorem atI_0 {α : Type} (a : α) (l : List α) : atI (a :: l) 0 = some a := by rw [atI_nn (by decide) (by simp <;> omega)]; rfl
@[simp] theorem atI_1 {α : Type} (a b : α) (l : List α) : atI (a :: b :: l) 1 = some b := by rw [atI_nn (by decide) (by simp <;> omega)]; rfl
@[simp] theorem atI_2 {α : Type} (a b c : α) (l : List α) : atI (a :: b :: c :: l) 2 = some c := by rw [atI_nn (by decide) (by simp <;> omega)]; rfl
@[simp] theorem items_seq (fz : Bool) (ts : List T) : itemsV fz (.v (.lst ts)) = .ok ts := by cases fz <;> rfl
@[simp] theorem items_tup (fz : Bool) (ts : List T) : itemsV fz (.v (.tup ts)) = .ok ts := by cases fz <;> rfl
@[simp] theorem items_nw (fz : Bool) (ts : List T) : itemsV fz (.l true ts) = .ok ts := by cases fz <;> rfl
@[simp] theorem items_l (ts : List T) : itemsV false (.l false ts) = .ok ts := (rfl)
@[simp] theorem items_str (fz : Bool) (z : Str) : itemsV fz (.v (.str z)) = .ok (signs z) := by cases fz <;> rfl
@[simp] theorem seqV_lst (fz : Bool) (ts : List T) : seqV fz (.v (.lst ts)) = .ok ts := by cases fz <;> rfl
@[simp] theorem seqV_tup (fz : Bool) (ts : List T) : seqV fz (.v (.tup ts)) = .ok ts := by cases fz <;> rfl
@[simp] theorem seqV_nw (fz : Bool) (ts : List T) : seqV fz (.l true ts) = .ok ts := by cases fz <;> rfl
@[simp] theorem seqV_l (ts : List T) : seqV false (.l false ts) = .ok ts := (rfl)
@[simp] theorem lsV_lst (fz : Bool) (ts : List T) : lsV fz (.v (.lst ts)) = .ok ts := by cases fz <;> rfl
@[simp] theorem lsV_nw (fz : Bool) (ts : List T) : lsV fz (.l true ts) = .ok ts := by cases fz <;> rfl
@[simp] theorem lsV_l (ts : List T) : lsV false (.l false ts) = .ok ts := (rfl)
@[simp] theorem enu_tup (fz : Bool) (ts : List T) : enuR fz (.v (.tup ts)) = .ok (enumT 0 ts) := (rfl)
@[simp] theorem enu_lst (fz : Bool) (ts : List T) : enuR fz (.v (.lst ts)) = .ok (enumT 0 ts) := by cases fz <;> rfl
@[simp] theorem enu_nw (fz : Bool) (ts : List T) : enuR fz (.l true ts) = .ok (enumT 0 ts) := by cases fz <;> rfl
@[simp] theorem zip_tt (fz : Bool) (a b : List T) : zipV fz (.v (.tup a)) (.v (.tup b)) = .ok (zipT a b) := (rfl)
@[simp] theorem zip_tl (fz : Bool) (a b : List T) : zipV fz (.v (.tup a)) (.v (.lst b)) = .ok (zipT a b) := by cases fz <;> rfl
@[simp] theorem zip_tn (fz : Bool) (a b : List T) : zipV fz (.v (.tup a)) (.l true b) = .ok (zipT a b) := by cases fz <;> rfl
@[simp] theorem zip_nn (fz : Bool) (a b : List T) : zipV fz (.l true a) (.l true b) = .ok (zipT a b) := by cases fz <;> rfl
@[simp] theorem zip_ll (fz : Bool) (a b : List T) : zipV fz (.v (.lst a)) (.v (.lst b)) = .ok (zipT a b) := by cases fz <;> rfl
@[simp] theorem mutO_eq (m : String) (i : Nat) (ts : List T) (ρ : Env) (xs : List Val) : mutO m i ts ρ xs = (match keeps? xs with
  | some us => (muV m ts us).out ρ fun ts' => setSl ρ i (.ow ts')
  | none => .no) := (rfl)
@[simp] theorem mu_app (ts : List T) (t : T) : muV "append" ts [t] = if decide (ts.length < sizeLine) then .ok (ts ++ [t]) else .no := (rfl)
@[simp] theorem mu_ext (ts us : List T) : muV "extend" ts [.lst us] = if fitsL (ts.length + us.length) then .ok (ts ++ us) else .no := (rfl)
@[simp] theorem mu_rev (ts : List T) : muV "reverse" ts [] = .ok ts.reverse := (rfl)
@[simp] theorem mu_clr (ts : List T) : muV "clear" ts [] = .ok [] := (rfl)
@[simp] theorem mu_pop1 (ts : List T) (i : Int) : muV "pop1" ts [.int i] = if decide (-(2 ^ 63) ≤ i) && decide (i < 2 ^ 63) then (match seqIndex? i ts.length with
    | some k => .ok (ts.eraseIdx k)
    | none => .no) else .no := (rfl)
@[simp] theorem mu_rem (ts : List T) (k : Int) : muV "remove" ts [.int k] = (match ints? ts with
    | some ns => if decide (k ∈ ns) then .ok ((ns.erase k).map .int) else .no
    | none => .no) := (rfl)
@[simp] theorem mu_ins (ts : List T) (i : Int) (t : T) : muV "insert" ts [.int i, t] = if decide (ts.length < sizeLine) && decide (0 ≤ i) && decide (i < 2 ^ 63) then .ok (ts.take i.toNat ++ [t] ++ ts.drop i.toNat) else .no := (rfl)
@[simp] theorem mu_pop (ts : List T) : muV "pop" ts [] = if ts.isEmpty then .no else .ok ts.dropLast := (rfl)
@[simp] theorem cl_non : (Val.v .non).cl? = some (.ty "NoneType") := (rfl)
@[simp] theorem cl_bl (b : Bool) : (Val.v (.bl b)).cl? = some (.ty "bool") := (rfl)
@[simp] theorem cl_int (b : Int) : (Val.v (.int b)).cl? = some (.ty "int") := (rfl)
@[simp] theorem cl_str (b : Str) : (Val.v (.str b)).cl? = some (.ty "str") := (rfl)
@[simp] theorem cl_tup (b : List T) : (Val.v (.tup b)).cl? = some (.ty "tuple") := (rfl)
@[simp] theorem cl_lst (b : List T) : (Val.v (.lst b)).cl? = some (.ty "list") := (rfl)
@[simp] theorem cl_l (x : Bool) (b : List T) : (Val.l x b).cl? = some (.ty "list") := (rfl)
@[simp] theorem cl_ins (c : String) (n : List Str) (b : List T) : (Val.v (.ins c n b)).cl? = some (.own c) := (rfl)
@[simp] theorem known_ty (Φ : Fe) (n : String) : (Cl.ty n).known Φ = true := (rfl)
@[simp] theorem known_own (Φ : Fe) (n : String) : (Cl.own n).known Φ = Φ.cn n := (rfl)
@[simp] theorem isiTR_eq (Φ : Fe) (cs : List Cl) (x : Val) : isiTR Φ cs x = (match x.cl? with
  | some d => (match isaAny Φ d cs with
    | some b => .ok (.v (.bl b))
    | none => .no)
  | none => .no) := (rfl)
@[simp] theorem isiR_eq (Φ : Fe) (c : Cl) (x : Val) : isiR Φ c x = (match x.cl? with
  | some d => (match Φ.isa d c with
    | some b => .ok (.v (.bl b))
    | none => .no)
  | none => .no) := (rfl)
@[simp] theorem meTy_dk (b : Bool) (k : List (Key × T)) : meTy "get" (.dk b k) = true := (rfl)
@[simp] theorem meTy_dt (b : Bool) (k : List (List Key × T)) : meTy "get" (.dt b k) = true := (rfl)
@[simp] theorem meTy_join (z : Str) : meTy "join" (.v (.str z)) = true := (rfl)
@[simp] theorem meTy_split (z : Str) : meTy "split" (.v (.str z)) = true := (rfl)
@[simp] theorem meTy_cl (b : Bool) (ts : List T) : meTy "count" (.l b ts) = true := (rfl)
@[simp] theorem meTy_cv (ts : List T) : meTy "count" (.v (.lst ts)) = true := (rfl)
@[simp] theorem meTy_il (b : Bool) (ts : List T) : meTy "index" (.l b ts) = true := (rfl)
@[simp] theorem meTy_iv (ts : List T) : meTy "index" (.v (.lst ts)) = true := (rfl)
@[simp] theorem sme_count (x : Val) (xs : List Val) : meV "count" x xs = countF x xs := (rfl)
@[simp] theorem sme_index (x : Val) (xs : List Val) : meV "index" x xs = indexF x xs := (rfl)
@[simp] theorem sme_get (x : Val) (xs : List Val) : meV "get" x xs = getF x xs := (rfl)
@[simp] theorem sme_join (x : Val) (xs : List Val) : meV "join" x xs = joinF x xs := (rfl)
@[simp] theorem sme_split (x : Val) (xs : List Val) : meV "split" x xs = splitF x xs := (rfl)
@[simp] theorem startE_eq (n : Nat) (ts : List T) : startE n ts = ts.map .im ++ List.replicate (n - ts.length) .un := (rfl)
@[simp] theorem ret_nx (ρ : Env) : (Out.nx ρ).ret = .ok (.v .non) := (rfl)
@[simp] theorem ret_rt (x : Val) : (Out.rt x).ret = .ok x := (rfl)
@[simp] theorem ret_ex (c : String) (fs : List T) (ρ : Env) : (Out.ex c fs ρ).ret = .exc c fs := (rfl)
@[simp] theorem bor_v (t : T) : (Val.v t).bor = false := (rfl)
@[simp] theorem bor_n (t : List T) : (Val.l true t).bor = false := (rfl)
@[simp] theorem bor_l (t : List T) : (Val.l false t).bor = true := (rfl)
@[simp] theorem flat_int (i : Int) : (T.int i).flat = true := by simp [T.flat]
@[simp] theorem flat_bl (i : Bool) : (T.bl i).flat = true := by simp [T.flat]
@[simp] theorem flat_str (i : Str) : (T.str i).flat = true := by simp [T.flat]
@[simp] theorem flat_non : (T.non).flat = true := by simp [T.flat]
@[simp] theorem flat_tup (ts : List T) : (T.tup ts).flat = flats ts := by simp [T.flat]
@[simp] theorem flat_ins (c : String) (n : List Str) (ts : List T) : (T.ins c n ts).flat = flats ts := by simp [T.flat]
@[simp] theorem flats0 : flats [] = true := by simp [flats]
@[simp] theorem flats1 (t : T) (ts : List T) : flats (t :: ts) = (t.flat && flats ts) := by simp [flats]
theorem flats_map {α : Type} (f : α → T) (h : ∀ a, (f a).flat = true) : ∀ l : List α, flats (l.map f) = true
  | [] => by simp
  | a :: l => by simp [h a, flats_map f h l]
@[simp] theorem flat_tp (p : Int × Int) : (tp p).flat = true := by simp [tp]
@[simp] theorem flats_tp (l : List (Int × Int)) : flats (l.map tp) = true := flats_map tp (fun p => by simp) l
@[simp] theorem flats_ints (l : List Int) : flats (l.map T.int) = true := flats_map T.int (fun p => by simp) l
/-- what comes of a call -/
def callR (b : Bool) : R Val → R Val
  | .ok (.v t) => if b && !t.flat then .no else .ok (.v t)
  | .ok (.l true us) => if b && !flats us then .no else .ok (.l true us)
  | .ok (.dk true us) => if b then .no else .ok (.dk true us)
  | .ok _ => .no
  | .exc c fs => if b && !flats fs then .no else .exc c fs
  | .no => .no
@[simp] theorem callV_eq (h : List T → R Val) (xs : List Val) : callV h xs = (match args? xs with
  | some ts => callR (xs.any Val.bor) (h ts)
  | none => .no) := by
  unfold callV
  cases args? xs with
  | none => rfl
  | some ts =>
    cases h ts with
    | ok x => cases x with
      | l b us => cases b <;> rfl
      | dk b us => cases b <;> rfl
      | _ => rfl
    | _ => rfl
@[simp] theorem callR_v (b : Bool) (t : T) : callR b (.ok (.v t)) = if b && !t.flat then .no else .ok (.v t) := (rfl)
@[simp] theorem callR_l (b : Bool) (t : List T) : callR b (.ok (.l true t)) = if b && !flats t then .no else .ok (.l true t) := (rfl)
@[simp] theorem callR_dk (b : Bool) (t : List (Key × T)) : callR b (.ok (.dk true t)) = if b then .no else .ok (.dk true t) := (rfl)
@[simp] theorem callR_exc (b : Bool) (c : String) (t : List T) : callR b (.exc c t) = if b && !flats t then .no else .exc c t := (rfl)
@[simp] theorem callR_no (b : Bool) : callR b .no = .no := (rfl)
@[simp] theorem callR_ite (b : Bool) (c : Prop) [Decidable c] (x y : R Val) : callR b (if c then x else y) = if c then callR b x else callR b y := by split <;> rfl
/-- a def's call -/
theorem callF_eq (Φ : Fe) (n : Nat) (f : Fn) (ts : List T) (h : ts.length = f.arity) : callF Φ n f ts = (evSs Φ n f.body (startE f.names.length ts)).ret := by
  unfold callF
  rw [if_pos (decide_eq_true h)]
/-! branches -/
@[simp] theorem bind_ite {α β : Type} (c : Prop) [Decidable c] (a b : R α) (f : α → R β) : (if c then a else b).bind f = if c then a.bind f else b.bind f := by split <;> rfl
@[simp] theorem out_ite {α : Type} (c : Prop) [Decidable c] (a b : R α) (ρ : Env) (f : α → Out) : (if c then a else b).out ρ f = if c then a.out ρ f else b.out ρ f := by split <;> rfl
@[simp] theorem andThen_ite (c : Prop) [Decidable c] (a b : Out) (f : Env → Out) : (if c then a else b).andThen f = if c then a.andThen f else b.andThen f := by split <;> rfl
@[simp] theorem loop_ite (c : Prop) [Decidable c] (a b : Out) (f : Env → Out) : (if c then a else b).loop f = if c then a.loop f else b.loop f := by split <;> rfl
@[simp] theorem ret_ite (c : Prop) [Decidable c] (a b : Out) : (if c then a else b).ret = if c then a.ret else b.ret := by split <;> rfl
@[simp] theorem nx_ite {α : Type} (c : Prop) [Decidable c] (a b : R α) : (if c then a else b).nx = if c then a.nx else b.nx := by split <;> rfl
/-- what a loop's own names hold behind it -/
def lastS {α : Type} (f : α → T) : List α → Sl → Sl
  | [], s => s
  | a :: l, _ => lastS f l (.im (f a))
@[simp] theorem lastS_nil {α : Type} (f : α → T) (s : Sl) : lastS f [] s = s := (rfl)
@[simp] theorem lastS_cons {α : Type} (f : α → T) (a : α) (l : List α) (s : Sl) : lastS f (a :: l) s = lastS f l (.im (f a)) := (rfl)
/-- one turn, as simp meets it -/
def turnO (Φ : Fe) (W : Nat) (t : Tg) (b : Ss) (u : T) (ρ : Env) : Out := (bindO (bindTg t (.v u) ρ)).andThen (evSs Φ W b)
/-- a loop by its state -/
theorem for_st {α σ : Type} {Φ : Fe} {W : Nat} {t : Tg} {b : Ss} (enc : α → T) (E : σ → Env) (step : σ → α → σ) : ∀ (l : List α) (s : σ), (∀ a ∈ l, ∀ s, turnO Φ W t b (enc a) (E s) = .nx (E (step s a))) → forT Φ W t b (l.map enc) (E s) = .nx (E (l.foldl step s))
  | [], s, _ => rfl
  | a :: l, s, h => by
    have := h a (List.mem_cons_self ..) s
    unfold turnO at this
    rw [List.map_cons, forT_cons, this, loop_nx, for_st enc E step l (step s a) fun a ha s => h a (List.mem_cons_of_mem _ ha) s]
    rfl
/-- a loop by a word of its turn's number -/
theorem for_ix {Φ : Fe} {W : Nat} {t : Tg} {b : Ss} (P : Nat → Env → Prop) : ∀ (us : List T) (i : Nat) (ρ : Env), P i ρ → (∀ j u ρ, us[j]? = some u → P (i + j) ρ → ∃ ρ2, turnO Φ W t b u ρ = .nx ρ2 ∧ P (i + j + 1) ρ2) → ∃ ρ', forT Φ W t b us ρ = .nx ρ' ∧ P (i + us.length) ρ'
  | [], i, ρ, h, _ => ⟨ρ, rfl, h⟩
  | u :: us, i, ρ, h, hs => by
    obtain ⟨ρ2, h1, h2⟩ := hs 0 u ρ rfl h
    obtain ⟨ρ', h3, h4⟩ := for_ix P us (i + 1) ρ2 h2 fun j v ρ hv hp => by
      have := hs (j + 1) v ρ (by simpa using hv) (by rw [show i + (j + 1) = i + 1 + j by omega]; exact hp)
      rw [show i + 1 + j + 1 = i + (j + 1) + 1 by omega]
      exact this
    refine ⟨ρ', ?_, by rw [List.length_cons, show i + (us.length + 1) = i + 1 + us.length by omega]; exact h4⟩
    unfold turnO at h1
    rw [forT_cons, h1, loop_nx, h3]
theorem s_rng (a : Int) (n : Nat) : rng a n = (List.range n).map fun (k : Nat) => T.int (a + (k : Int)) := (rfl)
theorem for_rngA {Φ : Fe} {W : Nat} {t : Tg} {b : Ss} (a : Int) (P : Nat → Env → Prop) (k : Nat) (ρ : Env) (h0 : P 0 ρ) (hs : ∀ j ρ, j < k → P j ρ → ∃ ρ2, turnO Φ W t b (.int (a + (j : Int))) ρ = .nx ρ2 ∧ P (j + 1) ρ2) :
    ∃ ρ', forT Φ W t b (rng a k) ρ = .nx ρ' ∧ P k ρ' := by
  have e3 : (rng a k).length = k := by simp [rng]
  obtain ⟨ρ', e1, e2⟩ := for_ix (Φ := Φ) (W := W) (t := t) (b := b) P (rng a k) 0 ρ h0 (fun j u ρ hu hp => by
    rw [s_rng, List.getElem?_map, Option.map_eq_some_iff] at hu
    obtain ⟨q, hq, rfl⟩ := hu
    obtain ⟨hj, e⟩ := List.getElem?_eq_some_iff.mp hq
    rw [List.getElem_range] at e
    subst e
    rw [List.length_range] at hj
    rw [Nat.zero_add] at hp ⊢
    exact hs j ρ hj hp)
  rw [e3, Nat.zero_add] at e2
  exact ⟨ρ', e1, e2⟩
theorem for_rng {Φ : Fe} {W : Nat} {t : Tg} {b : Ss} (P : Nat → Env → Prop) (k : Nat) (ρ : Env) (h0 : P 0 ρ) (hs : ∀ j ρ, j < k → P j ρ → ∃ ρ2, turnO Φ W t b (.int (j : Int)) ρ = .nx ρ2 ∧ P (j + 1) ρ2) :
    ∃ ρ', forT Φ W t b (rng 0 k) ρ = .nx ρ' ∧ P k ρ' := by
  refine for_rngA 0 P k ρ h0 fun j ρ hj hp => ?_
  rw [Int.zero_add]
  exact hs j ρ hj hp
/-- .. over what is drawn by a function -/
theorem for_all {α : Type} {Φ : Fe} {W : Nat} {t : Tg} {b : Ss} (enc : α → T) (P : Env → Prop) : ∀ (l : List α) (ρ : Env), P ρ → (∀ a ∈ l, ∀ ρ, P ρ → ∃ ρ2, turnO Φ W t b (enc a) ρ = .nx ρ2 ∧ P ρ2) → ∃ ρ', forT Φ W t b (l.map enc) ρ = .nx ρ' ∧ P ρ'
  | [], ρ, h, _ => ⟨ρ, rfl, h⟩
  | a :: l, ρ, h, hs => by
    obtain ⟨ρ2, h1, h2⟩ := hs a (List.mem_cons_self ..) ρ h
    obtain ⟨ρ', h3, h4⟩ := for_all enc P l ρ2 h2 fun a ha => hs a (List.mem_cons_of_mem _ ha)
    refine ⟨ρ', ?_, h4⟩
    unfold turnO at h1
    rw [List.map_cons, forT_cons, h1, loop_nx, h3]
/-- comprehensions -/
theorem lcA_cons (Φ : Fe) (elt : E) (tg : Tg) (cs : Es) (ρ : Env) (u : T) (us acc : List T) : lcA Φ elt tg cs ρ (u :: us) acc = (match bindTg tg (.v u) ρ with
    | some ρ1 => (evCs Φ cs ρ1).nx.bind fun b => if b then (evE Φ elt ρ1).nx.bind fun x => (match x.t? with
        | some t => if decide (acc.length < sizeLine) then lcA Φ elt tg cs ρ us (acc ++ [t]) else .no
        | none => .no) else lcA Φ elt tg cs ρ us acc
    | none => .no) := by
  unfold lcA
  rw [lcGo]
  all_goals rfl
/-- a comprehension's turn, where it says yes -/
theorem lc_map {α : Type} {Φ : Fe} {elt : E} {tg : Tg} {cs : Es} {ρ : Env} (enc : α → T) (g : α → T) : ∀ (l : List α) (acc : List T), acc.length + l.length ≤ 1000000 → (∀ a ∈ l, ∃ ρ1 x, bindTg tg (.v (enc a)) ρ = some ρ1 ∧ evCs Φ cs ρ1 = .ok true ∧ evE Φ elt ρ1 = .ok x ∧ x.t? = some (g a)) →
    lcA Φ elt tg cs ρ (l.map enc) acc = .ok (.l true (acc ++ l.map g))
  | [], acc, _, _ => by simp [lcA_nil]
  | a :: l, acc, hl, h => by
    obtain ⟨ρ1, x, h1, h2, h3, h4⟩ := h a (List.mem_cons_self ..)
    have hlt : acc.length < sizeLine := line_lt (by simp only [List.length_cons] at hl; omega)
    rw [List.map_cons, lcA_cons]
    simp only [h1, h2, R.nx_ok, R.bind_ok, if_true, h3, h4, hlt, decide_true]
    rw [lc_map enc g l (acc ++ [g a]) (by simp only [List.length_append, List.length_cons, List.length_nil] at hl ⊢; omega) (fun b hb => h b (List.mem_cons_of_mem _ hb))]
    simp
/-- .. and where it asks -/
theorem lc_filter {α : Type} {Φ : Fe} {elt : E} {tg : Tg} {cs : Es} {ρ : Env} (enc : α → T) (q : α → Bool) (g : α → T) : ∀ (l : List α) (acc : List T), acc.length + l.length ≤ 1000000 → (∀ a ∈ l, ∃ ρ1, bindTg tg (.v (enc a)) ρ = some ρ1 ∧ evCs Φ cs ρ1 = .ok (q a) ∧ (q a = true → ∃ x, evE Φ elt ρ1 = .ok x ∧ x.t? = some (g a))) →
    lcA Φ elt tg cs ρ (l.map enc) acc = .ok (.l true (acc ++ (l.filter q).map g))
  | [], acc, _, _ => by simp [lcA_nil]
  | a :: l, acc, hl, h => by
    obtain ⟨ρ1, h1, h2, h3⟩ := h a (List.mem_cons_self ..)
    have hlt : acc.length < sizeLine := line_lt (by simp only [List.length_cons] at hl; omega)
    have ih := fun acc hl => lc_filter enc q g l acc hl (fun b hb => h b (List.mem_cons_of_mem _ hb))
    rw [List.map_cons, lcA_cons]
    cases hq : q a with
    | false =>
      simp only [h1, h2, hq, R.nx_ok, R.bind_ok]
      rw [if_neg (by simp), ih acc (by simp only [List.length_cons] at hl; omega), List.filter_cons_of_neg (by simp [hq])]
    | true =>
      obtain ⟨x, h4, h5⟩ := h3 hq
      simp only [h1, h2, hq, R.nx_ok, R.bind_ok, if_true, h4, h5, hlt, decide_true]
      rw [ih (acc ++ [g a]) (by simp only [List.length_append, List.length_cons, List.length_nil] at hl ⊢; omega), List.filter_cons_of_pos (by simp [hq])]
      simp
end Lr

set_option Elab.async false
set_option linter.all false
set_option maxRecDepth 100000
set_option maxHeartbeats 0
namespace Lr
open PySem PySem.Spec PyProof.Rows L2
def fuel : Nat := 100000
def b_law_k07_1 : Ss := (.cons (.ife (.not (.call "_law_same" (.cons (.call "number_told" (.cons (.v 4) .nil)) (.cons (.call "_law_number" (.cons (.v 4) .nil)) .nil)))) (.cons (.ret [] (.bl false)) .nil) .nil) .nil)
def b_law_k07_2 : Ss := (.cons (.asg [] (.nm 2) (.bin .Mod (.bin .FloorDiv (.v 1) (.int 3)) (.bin .Pow (.int 10) (.int 60)))) (.cons (.ife (.cmp .Eq (.bin .Mod (.v 1) (.int 3)) (.int 1)) (.cons (.asg [] (.nm 2) (.bin .Pow (.bin .Mod (.bin .FloorDiv (.v 1) (.int 3)) (.bin .Pow (.int 10) (.int 50))) (.int 4))) .nil) .nil) (.cons (.ife (.cmp .Eq (.bin .Mod (.v 1) (.int 2)) (.int 1)) (.cons (.asg [] (.nm 2) (.neg (.v 2))) .nil) .nil) (.cons (.asg [2] (.nm 3) (.call "number_text" (.cons (.v 2) .nil))) (.cons (.ife (.or (.not (.isi (.v 3) (.ty "str"))) (.cons (.cmp .NotEq (.v 3) (.ty "str" (.cons (.v 2) .nil))) (.cons (.not (.call "_law_same" (.cons (.call "number_told" (.cons (.v 3) .nil)) (.cons (.v 2) .nil)))) .nil))) (.cons (.ret [] (.bl false)) .nil) .nil) (.cons (.forr [3] (.nm 4) (.seq (.call "_law_strange" (.cons (.v 3) (.cons (.bin .Mod (.bin .FloorDiv (.v 1) (.int 6)) (.bin .Pow (.int 10) (.int 20))) .nil)))) b_law_k07_1) .nil))))))
def f_law_k07 : Fn := ⟨["script", "cell", "number", "word", "other"], 1, (.cons (.forr [] (.nm 1) (.seq (.bin .Add (.lst (.cons (.int 0) .nil)) (.sl (.v 0) .no (.so (.int 60))))) b_law_k07_2) (.cons (.ret [] (.bl true)) .nil))⟩
def b_number_told_1 : Ss := (.cons (.ife (.cmp .NotIn (.v 2) (.glb "FIGURES")) (.cons (.ret [] .non) .nil) .nil) .nil)
def f_number_told : Fn := ⟨["text", "figures", "sign"], 1, (.cons (.asg [0] (.nm 1) (.v 0)) (.cons (.ife (.cmp .Eq (.sl (.v 0) .no (.so (.int 1))) (.str "-")) (.cons (.asg [] (.nm 1) (.sl (.v 0) (.so (.int 1)) .no)) .nil) .nil) (.cons (.ife (.or (.cmp .Eq (.v 1) (.str "")) (.cons (.cmp .Gt (.bi "len" (.cons (.v 1) .nil)) (.glb "MOST_FIGURES")) (.cons (.cmp .Eq (.v 0) (.str "-0")) .nil))) (.cons (.ret [] .non) .nil) .nil) (.cons (.ife (.and (.cmp .Eq (.ix (.v 1) (.int 0)) (.str "0")) (.cons (.cmp .Gt (.bi "len" (.cons (.v 1) .nil)) (.int 1)) .nil)) (.cons (.ret [] .non) .nil) .nil) (.cons (.forr [1] (.nm 2) (.seq (.v 1)) b_number_told_1) (.cons (.ret [] (.ty "int" (.cons (.v 0) .nil))) .nil))))))⟩
def f_number_text : Fn := ⟨["number"], 1, (.cons (.ret [] (.ty "str" (.cons (.v 0) .nil))) .nil)⟩
def f_law_strange : Fn := ⟨["word", "cell", "signs", "sign", "at", "more"], 2, (.cons (.asg [] (.nm 2) (.lst (.cons (.str "0") (.cons (.str "+") (.cons (.str "-") (.cons (.str " ") (.cons (.str "_") (.cons (.str ".") (.cons (.str "a") (.cons (.str "1") (.cons (.str "9") (.cons (.str "x") (.cons (.str "e") (.cons (.str "\n") .nil)))))))))))))) (.cons (.asg [] (.nm 3) (.ix (.v 2) (.bin .Mod (.v 1) (.bi "len" (.cons (.v 2) .nil))))) (.cons (.asg [] (.nm 4) (.bin .Mod (.bin .FloorDiv (.v 1) (.int 16)) (.bin .Add (.bi "len" (.cons (.v 0) .nil)) (.int 1)))) (.cons (.asg [] (.nm 5) (.lst (.cons (.str "") (.cons (.str "-") (.cons (.str "-0") (.cons (.str "00") (.cons (.str "+5") (.cons (.str "1_0") (.cons (.str " 7") (.cons (.str "7 ") (.cons (.str "--3") (.cons (.str "1e3") (.cons (.str "0x1") (.cons (.bin .Add (.str "1") (.bin .Mult (.str "0") (.int 199))) (.cons (.bin .Add (.str "-1") (.bin .Mult (.str "0") (.int 199))) .nil))))))))))))))) (.cons (.asg [] (.nm 5) (.bin .Add (.v 5) (.lst (.cons (.bin .Add (.str "1") (.bin .Mult (.str "0") (.int 200))) (.cons (.bin .Add (.str "-1") (.bin .Mult (.str "0") (.int 200))) (.cons (.bin .Add (.str "0") (.bin .Mult (.str "1") (.int 199))) .nil)))))) (.cons (.ret [] (.lst (.cons (.bin .Add (.bin .Add (.sl (.v 0) .no (.so (.v 4))) (.v 3)) (.sl (.v 0) (.so (.v 4)) .no)) (.cons (.ix (.v 5) (.bin .Mod (.bin .FloorDiv (.v 1) (.int 3)) (.bi "len" (.cons (.v 5) .nil)))) (.cons (.bin .Add (.v 0) (.v 3)) (.cons (.bin .Add (.v 3) (.v 0)) .nil)))))) .nil))))))⟩
def f_law_same_v2 : Fn := ⟨["found", "due"], 2, (.cons (.ife (.cmp .Is (.v 1) .non) (.cons (.ret [] (.cmp .Is (.v 0) .non)) .nil) .nil) (.cons (.ret [0] (.and (.call "_law_whole" (.cons (.v 0) .nil)) (.cons (.cmp .Eq (.v 0) (.v 1)) .nil))) .nil))⟩
def f_law_whole : Fn := ⟨["found"], 1, (.cons (.ret [] (.and (.isi (.v 0) (.ty "int")) (.cons (.not (.isi (.v 0) (.ty "bool"))) .nil))) .nil)⟩
def b_law_number_1 : Ss := (.cons (.ife (.cmp .NotIn (.v 2) (.str "0123456789")) (.cons (.ret [] .non) .nil) .nil) .nil)
def f_law_number : Fn := ⟨["word", "body", "sign"], 1, (.cons (.asg [0] (.nm 1) (.v 0)) (.cons (.ife (.cmp .Eq (.sl (.v 0) .no (.so (.int 1))) (.str "-")) (.cons (.asg [] (.nm 1) (.sl (.v 0) (.so (.int 1)) .no)) .nil) .nil) (.cons (.ife (.or (.cmp .Eq (.v 1) (.str "")) (.cons (.cmp .Gt (.bi "len" (.cons (.v 1) .nil)) (.int 200)) (.cons (.cmp .Eq (.v 0) (.str "-0")) .nil))) (.cons (.ret [] .non) .nil) .nil) (.cons (.ife (.and (.cmp .Eq (.ix (.v 1) (.int 0)) (.str "0")) (.cons (.cmp .NotEq (.v 1) (.str "0")) .nil)) (.cons (.ret [] .non) .nil) .nil) (.cons (.forr [1] (.nm 2) (.seq (.v 1)) b_law_number_1) (.cons (.ret [] (.ty "int" (.cons (.v 0) .nil))) .nil))))))⟩
def f_law_cell : Fn := ⟨["script", "k"], 2, (.cons (.ife (.cmp .Lt (.v 1) (.bi "len" (.cons (.v 0) .nil))) (.cons (.ret [] (.ix (.v 0) (.v 1))) .nil) .nil) (.cons (.ret [] (.int 0)) .nil))⟩
def b_law_spread_1 : Ss := (.cons (.asg [0] (.nm 8) (.bin .Add (.int 1) (.bin .Mod (.call "_law_cell" (.cons (.v 0) (.cons (.bin .Add (.bin .Add (.v 1) (.int 1)) (.bin .Mult (.int 2) (.v 7))) .nil))) (.v 3)))) (.cons (.mut "append" [5, 8] 6 (.cons (.tup (.cons (.v 5) (.cons (.v 8) .nil))) .nil)) (.cons (.asg [0] (.nm 5) (.bin .Add (.bin .Add (.bin .Add (.v 5) (.v 8)) (.int 1)) (.bin .Mod (.call "_law_cell" (.cons (.v 0) (.cons (.bin .Add (.bin .Add (.v 1) (.int 2)) (.bin .Mult (.int 2) (.v 7))) .nil))) (.v 3)))) .nil)))
def f_law_spread : Fn := ⟨["script", "at", "many", "span", "side", "place", "pairs", "k", "length"], 5, (.cons (.asg [0, 1] (.nm 5) (.bin .Sub (.bin .Mod (.call "_law_cell" (.cons (.v 0) (.cons (.v 1) .nil))) (.bin .Add (.bin .Mult (.int 2) (.v 4)) (.int 1))) (.v 4))) (.cons (.asg [] (.nm 6) (.lst .nil)) (.cons (.forr [] (.nm 7) (.rg1 (.v 2)) b_law_spread_1) (.cons (.retv 6) .nil))))⟩
def f_law_pairs : Fn := ⟨["script", "lead", "span", "side"], 1, (.cons (.asg [0] (.nm 1) (.call "_law_cell" (.cons (.v 0) (.cons (.int 0) .nil)))) (.cons (.asg [] (.nm 2) (.ix (.lst (.cons (.int 2) (.cons (.int 7) (.cons (.int 1000) (.cons (.bin .Pow (.int 10) (.int 30)) .nil))))) (.bin .Mod (.bin .FloorDiv (.v 1) (.int 31)) (.int 4)))) (.cons (.asg [] (.nm 3) (.ix (.lst (.cons (.int 3) (.cons (.int 1000) (.cons (.bin .Pow (.int 10) (.int 40)) .nil)))) (.bin .Mod (.bin .FloorDiv (.v 1) (.int 124)) (.int 3)))) (.cons (.ret [0, 2, 3] (.call "_law_spread" (.cons (.v 0) (.cons (.int 1) (.cons (.bin .Mod (.v 1) (.int 31)) (.cons (.v 2) (.cons (.v 3) .nil))))))) .nil))))⟩
def b_Row_1 : Ss := (.cons (.ife (.cmp .Lt (.v 4) (.int 1)) (.cons (.raiseM "BadRow" "a stretch without a ball") .nil) .nil) (.cons (.ife (.and (.cmp .IsNot (.v 2) .non) (.cons (.cmp .LtE (.v 3) (.v 2)) .nil)) (.cons (.raiseM "BadRow" "stretches that lie on one another or touch") .nil) .nil) (.cons (.asg [] (.nm 2) (.bin .Add (.v 3) (.v 4))) .nil)))
def f_Row : Fn := ⟨["self", "stretches", "behind", "begin", "length"], 2, (.cons (.ife (.cmp .Gt (.bi "len" (.cons (.v 1) .nil)) (.glb "MOST_STRETCHES")) (.cons (.raiseM "TooMany" "more than thirty stretches") .nil) .nil) (.cons (.asg [] (.nm 2) .non) (.cons (.forr [1] (.tup (.cons (.nm 3) (.cons (.nm 4) .nil))) (.seq (.v 1)) b_Row_1) (.cons (.setf [3, 4] 0 "stretches" (.ty "tuple" (.cons (.lc (.tup (.cons (.v 3) (.cons (.v 4) .nil))) (.tup (.cons (.nm 3) (.cons (.nm 4) .nil))) (.seq (.v 1)) .nil ⟨.function, [(PySem.Str.ofString ".0", .local), (PySem.Str.ofString "begin", .local), (PySem.Str.ofString "length", .local)], false, false, []⟩ [3, 4]) .nil))) .nil))))⟩
def b_balls_in_1 : Ss := (.cons (.asg [] (.nm 3) (.bin .Add (.v 3) (.bi "max" (.cons (.int 0) (.cons (.bin .Sub (.bi "min" (.cons (.v 2) (.cons (.bin .Add (.v 4) (.v 5)) .nil))) (.bi "max" (.cons (.v 1) (.cons (.v 4) .nil)))) .nil))))) .nil)
def f_balls_in : Fn := ⟨["row", "low", "high", "found", "begin", "length"], 3, (.cons (.asg [] (.nm 3) (.int 0)) (.cons (.forr [] (.tup (.cons (.nm 4) (.cons (.nm 5) .nil))) (.seq (.fld (.v 0) "stretches")) b_balls_in_1) (.cons (.retv 3) .nil)))⟩
def f_ball_at : Fn := ⟨["row", "place"], 2, (.cons (.ret [0, 1] (.cmp .Eq (.call "balls_in" (.cons (.v 0) (.cons (.v 1) (.cons (.bin .Add (.v 1) (.int 1)) .nil)))) (.int 1))) .nil)⟩
def f_ball_count : Fn := ⟨["row", "begin", "length"], 1, (.cons (.ret [2] (.bi "sum" (.cons (.lc (.v 2) (.tup (.cons (.nm 1) (.cons (.nm 2) .nil))) (.seq (.fld (.v 0) "stretches")) .nil ⟨.function, [(PySem.Str.ofString ".0", .local), (PySem.Str.ofString "begin", .local), (PySem.Str.ofString "length", .local)], false, false, []⟩ [1, 2]) .nil))) .nil)⟩
def b_gaps_of_1 : Ss := (.cons (.asg [] (.tup (.cons (.nm 3) (.cons (.nm 4) .nil))) (.ix (.fld (.v 0) "stretches") (.bin .Sub (.v 2) (.int 1)))) (.cons (.mut "append" [] 1 (.cons (.bin .Sub (.bin .Sub (.ix (.ix (.fld (.v 0) "stretches") (.v 2)) (.int 0)) (.v 3)) (.v 4)) .nil)) .nil))
def f_gaps_of : Fn := ⟨["row", "found", "k", "begin", "length"], 1, (.cons (.asg [] (.nm 1) (.lst .nil)) (.cons (.forr [] (.nm 2) (.rg2 (.int 1) (.bi "len" (.cons (.fld (.v 0) "stretches") .nil))) b_gaps_of_1) (.cons (.retv 1) .nil)))⟩
def f_moved : Fn := ⟨["row", "by", "begin", "length"], 2, (.cons (.ret [3] (.mk "Row" (.cons (.lc (.tup (.cons (.bin .Add (.v 2) (.v 1)) (.cons (.v 3) .nil))) (.tup (.cons (.nm 2) (.cons (.nm 3) .nil))) (.seq (.fld (.v 0) "stretches")) .nil ⟨.function, [(PySem.Str.ofString ".0", .local), (PySem.Str.ofString "begin", .local), (PySem.Str.ofString "length", .local), (PySem.Str.ofString "by", .free)], false, false, []⟩ [2, 3]) .nil))) .nil)⟩
def f_mirrored : Fn := ⟨["row", "begin", "length"], 1, (.cons (.ret [2] (.mk "Row" (.cons (.lc (.tup (.cons (.bin .Sub (.bin .Sub (.int 1) (.v 1)) (.v 2)) (.cons (.v 2) .nil))) (.tup (.cons (.nm 1) (.cons (.nm 2) .nil))) (.rev (.fld (.v 0) "stretches")) .nil ⟨.function, [(PySem.Str.ofString ".0", .local), (PySem.Str.ofString "begin", .local), (PySem.Str.ofString "length", .local)], false, false, []⟩ [1, 2]) .nil))) .nil)⟩
def f_alike : Fn := ⟨["one", "two"], 2, (.cons (.ret [] (.cmp .Eq (.fld (.v 0) "stretches") (.fld (.v 1) "stretches"))) .nil)⟩
def b_law_told_1 : Ss := (.cons (.ife (.or (.not (.isi (.ix (.v 0) (.v 2)) (.ty "tuple"))) (.cons (.cmp .NotEq (.bi "len" (.cons (.ix (.v 0) (.v 2)) .nil)) (.int 2)) (.cons (.cmp .NotEq (.ix (.v 0) (.v 2)) (.ix (.v 1) (.v 2))) .nil))) (.cons (.ret [] (.bl false)) .nil) .nil) (.cons (.ife (.or (.not (.call "_law_whole" (.cons (.ix (.ix (.v 0) (.v 2)) (.int 0)) .nil))) (.cons (.not (.call "_law_whole" (.cons (.ix (.ix (.v 0) (.v 2)) (.int 1)) .nil))) .nil)) (.cons (.ret [] (.bl false)) .nil) .nil) .nil))
def f_law_told : Fn := ⟨["found", "due", "k"], 2, (.cons (.ife (.or (.not (.isi (.v 0) (.ty "tuple"))) (.cons (.cmp .NotEq (.bi "len" (.cons (.v 0) .nil)) (.bi "len" (.cons (.v 1) .nil))) .nil)) (.cons (.ret [] (.bl false)) .nil) .nil) (.cons (.forr [] (.nm 2) (.rg1 (.bi "len" (.cons (.v 1) .nil))) b_law_told_1) (.cons (.ret [] (.bl true)) .nil)))⟩
def b_written_1 : Ss := (.cons (.mut "append" [2, 3] 1 (.cons (.bin .Add (.bin .Add (.call "number_text" (.cons (.v 2) .nil)) (.str "+")) (.call "number_text" (.cons (.v 3) .nil))) .nil)) .nil)
def f_written : Fn := ⟨["row", "words", "begin", "length"], 1, (.cons (.asg [] (.nm 1) (.lst (.cons (.str "row") .nil))) (.cons (.forr [] (.tup (.cons (.nm 2) (.cons (.nm 3) .nil))) (.seq (.fld (.v 0) "stretches")) b_written_1) (.cons (.ret [] (.bin .Add (.me "join" (.str " ") (.cons (.v 1) .nil)) (.str "\n"))) .nil)))⟩
def f_law_text : Fn := ⟨["pairs", "begin", "length"], 1, (.cons (.ret [] (.bin .Add (.me "join" (.str "") (.cons (.bin .Add (.lst (.cons (.str "row") .nil)) (.lc (.bin .Add (.bin .Add (.bin .Add (.str " ") (.ty "str" (.cons (.v 1) .nil))) (.str "+")) (.ty "str" (.cons (.v 2) .nil))) (.tup (.cons (.nm 1) (.cons (.nm 2) .nil))) (.seq (.v 0)) .nil ⟨.function, [(PySem.Str.ofString ".0", .local), (PySem.Str.ofString "begin", .local), (PySem.Str.ofString "length", .local), (PySem.Str.ofString "str", .globalImplicit)], false, false, []⟩ [1, 2])) .nil)) (.str "\n"))) .nil)⟩
def f_stretch_told : Fn := ⟨["word", "parts", "begin", "length"], 1, (.cons (.asg [] (.nm 1) (.me "split" (.v 0) (.cons (.str "+") .nil))) (.cons (.ife (.or (.cmp .NotEq (.bi "len" (.cons (.v 1) .nil)) (.int 2)) (.cons (.cmp .Eq (.sl (.ix (.v 1) (.int 1)) .no (.so (.int 1))) (.str "-")) .nil)) (.cons (.raise1 "BadText" (.int 1)) .nil) .nil) (.cons (.asg [] (.nm 2) (.call "number_told" (.cons (.ix (.v 1) (.int 0)) .nil))) (.cons (.asg [] (.nm 3) (.call "number_told" (.cons (.ix (.v 1) (.int 1)) .nil))) (.cons (.ife (.or (.cmp .Is (.v 2) .non) (.cons (.cmp .Is (.v 3) .non) .nil)) (.cons (.raise1 "BadText" (.int 1)) .nil) .nil) (.cons (.ret [2, 3] (.tup (.cons (.v 2) (.cons (.v 3) .nil)))) .nil))))))⟩
def f_read : Fn := ⟨["text", "rows", "words", "stretches", "word"], 1, (.cons (.asg [] (.nm 1) (.me "split" (.v 0) (.cons (.str "\n") .nil))) (.cons (.asg [] (.nm 2) (.me "split" (.ix (.v 1) (.int 0)) (.cons (.str " ") .nil))) (.cons (.ife (.or (.cmp .Eq (.bi "len" (.cons (.v 1) .nil)) (.int 1)) (.cons (.cmp .NotEq (.ix (.v 2) (.int 0)) (.str "row")) .nil)) (.cons (.raise1 "BadText" (.int 1)) .nil) .nil) (.cons (.asg [4] (.nm 3) (.lc (.call "stretch_told" (.cons (.v 4) .nil)) (.nm 4) (.seq (.sl (.v 2) (.so (.int 1)) .no)) .nil ⟨.function, [(PySem.Str.ofString ".0", .local), (PySem.Str.ofString "word", .local), (PySem.Str.ofString "stretch_told", .globalImplicit)], false, false, []⟩ [4])) (.cons (.ife (.or (.cmp .Gt (.bi "len" (.cons (.v 1) .nil)) (.int 2)) (.cons (.cmp .NotEq (.ix (.v 1) (.int 1)) (.str "")) .nil)) (.cons (.raise1 "BadText" (.int 2)) .nil) .nil) (.cons (.ret [3] (.mk "Row" (.cons (.v 3) .nil))) .nil))))))⟩
end Lr

set_option Elab.async false
set_option linter.all false
set_option maxRecDepth 100000
set_option maxHeartbeats 1000000
set_option autoImplicit false
namespace Lr
open PySem PySem.Spec PyProof.Rows L2
/-! ### cells of the script, whole numbers -/
abbrev M_law_cell (h : List T → R Val) : Prop := ∀ (ns : List Int) (k : Int), 0 ≤ k → h [.lst (ns.map .int), .int k] = .ok (.v (.int (cel ns k)))
theorem k_law_cell {Φ : Fe} (n : Nat) : M_law_cell (callF Φ n f_law_cell) := by
  intro ns k hk
  rw [callF_eq _ _ _ _ rfl]
  by_cases h : k < (ns.length : Int)
  · have e : atI (ns.map T.int) k = some (.int (cel ns k)) := by
      rw [atI_nn hk (by simpa using h), List.getElem?_map]
      have : k.toNat < ns.length := by omega
      rw [List.getElem?_eq_getElem this]
      simp [cel, this]
    simp [f_law_cell, h, e]
  · have e : cel ns k = 0 := by
      have : ns.length ≤ k.toNat := by omega
      simp [cel, List.getD_eq_getElem?_getD, this]
    simp [f_law_cell, h, e]
abbrev M_law_whole (h : List T → R Val) : Prop := ∀ i : Int, h [.int i] = .ok (.v (.bl true))
theorem k_law_whole {Φ : Fe} (n : Nat) (h1 : Φ.isa (.ty "int") (.ty "int") = some true) (h2 : Φ.isa (.ty "int") (.ty "bool") = some false) : M_law_whole (callF Φ n f_law_whole) := by
  intro i
  rw [callF_eq _ _ _ _ rfl]
  simp [f_law_whole, h1, h2]
/-! ### the stretches drawn: first (at, at + 1 + 2 k, at + 2 + 2 k) -/
theorem mul2 (x : Int) : mulOk 2 x = true := by unfold mulOk; simp
theorem rngOk_int (k : Int) (h0 : 0 ≤ k) (h : k ≤ 1000000) : rngOk 0 k = true := by unfold rngOk; simp; omega
theorem rngOk_nat {n : Nat} (h : n ≤ 1000000) : rngOk 0 (n : Int) = true := rngOk_int _ (by omega) (by omega)
theorem rng_eq (n : Nat) : rng 0 n = (List.range n).map fun (k : Nat) => T.int (k : Int) := by simp [rng]
def sln (ns : List Int) (at_ span : Int) (i : Nat) : Int := 1 + cel ns (at_ + 1 + 2 * i) % span
def spl (ns : List Int) (at_ span side : Int) : Nat → Int
  | 0 => cel ns at_ % (2 * side + 1) - side
  | i + 1 => spl ns at_ span side i + sln ns at_ span i + 1 + cel ns (at_ + 2 + 2 * i) % span
def sps (ns : List Int) (at_ span side : Int) (i : Nat) : List (Int × Int) := (List.range i).map fun k => (spl ns at_ span side k, sln ns at_ span k)
theorem sps_succ (ns : List Int) (at_ span side : Int) (i : Nat) : sps ns at_ span side (i + 1) = sps ns at_ span side i ++ [(spl ns at_ span side i, sln ns at_ span i)] := by
  simp [sps, List.range_succ]
theorem sps_len (ns : List Int) (at_ span side : Int) (i : Nat) : (sps ns at_ span side i).length = i := by simp [sps]
theorem l_spread {Φ : Fe} (n : Nat) (c : List T → R Val) (hc : Φ.fn "_law_cell" = some c) (mc : M_law_cell c) (ns : List Int) (at_ many span side : Int) (h1 : 0 ≤ at_) (h4 : 0 < span) (k : Nat) (hk : k ≤ 1000) :
    ∃ s7 s8, forT Φ n (.nm 7) b_law_spread_1 (rng 0 k) [.im (.lst (ns.map .int)), .im (.int at_), .im (.int many), .im (.int span), .im (.int side), .im (.int (spl ns at_ span side 0)), .ow [], .un, .un] =
      .nx [.im (.lst (ns.map .int)), .im (.int at_), .im (.int many), .im (.int span), .im (.int side), .im (.int (spl ns at_ span side k)), .ow ((sps ns at_ span side k).map tp), s7, s8] := by
  obtain ⟨ρ', e1, s7, s8, e2⟩ := for_rng (Φ := Φ) (W := n) (t := .nm 7) (b := b_law_spread_1)
    (fun i ρ => ∃ s7 s8, ρ = [.im (.lst (ns.map .int)), .im (.int at_), .im (.int many), .im (.int span), .im (.int side), .im (.int (spl ns at_ span side i)), .ow ((sps ns at_ span side i).map tp), s7, s8])
    k _ ⟨.un, .un, rfl⟩ (fun j ρ hj hp => by
      obtain ⟨s7, s8, rfl⟩ := hp
      have hl : (sps ns at_ span side j).length < sizeLine := line_lt (by rw [sps_len]; omega)
      have k1 : 0 ≤ at_ + 1 + 2 * (j : Int) := by omega
      have k2 : 0 ≤ at_ + 2 + 2 * (j : Int) := by omega
      simp [turnO, b_law_spread_1, hc, mc, k1, k2, h4, hl, sps_succ, spl, sln, tp])
  rw [e2] at e1
  exact ⟨s7, s8, e1⟩
abbrev M_law_spread (h : List T → R Val) : Prop := ∀ (ns : List Int) (at_ many span side : Int), 0 ≤ at_ → 0 ≤ many → many ≤ 1000 → 0 < span → 0 ≤ side → h [.lst (ns.map .int), .int at_, .int many, .int span, .int side] = .ok (.l true ((sps ns at_ span side many.toNat).map tp))
theorem k_law_spread {Φ : Fe} (n : Nat) {c : List T → R Val} (hc : Φ.fn "_law_cell" = some c) (mc : M_law_cell c) : M_law_spread (callF Φ n f_law_spread) := by
  intro ns at_ many span side h1 h2 h3 h4 h5
  have hside : 0 < 2 * side + 1 := by omega
  have hr : rngOk 0 many = true := rngOk_int _ h2 (by omega)
  obtain ⟨s7, s8, e⟩ := l_spread n c hc mc ns at_ many span side h1 h4 many.toNat (by omega)
  rw [spl] at e
  rw [callF_eq _ _ _ _ rfl]
  simp [f_law_spread, hc, mc, h1, mul2, hside, hr, e]
/-! ### the drawn pairs -/
def spanOf (ns : List Int) : Int := if cel ns 0 / 31 % 4 = 0 then 2 else if cel ns 0 / 31 % 4 = 1 then 7 else if cel ns 0 / 31 % 4 = 2 then 1000 else 10 ^ 30
def sideOf (ns : List Int) : Int := if cel ns 0 / 124 % 3 = 0 then 3 else if cel ns 0 / 124 % 3 = 1 then 1000 else 10 ^ 40
def prs (ns : List Int) : List (Int × Int) := sps ns 1 (spanOf ns) (sideOf ns) (cel ns 0 % 31).toNat
theorem pick4 (a b c d : T) (k : Int) (h0 : 0 ≤ k) (h4 : k < 4) : atI [a, b, c, d] k = some (if k = 0 then a else if k = 1 then b else if k = 2 then c else d) := by
  have : k = 0 ∨ k = 1 ∨ k = 2 ∨ k = 3 := by omega
  rcases this with rfl | rfl | rfl | rfl <;> rfl
theorem pick3 (a b c : T) (k : Int) (h0 : 0 ≤ k) (h4 : k < 3) : atI [a, b, c] k = some (if k = 0 then a else if k = 1 then b else c) := by
  have : k = 0 ∨ k = 1 ∨ k = 2 := by omega
  rcases this with rfl | rfl | rfl <;> rfl
theorem pick2 (a b : T) (k : Int) (h0 : 0 ≤ k) (h4 : k < 2) : atI [a, b] k = some (if k = 0 then a else b) := by
  have : k = 0 ∨ k = 1 := by omega
  rcases this with rfl | rfl <;> rfl
theorem md_nn (a b : Int) (h : 0 < b) : 0 ≤ a % b := Int.emod_nonneg _ (by omega)
theorem md_lt (a b : Int) (h : 0 < b) : a % b < b := Int.emod_lt_of_pos _ h
abbrev M_law_pairs (h : List T → R Val) : Prop := ∀ (ns : List Int), h [.lst (ns.map .int)] = .ok (.l true ((prs ns).map tp))
theorem k_law_pairs {Φ : Fe} (n : Nat) {c s : List T → R Val} (hc : Φ.fn "_law_cell" = some c) (mc : M_law_cell c) (hs : Φ.fn "_law_spread" = some s) (ms : M_law_spread s) : M_law_pairs (callF Φ n f_law_pairs) := by
  intro ns
  have d31 : divOk 31 = true := by decide
  have d124 : divOk 124 = true := by decide
  have a1 := md_nn (cel ns 0 / 31) 4 (by decide)
  have a2 := md_lt (cel ns 0 / 31) 4 (by decide)
  have a3 := md_nn (cel ns 0 / 124) 3 (by decide)
  have a4 := md_lt (cel ns 0 / 124) 3 (by decide)
  have a5 := md_nn (cel ns 0) 31 (by decide)
  have a6 := md_lt (cel ns 0) 31 (by decide)
  have hsp : 0 < spanOf ns := by unfold spanOf; split <;> (try decide); split <;> (try decide); split <;> decide
  have hsi : 0 ≤ sideOf ns := by unfold sideOf; split <;> (try decide); split <;> decide
  have p4 := pick4 (.int 2) (.int 7) (.int 1000) (.int 1000000000000000000000000000000) _ a1 a2
  have p3 := pick3 (.int 3) (.int 1000) (.int 10000000000000000000000000000000000000000) _ a3 a4
  have cs := ms ns 1 (cel ns 0 % 31) (spanOf ns) (sideOf ns) (by decide) a5 (by omega) hsp hsi
  have q4 : (if cel ns 0 / 31 % 4 = 0 then T.int 2 else if cel ns 0 / 31 % 4 = 1 then .int 7 else if cel ns 0 / 31 % 4 = 2 then .int 1000 else .int 1000000000000000000000000000000) = .int (spanOf ns) := by
    unfold spanOf; split <;> (try rfl); split <;> (try rfl); split <;> rfl
  have q3 : (if cel ns 0 / 124 % 3 = 0 then T.int 3 else if cel ns 0 / 124 % 3 = 1 then .int 1000 else .int 10000000000000000000000000000000000000000) = .int (sideOf ns) := by
    unfold sideOf; split <;> (try rfl); split <;> rfl
  rw [q4] at p4
  rw [q3] at p3
  rw [callF_eq _ _ _ _ rfl]
  simp [f_law_pairs, hc, mc, hs, d31, d124, fits, p4, p3, cs, prs]
/-! ### a row that is right -/
structure Rt (l : List (Int × Int)) : Prop where
  few : l.length ≤ 30
  len : ∀ (i : Nat) (p : Int × Int), l[i]? = some p → 1 ≤ p.2
  gap : ∀ (i : Nat) (p q : Int × Int), l[i]? = some p → l[i + 1]? = some q → p.1 + p.2 < q.1
/-- the same from a place on -/
def Asc : Option Int → List (Int × Int) → Prop
  | _, [] => True
  | b, p :: l => 1 ≤ p.2 ∧ (∀ e, b = some e → e < p.1) ∧ Asc (some (p.1 + p.2)) l
theorem Rt.asc_go : ∀ (l : List (Int × Int)) (b : Option Int), (∀ (i : Nat) (p : Int × Int), l[i]? = some p → 1 ≤ p.2) → (∀ (i : Nat) (p q : Int × Int), l[i]? = some p → l[i + 1]? = some q → p.1 + p.2 < q.1) → (∀ e p, b = some e → l[0]? = some p → e < p.1) → Asc b l
  | [], _, _, _, _ => trivial
  | p :: l, b, h1, h2, h3 => ⟨h1 0 p rfl, fun e he => h3 e p he rfl, Rt.asc_go l _ (fun i q hq => h1 (i + 1) q hq) (fun i q r hq hr => h2 (i + 1) q r hq hr) (fun e q he hq => by
      cases he
      exact h2 0 p q rfl hq)⟩
theorem Rt.asc {l : List (Int × Int)} (h : Rt l) : Asc none l := Rt.asc_go l none h.len h.gap (fun e p he => nomatch he)
theorem Asc.rt_go : ∀ (l : List (Int × Int)) (b : Option Int), Asc b l → (∀ (i : Nat) (p : Int × Int), l[i]? = some p → 1 ≤ p.2) ∧ (∀ (i : Nat) (p q : Int × Int), l[i]? = some p → l[i + 1]? = some q → p.1 + p.2 < q.1)
  | [], _, _ => ⟨fun i p h => by simp at h, fun i p q h => by simp at h⟩
  | a :: l, b, h => by
    obtain ⟨g1, g2⟩ := Asc.rt_go l _ h.2.2
    refine ⟨fun i p hp => ?_, fun i p q hp hq => ?_⟩
    · cases i with
      | zero => cases hp; exact h.1
      | succ i => exact g1 i p hp
    · cases i with
      | zero =>
        cases hp
        cases l with
        | nil => simp at hq
        | cons c l =>
          cases hq
          exact h.2.2.2.1 _ rfl
      | succ i => exact g2 i p q hp hq
theorem Asc.rt {l : List (Int × Int)} (h : Asc none l) (hl : l.length ≤ 30) : Rt l := ⟨hl, (Asc.rt_go l none h).1, (Asc.rt_go l none h).2⟩
def begT : Option Int → T
  | none => .non
  | some e => .int e
def rowT (l : List (Int × Int)) : T := .ins "Row" [Str.ofString "stretches"] [.tup (l.map tp)]
@[simp] theorem flat_rowT (l : List (Int × Int)) : (rowT l).flat = true := by simp [rowT]
@[simp] theorem isNon_rowT (l : List (Int × Int)) : (rowT l).isNon = false := rfl
@[simp] theorem cl_rowT (l : List (Int × Int)) : (Val.v (rowT l)).cl? = some (.own "Row") := rfl
@[simp] theorem fld_rowT (Φ : Fe) (l : List (Int × Int)) (h : Φ.fok "Row" "stretches" = true) : fldR Φ "stretches" (.v (rowT l)) = .ok (.v (.tup (l.map tp))) := by
  simp [rowT, h, List.zip, List.lookup]
theorem l_row {Φ : Fe} (n : Nat) (t : T) : ∀ (l : List (Int × Int)) (b : Option Int) (s3 s4 : Sl), Asc b l → ∃ b' s3' s4', forT Φ n (.tup (.cons (.nm 3) (.cons (.nm 4) .nil))) b_Row_1 (l.map tp) [.ob "Row" [] [], .im t, .im (begT b), s3, s4] = .nx [.ob "Row" [] [], .im t, b', s3', s4']
  | [], b, s3, s4, _ => ⟨_, _, _, rfl⟩
  | p :: l, b, s3, s4, h => by
    have h1 : ¬ p.2 < 1 := by have := h.1; omega
    obtain ⟨b', s3', s4', e⟩ := l_row (Φ := Φ) n t l (some (p.1 + p.2)) (.im (.int p.1)) (.im (.int p.2)) h.2.2
    refine ⟨b', s3', s4', ?_⟩
    rw [← e]
    cases b with
    | none => simp [forT_cons, tp, b_Row_1, h1, begT]
    | some q =>
      have h2 : ¬ p.1 ≤ q := by have := h.2.1 q rfl; omega
      simp [forT_cons, tp, b_Row_1, h1, h2, begT]
abbrev M_Row (h : List T → R Val) : Prop := ∀ (l : List (Int × Int)), Rt l → h [.lst (l.map tp)] = .ok (.v (rowT l)) ∧ h [.tup (l.map tp)] = .ok (.v (rowT l))
theorem lc_pairs {Φ : Fe} (i j : Nat) (ρ : Env) (hi : i < ρ.length) (hj : j < ρ.length) (hij : i ≠ j) (l : List (Int × Int)) (hl : l.length ≤ 1000000) : lcA Φ (.tup (.cons (.v i) (.cons (.v j) .nil))) (.tup (.cons (.nm i) (.cons (.nm j) .nil))) .nil ρ (l.map tp) [] = .ok (.l true (l.map tp)) := by
  have := lc_map (Φ := Φ) (elt := .tup (.cons (.v i) (.cons (.v j) .nil))) (tg := .tup (.cons (.nm i) (.cons (.nm j) .nil))) (cs := .nil) (ρ := ρ) tp tp l [] (by simpa using hl) (fun p _ => by
    refine ⟨(ρ.set i (.im (.int p.1))).set j (.im (.int p.2)), .v (tp p), ?_, by simp, ?_, rfl⟩
    · simp [tp, hi, hj]
    · simp [tp, hi, hj, hij, List.getElem?_set, fits, Ne.symm hij])
  simpa using this
theorem k_Row {Φ : Fe} (n : Nat) (hg : Φ.glb "MOST_STRETCHES" = .ok (.v (.int 30))) (hf : Φ.fok "Row" "stretches" = true) : M_Row (makeF Φ n "Row" f_Row) := by
  intro l h
  have hl : ¬ (30 : Int) < l.length := by have := h.few; omega
  have lc : ∀ ρ : Env, ρ.length = 5 → lcA Φ (.tup (.cons (.v 3) (.cons (.v 4) .nil))) (.tup (.cons (.nm 3) (.cons (.nm 4) .nil))) .nil ρ (l.map tp) [] = .ok (.l true (l.map tp)) := fun ρ hρ => lc_pairs 3 4 ρ (by omega) (by omega) (by decide) l (by have := h.few; omega)
  constructor
  · obtain ⟨b', s3, s4, e⟩ := l_row (Φ := Φ) n (.lst (l.map tp)) l none .un .un h.asc
    unfold begT at e
    rw [makeF]
    simp [f_Row, hg, hl, e, lc, hf, zipSet, rowT]
  · obtain ⟨b', s3, s4, e⟩ := l_row (Φ := Φ) n (.tup (l.map tp)) l none .un .un h.asc
    unfold begT at e
    rw [makeF]
    simp [f_Row, hg, hl, e, lc, hf, zipSet, rowT]
end Lr
namespace Lr
open PySem PySem.Spec PyProof.Rows L2
/-- what a law asks: True at every script -/
abbrev M_law (h : List T → R Val) : Prop := ∀ ns : List Int, ns.length ≤ 63 → h [.lst (ns.map .int)] = .ok (.v (.bl true))
/-! ### the pairs drawn are right -/
theorem sps_get {ns : List Int} {at_ span side : Int} {n i : Nat} {p : Int × Int} (h : (sps ns at_ span side n)[i]? = some p) : i < n ∧ p = (spl ns at_ span side i, sln ns at_ span i) := by
  unfold sps at h
  rw [List.getElem?_map, Option.map_eq_some_iff] at h
  obtain ⟨k, hk, rfl⟩ := h
  obtain ⟨hi, e⟩ := List.getElem?_eq_some_iff.mp hk
  rw [List.getElem_range] at e
  subst e
  rw [List.length_range] at hi
  exact ⟨hi, rfl⟩
theorem rt_sps (ns : List Int) (at_ span side : Int) (n : Nat) (hn : n ≤ 30) (hs : 0 < span) : Rt (sps ns at_ span side n) := by
  refine ⟨by rw [sps_len]; exact hn, fun i p h => ?_, fun i p q h1 h2 => ?_⟩
  · rw [(sps_get h).2]
    have := md_nn (cel ns (at_ + 1 + 2 * (i : Int))) span hs
    show 1 ≤ sln ns at_ span i
    unfold sln
    omega
  · rw [(sps_get h1).2, (sps_get h2).2]
    show spl ns at_ span side i + sln ns at_ span i < spl ns at_ span side (i + 1)
    rw [spl]
    have := md_nn (cel ns (at_ + 2 + 2 * (i : Int))) span hs
    omega
theorem span_pos (ns : List Int) : 0 < spanOf ns := by unfold spanOf; split <;> (try decide); split <;> (try decide); split <;> decide
theorem rt_prs (ns : List Int) : Rt (prs ns) := by
  have a6 := md_lt (cel ns 0) 31 (by decide)
  have a5 := md_nn (cel ns 0) 31 (by decide)
  exact rt_sps _ _ _ _ _ (by omega) (span_pos ns)
/-! ### range(a, b, c) -/
theorem rg3_up {a b c : Int} (h0 : 0 ≤ a) (ha : a ≤ 1000000) (hb0 : 0 ≤ b) (hb : b ≤ 1000000) (hc0 : 1 ≤ c) (hc : c ≤ 1000000) : rg3Ok a b c = true := by
  have hs : 0 ≤ Builtin.Range.rangeSize a b c ∧ Builtin.Range.rangeSize a b c ≤ 1000001 := by
    unfold Builtin.Range.rangeSize
    rw [if_pos (by omega)]
    split
    · have h1 := Int.ediv_nonneg (a := b - a - 1) (b := c) (by omega) (by omega)
      have h2 := Int.ediv_le_self c (a := b - a - 1) (by omega)
      omega
    · omega
  have hc' : c > 0 := by omega
  have hc2 : ¬ c = 0 := by omega
  generalize hg : Builtin.Range.rangeSize a b c = g at hs
  unfold rg3Ok Builtin.Range.small Builtin.Range.rangeFitsLong
  simp [hg, hc', hc2]
  omega
theorem rg3_get {a b c : Int} (hc : 1 ≤ c) {k : Nat} (hk : k < stepN a b c) : a + (k : Int) * c < b := by
  unfold stepN Builtin.Range.rangeSize at hk
  rw [if_pos (by omega)] at hk
  split at hk
  · have h1 : (k : Int) ≤ (b - a - 1) / c := by omega
    have h2 : (k : Int) * c ≤ (b - a - 1) / c * c := Int.mul_le_mul_of_nonneg_right h1 (by omega)
    have h3 := Int.ediv_mul_le (b - a - 1) (b := c) (by omega)
    omega
  · omega
theorem rg3_len {a b c : Int} (h0 : 0 ≤ a) (hb0 : 0 ≤ b) (hc : 1 ≤ c) : stepN a b c ≤ b.toNat + 1 := by
  unfold stepN Builtin.Range.rangeSize
  rw [if_pos (by omega)]
  split
  · have h2 := Int.ediv_le_self c (a := b - a - 1) (by omega)
    omega
  · omega
theorem rg3_down {a : Int} (h0 : -1 ≤ a) (ha : a ≤ 1000000) : rg3Ok a (-1) (-1) = true ∧ stepN a (-1) (-1) = (a + 1).toNat := by
  have hs : Builtin.Range.rangeSize a (-1) (-1) = a + 1 := by
    unfold Builtin.Range.rangeSize
    rw [if_neg (by decide)]
    split
    · rw [show -(-1 : Int) = 1 by decide, Int.ediv_one]
      omega
    · omega
  constructor
  · unfold rg3Ok Builtin.Range.small Builtin.Range.rangeFitsLong
    rw [hs]
    simp
    omega
  · unfold stepN
    rw [hs]
end Lr
namespace Lr
open PySem PySem.Spec PyProof.Rows L2
/-! ### a body in parts -/
def takeS : Nat → Ss → Ss
  | 0, _ => .nil
  | _ + 1, .nil => .nil
  | k + 1, .cons s ss => .cons s (takeS k ss)
def dropS : Nat → Ss → Ss
  | 0, ss => ss
  | _ + 1, .nil => .nil
  | k + 1, .cons _ ss => dropS k ss
theorem andThen_assoc (o : Out) (f g : Env → Out) : (o.andThen f).andThen g = o.andThen fun ρ => (f ρ).andThen g := by cases o <;> rfl
theorem cut_ss (Φ : Fe) (n : Nat) : ∀ (k : Nat) (b : Ss) (ρ : Env), evSs Φ n b ρ = (evSs Φ n (takeS k b) ρ).andThen (evSs Φ n (dropS k b))
  | 0, b, ρ => by simp [takeS, dropS]
  | k + 1, .nil, ρ => by simp [takeS, dropS]
  | k + 1, .cons s ss, ρ => by
    rw [takeS, dropS, t_s1, t_s1, andThen_assoc]
    congr 1
    funext ρ
    exact cut_ss Φ n k ss ρ
theorem balls_nn' {l : List Int} (h : ∀ x ∈ l, 0 ≤ x) : 0 ≤ l.sum := by
  induction l with
  | nil => exact Int.le_refl 0
  | cons a l ih =>
    have := h a (List.mem_cons_self ..)
    have := ih fun x hx => h x (List.mem_cons_of_mem _ hx)
    simp only [List.sum_cons]
    omega
end Lr

set_option Elab.async false
set_option linter.all false
set_option maxRecDepth 100000
set_option maxHeartbeats 1000000
set_option autoImplicit false
namespace Lr
open PySem PySem.Spec PyProof.Rows L2
/-! ### rows: balls -/
def cov (lo hi : Int) (p : Int × Int) : Int := max 0 (min hi (p.1 + p.2) - max lo p.1)
def covs (l : List (Int × Int)) (lo hi : Int) : Int := (l.map (cov lo hi)).sum
theorem l_balls_in {Φ : Fe} (n : Nat) (r : T) (lo hi : Int) : ∀ (l : List (Int × Int)) (f : Int) (s4 s5 : Sl), ∃ s4' s5', forT Φ n (.tup (.cons (.nm 4) (.cons (.nm 5) .nil))) b_balls_in_1 (l.map tp) [.im r, .im (.int lo), .im (.int hi), .im (.int f), s4, s5] = .nx [.im r, .im (.int lo), .im (.int hi), .im (.int (f + covs l lo hi)), s4', s5']
  | [], f, s4, s5 => ⟨s4, s5, by simp [covs]⟩
  | p :: l, f, s4, s5 => by
    obtain ⟨s4', s5', e⟩ := l_balls_in (Φ := Φ) n r lo hi l (f + cov lo hi p) (.im (.int p.1)) (.im (.int p.2))
    refine ⟨s4', s5', ?_⟩
    have h : f + covs (p :: l) lo hi = f + cov lo hi p + covs l lo hi := by simp [covs]; omega
    rw [h, ← e]
    simp [forT_cons, tp, b_balls_in_1, cov]
abbrev M_balls_in (h : List T → R Val) : Prop := ∀ (l : List (Int × Int)) (lo hi : Int), h [rowT l, .int lo, .int hi] = .ok (.v (.int (covs l lo hi)))
theorem k_balls_in {Φ : Fe} (n : Nat) (hf : Φ.fok "Row" "stretches" = true) : M_balls_in (callF Φ n f_balls_in) := by
  intro l lo hi
  obtain ⟨s4, s5, e⟩ := l_balls_in (Φ := Φ) n (rowT l) lo hi l 0 .un .un
  rw [Int.zero_add] at e
  rw [callF_eq _ _ _ _ rfl]
  simp [f_balls_in, hf, e]
abbrev M_ball_at (h : List T → R Val) : Prop := ∀ (l : List (Int × Int)) (x : Int), h [rowT l, .int x] = .ok (.v (.bl (decide (covs l x (x + 1) = 1))))
theorem k_ball_at {Φ : Fe} (n : Nat) {b : List T → R Val} (hb : Φ.fn "balls_in" = some b) (mb : M_balls_in b) : M_ball_at (callF Φ n f_ball_at) := by
  intro l x
  rw [callF_eq _ _ _ _ rfl]
  simp [f_ball_at, hb, mb]
def snds (l : List (Int × Int)) : List Int := l.map fun p => p.2
def balls (l : List (Int × Int)) : Int := (snds l).sum
theorem balls_cons (p : Int × Int) (l : List (Int × Int)) : balls (p :: l) = p.2 + balls l := rfl
/-- [length for begin, length in ..] -/
theorem lc_snd {Φ : Fe} (i j : Nat) (ρ : Env) (hi : i < ρ.length) (hj : j < ρ.length) (hij : i ≠ j) (l : List (Int × Int)) (hl : l.length ≤ 1000000) : lcA Φ (.v j) (.tup (.cons (.nm i) (.cons (.nm j) .nil))) .nil ρ (l.map tp) [] = .ok (.l true ((snds l).map .int)) := by
  have := lc_map (Φ := Φ) (elt := .v j) (tg := .tup (.cons (.nm i) (.cons (.nm j) .nil))) (cs := .nil) (ρ := ρ) tp (fun p => .int p.2) l [] (by simpa using hl) (fun p _ => by
    refine ⟨(ρ.set i (.im (.int p.1))).set j (.im (.int p.2)), .v (.int p.2), ?_, by simp, ?_, rfl⟩
    · simp [tp, hi, hj]
    · simp [hi, hj, hij, List.getElem?_set, Ne.symm hij])
  simpa [snds, List.map_map, Function.comp_def] using this
abbrev M_ball_count (h : List T → R Val) : Prop := ∀ (l : List (Int × Int)), l.length ≤ 1000000 → h [rowT l] = .ok (.v (.int (balls l)))
theorem k_ball_count {Φ : Fe} (n : Nat) (hf : Φ.fok "Row" "stretches" = true) : M_ball_count (callF Φ n f_ball_count) := by
  intro l hl
  have lc := fun ρ h1 h2 => lc_snd (Φ := Φ) 1 2 ρ h1 h2 (by decide) l hl
  rw [callF_eq _ _ _ _ rfl]
  simp [f_ball_count, hf, lc, balls]
/-! ### gaps, moved, mirrored, alike -/
def gaps : List (Int × Int) → List Int
  | p :: q :: l => (q.1 - p.1 - p.2) :: gaps (q :: l)
  | _ => []
theorem gaps_len : ∀ l : List (Int × Int), (gaps l).length = l.length - 1
  | [] => rfl
  | [_] => rfl
  | p :: q :: l => by simp [gaps, gaps_len (q :: l)]
theorem gaps_get : ∀ (l : List (Int × Int)) (k : Nat) (p q : Int × Int), l[k]? = some p → l[k + 1]? = some q → (gaps l)[k]? = some (q.1 - p.1 - p.2)
  | [], k, p, q, h, _ => by simp at h
  | [a], k, p, q, h, h' => by simp at h'
  | a :: b :: l, 0, p, q, h, h' => by cases h; cases h'; rfl
  | a :: b :: l, k + 1, p, q, h, h' => gaps_get (b :: l) k p q h h'
theorem take_succ' {α : Type} {l : List α} {k : Nat} {a : α} (h : l[k]? = some a) : l.take (k + 1) = l.take k ++ [a] := by
  rw [List.take_succ, h]; rfl
theorem get_of_lt {α : Type} {l : List α} {k : Nat} (h : k < l.length) : ∃ a, l[k]? = some a := ⟨l[k], List.getElem?_eq_getElem h⟩
theorem atI_get {α : Type} {l : List α} {k : Nat} {a : α} (h : l[k]? = some a) : atI l (k : Int) = some a := by
  rw [atI_nn (by omega) (by have := (List.getElem?_eq_some_iff.mp h).1; omega)]
  simpa using h
theorem atI_map {α β : Type} {f : α → β} {l : List α} {k : Nat} {a : α} (h : l[k]? = some a) : atI (l.map f) (k : Int) = some (f a) := atI_get (by rw [List.getElem?_map, h]; rfl)
theorem atI_cast {α : Type} {l : List α} {i : Int} {k : Nat} {a : α} (e : i = (k : Int)) (h : l[k]? = some a) : atI l i = some a := by subst e; exact atI_get h
theorem rngOk_2 (a b : Int) (h0 : 0 ≤ a) (h1 : a ≤ 1000000) (h : b ≤ 1000000) (hb : 0 ≤ b) : rngOk a b = true := by unfold rngOk; simp; omega
theorem l_gaps_of {Φ : Fe} (n : Nat) (hf : Φ.fok "Row" "stretches" = true) (l : List (Int × Int)) (hl : l.length ≤ 100000) : ∃ f' s2 s3 s4, f' = gaps l ∧ forT Φ n (.nm 2) b_gaps_of_1 (rng 1 (l.length - 1)) [.im (rowT l), .ow [], .un, .un, .un] = .nx [.im (rowT l), .ow (f'.map .int), s2, s3, s4] := by
  obtain ⟨ρ', e1, s2, s3, s4, e2⟩ := for_rngA (Φ := Φ) (W := n) (t := .nm 2) (b := b_gaps_of_1) 1
    (fun i ρ => ∃ s2 s3 s4, ρ = [.im (rowT l), .ow (((gaps l).take i).map .int), s2, s3, s4]) (l.length - 1) [.im (rowT l), .ow [], .un, .un, .un] ⟨.un, .un, .un, by simp⟩ (fun j ρ hj hp => by
      obtain ⟨s2, s3, s4, rfl⟩ := hp
      obtain ⟨p, h1⟩ := get_of_lt (l := l) (k := j) (by omega)
      obtain ⟨q, h2⟩ := get_of_lt (l := l) (k := j + 1) (by omega)
      have e1 : atI (l.map tp) (1 + (j : Int) - 1) = some (.tup [.int p.1, .int p.2]) := by rw [show 1 + (j : Int) - 1 = (j : Int) by omega]; exact atI_map h1
      have e2 : atI (l.map tp) (1 + (j : Int)) = some (.tup [.int q.1, .int q.2]) := by rw [show 1 + (j : Int) = ((j + 1 : Nat) : Int) by omega]; exact atI_map h2
      have g := take_succ' (gaps_get l j p q h1 h2)
      have hl2 : min j (gaps l).length < sizeLine := line_lt (by omega)
      simp [turnO, b_gaps_of_1, hf, e1, e2, g, hl2])
  refine ⟨gaps l, s2, s3, s4, rfl, ?_⟩
  rw [e1, e2, List.take_of_length_le (by rw [gaps_len]; omega)]
abbrev M_gaps_of (h : List T → R Val) : Prop := ∀ (l : List (Int × Int)), l.length ≤ 100000 → h [rowT l] = .ok (.l true ((gaps l).map .int))
theorem k_gaps_of {Φ : Fe} (n : Nat) (hf : Φ.fok "Row" "stretches" = true) : M_gaps_of (callF Φ n f_gaps_of) := by
  intro l hl
  obtain ⟨f', s2, s3, s4, rfl, e⟩ := l_gaps_of (Φ := Φ) n hf l hl
  have hr : rngOk 1 (l.length : Int) = true := rngOk_2 _ _ (by omega) (by omega) (by omega) (by omega)
  have ht : ((l.length : Int) - 1).toNat = l.length - 1 := by omega
  rw [callF_eq _ _ _ _ rfl]
  simp [f_gaps_of, hf, hr, ht, e]
def mvd (by_ : Int) (l : List (Int × Int)) : List (Int × Int) := l.map fun p => (p.1 + by_, p.2)
theorem asc_mvd (by_ : Int) : ∀ (l : List (Int × Int)) (b : Option Int), Asc b l → Asc (b.map (· + by_)) (mvd by_ l)
  | [], _, _ => trivial
  | p :: l, b, h => by
    refine ⟨h.1, fun e he => ?_, ?_⟩
    · cases b with
      | none => cases he
      | some q =>
        cases he
        have := h.2.1 q rfl
        show q + by_ < p.1 + by_
        omega
    · have := asc_mvd by_ l _ h.2.2
      have e : p.1 + p.2 + by_ = p.1 + by_ + p.2 := by omega
      rw [Option.map_some, e] at this
      exact this
theorem rt_mvd {l : List (Int × Int)} (h : Rt l) (by_ : Int) : Rt (mvd by_ l) := (asc_mvd by_ l none h.asc).rt (by unfold mvd; rw [List.length_map]; exact h.few)
abbrev M_moved (h : List T → R Val) : Prop := ∀ (l : List (Int × Int)) (by_ : Int), Rt l → h [rowT l, .int by_] = .ok (.v (rowT (mvd by_ l)))
theorem k_moved {Φ : Fe} (n : Nat) (hf : Φ.fok "Row" "stretches" = true) {r : List T → R Val} (hr : Φ.cs "Row" = some r) (mr : M_Row r) : M_moved (callF Φ n f_moved) := by
  intro l by_ h
  have lc := lc_map (Φ := Φ) (elt := .tup (.cons (.bin .Add (.v 2) (.v 1)) (.cons (.v 3) .nil))) (tg := .tup (.cons (.nm 2) (.cons (.nm 3) .nil))) (cs := .nil) (ρ := [.im (rowT l), .im (.int by_), .un, .un]) tp (fun p => tp (p.1 + by_, p.2)) l [] (by have := h.few; simp; omega) (fun p _ => by
    refine ⟨[.im (rowT l), .im (.int by_), .im (.int p.1), .im (.int p.2)], .v (tp (p.1 + by_, p.2)), ?_, by simp, ?_, rfl⟩
    · simp [tp]
    · simp [tp])
  have e := (mr _ (rt_mvd h by_)).1
  have e2 : List.map (fun p => tp (p.1 + by_, p.2)) l = (mvd by_ l).map tp := by simp [mvd, List.map_map, Function.comp_def]
  rw [List.nil_append, e2] at lc
  rw [callF_eq _ _ _ _ rfl]
  simp [f_moved, hf, hr, lc, e]
def mir (l : List (Int × Int)) : List (Int × Int) := l.reverse.map fun p => (1 - p.1 - p.2, p.2)
theorem mir_len (l : List (Int × Int)) : (mir l).length = l.length := by simp [mir]
theorem rt_mir {l : List (Int × Int)} (h : Rt l) : Rt (mir l) := by
  have get : ∀ (i : Nat) (p : Int × Int), (mir l)[i]? = some p → i < l.length ∧ ∃ q, l[l.length - 1 - i]? = some q ∧ p = (1 - q.1 - q.2, q.2) := fun i p hp => by
    have hi : i < l.length := by
      have := (List.getElem?_eq_some_iff.mp hp).1
      rwa [mir_len] at this
    refine ⟨hi, ?_⟩
    unfold mir at hp
    rw [List.getElem?_map, List.getElem?_reverse hi, Option.map_eq_some_iff] at hp
    obtain ⟨q, h1, h2⟩ := hp
    exact ⟨q, h1, h2.symm⟩
  refine ⟨by rw [mir_len]; exact h.few, fun i p hp => ?_, fun i p q hp hq => ?_⟩
  · obtain ⟨_, a, ha, rfl⟩ := get i p hp
    exact h.len _ a ha
  · obtain ⟨h1, a, ha, rfl⟩ := get i p hp
    obtain ⟨h2, b, hb, rfl⟩ := get (i + 1) q hq
    have e : l.length - 1 - i = l.length - 1 - (i + 1) + 1 := by omega
    rw [e] at ha
    have := h.gap _ b a hb ha
    show 1 - a.1 - a.2 + a.2 < 1 - b.1 - b.2
    omega
abbrev M_mirrored (h : List T → R Val) : Prop := ∀ (l : List (Int × Int)), Rt l → h [rowT l] = .ok (.v (rowT (mir l)))
theorem k_mirrored {Φ : Fe} (n : Nat) (hf : Φ.fok "Row" "stretches" = true) {r : List T → R Val} (hr : Φ.cs "Row" = some r) (mr : M_Row r) : M_mirrored (callF Φ n f_mirrored) := by
  intro l h
  have lc := lc_map (Φ := Φ) (elt := .tup (.cons (.bin .Sub (.bin .Sub (.int 1) (.v 1)) (.v 2)) (.cons (.v 2) .nil))) (tg := .tup (.cons (.nm 1) (.cons (.nm 2) .nil))) (cs := .nil) (ρ := [.im (rowT l), .un, .un]) tp (fun p => tp (1 - p.1 - p.2, p.2)) l.reverse [] (by have := h.few; simp; omega) (fun p _ => by
    refine ⟨[.im (rowT l), .im (.int p.1), .im (.int p.2)], .v (tp (1 - p.1 - p.2, p.2)), ?_, by simp, ?_, rfl⟩
    · simp [tp]
    · simp [tp])
  have e := (mr _ (rt_mir h)).1
  have e2 : List.map (fun p => tp (1 - p.1 - p.2, p.2)) l.reverse = (mir l).map tp := by simp only [mir, List.map_map, Function.comp_def]
  rw [List.nil_append, e2] at lc
  rw [List.map_reverse] at lc
  rw [callF_eq _ _ _ _ rfl]
  simp [f_mirrored, hf, hr, lc, e]
/-! ### equality of stretches -/
theorem eqV_tt (l m : List (Int × Int)) : eqV (.v (.tup (l.map tp))) (.v (.tup (m.map tp))) = .ok (decide (l = m)) := by
  simp [eqV, scalT, T.data, dtp', shpT, PyData.eqv, eqv_dps]
theorem eqV_ll (l m : List (Int × Int)) (a b : Bool) : eqV (.l a (l.map tp)) (.l b (m.map tp)) = .ok (decide (l = m)) := by
  simp [eqV, scalT, Val.data, T.data, dtp', shp, PyData.eqv, eqv_dps]
theorem eqV_lv (l m : List (Int × Int)) (a : Bool) : eqV (.l a (l.map tp)) (.v (.lst (m.map tp))) = .ok (decide (l = m)) := by
  simp [eqV, scalT, Val.data, T.data, dtp', shp, PyData.eqv, eqv_dps]
theorem eqV_vl (l m : List (Int × Int)) (a : Bool) : eqV (.v (.lst (m.map tp))) (.l a (l.map tp)) = .ok (decide (m = l)) := by
  simp [eqV, scalT, Val.data, T.data, dtp', shp, PyData.eqv, eqv_dps]
theorem eqV_vv (l m : List (Int × Int)) : eqV (.v (.lst (m.map tp))) (.v (.lst (l.map tp))) = .ok (decide (m = l)) := by
  simp [eqV, scalT, Val.data, T.data, dtp', shp, PyData.eqv, eqv_dps]
theorem eqV_pp (p q : Int × Int) : eqV (.v (tp p)) (.v (tp q)) = .ok (decide (p = q)) := by
  have s : ∀ p, SeqAt.shaped (dp p) = true := fun p => by
    unfold SeqAt.shaped dp
    simp [PyData.canLay0, PyData.canLayAll0, PyData.depth, PyData.depthAll]
  have d : ∀ p, (tp p).data = some (dp p) := fun p => rfl
  have e : scalT (tp p) (tp q) = none := rfl
  simp [eqV, e, d, s, eqv_dp]
abbrev M_alike (h : List T → R Val) : Prop := ∀ (l m : List (Int × Int)), h [rowT l, rowT m] = .ok (.v (.bl (decide (l = m))))
theorem k_alike {Φ : Fe} (n : Nat) (hf : Φ.fok "Row" "stretches" = true) : M_alike (callF Φ n f_alike) := by
  intro l m
  rw [callF_eq _ _ _ _ rfl]
  simp [f_alike, hf, eqV_tt]
end Lr

set_option Elab.async false
set_option linter.all false
set_option maxRecDepth 100000
set_option maxHeartbeats 1000000
set_option autoImplicit false
namespace Lr
open PySem PySem.Spec PyProof.Rows L2
/-! ### slices, last places -/
theorem sIx_pos (n d : Nat) {k : Int} (h : 0 ≤ k) : HT.sIx n d (some k) = min k.toNat n := by
  show (if k < 0 then (k + (n : Int)).toNat else min k.toNat n) = _
  rw [if_neg (by omega)]
theorem cut_take {xs : List T} {k : Int} (h0 : 0 ≤ k) : cutT xs none (some k) = xs.take k.toNat := by
  unfold cutT
  rw [sIx_pos _ _ h0, HT.sIx_none, List.drop_zero, Nat.sub_zero, ← List.take_take, List.take_length]
theorem cut_drop {xs : List T} {k : Int} (h0 : 0 ≤ k) : cutT xs (some k) none = xs.drop k.toNat := by
  unfold cutT
  rw [sIx_pos _ _ h0, HT.sIx_none]
  by_cases h : k.toNat ≤ xs.length
  · rw [Nat.min_eq_left h]
    exact List.take_of_length_le (by rw [List.length_drop]; omega)
  · rw [Nat.min_eq_right (by omega), List.drop_length, List.take_nil, List.drop_of_length_le (by omega)]
theorem cut_init {xs : List T} : cutT xs none (some (-1)) = xs.dropLast := by
  unfold cutT
  have e : HT.sIx xs.length xs.length (some (-1)) = ((-1 : Int) + (xs.length : Int)).toNat := rfl
  rw [HT.sIx_none, e, List.drop_zero, Nat.sub_zero, List.dropLast_eq_take]
  congr 1
  omega
theorem cut_all {xs : List T} : cutT xs none none = xs := by
  unfold cutT
  rw [HT.sIx_none, HT.sIx_none, List.drop_zero, Nat.sub_zero, List.take_length]
theorem atI_last {α : Type} {l : List α} {a : α} (h : l[l.length - 1]? = some a) : atI l (-1) = some a := by
  have := (List.getElem?_eq_some_iff.mp h).1
  unfold atI ixN
  rw [if_neg (by decide), if_pos (by omega)]
  show l[((-1 : Int) + (l.length : Int)).toNat]? = some a
  rw [show ((-1 : Int) + (l.length : Int)).toNat = l.length - 1 by omega]
  exact h
theorem ixN_last {n : Nat} (h : 0 < n) : ixN n (-1) = some (n - 1) := by
  unfold ixN
  rw [if_neg (by decide), if_pos (by omega)]
  congr 1
  omega
theorem ixN_nat {n k : Nat} (h : k < n) : ixN n (k : Int) = some k := by
  unfold ixN
  rw [if_pos (by omega), if_pos (by omega), Int.toNat_natCast]
/-! ### what is told is what is due -/
abbrev M_law_told (h : List T → R Val) : Prop := ∀ (l : List (Int × Int)), l.length ≤ 1000 → h [.tup (l.map tp), .lst (l.map tp)] = .ok (.v (.bl true))
theorem k_law_told {Φ : Fe} (n : Nat) {w : List T → R Val} (hw : Φ.fn "_law_whole" = some w) (mw : M_law_whole w) (h3 : Φ.isa (.ty "tuple") (.ty "tuple") = some true) : M_law_told (callF Φ n f_law_told) := by
  intro l hl
  obtain ⟨ρ', e1, s2, rfl⟩ := for_rng (Φ := Φ) (W := n) (t := .nm 2) (b := b_law_told_1) (fun i ρ => ∃ s2, ρ = [.im (.tup (l.map tp)), .im (.lst (l.map tp)), s2]) l.length [.im (.tup (l.map tp)), .im (.lst (l.map tp)), .un] ⟨.un, rfl⟩ (fun j ρ hj hp => by
    obtain ⟨s2, rfl⟩ := hp
    obtain ⟨p, hp⟩ := get_of_lt hj
    have e1 : atI (l.map tp) (j : Int) = some (.tup [.int p.1, .int p.2]) := atI_map hp
    have e2 : eqV (.v (.tup [.int p.1, .int p.2])) (.v (.tup [.int p.1, .int p.2])) = .ok true := by have := eqV_pp p p; rw [decide_eq_true rfl] at this; exact this
    simp [turnO, b_law_told_1, e1, h3, e2, hw, mw])
  have hr : rngOk 0 (l.length : Int) = true := rngOk_nat (by omega)
  rw [callF_eq _ _ _ _ rfl]
  simp [f_law_told, h3, hr, e1]
/-! ### lists of whole numbers -/
def di (i : Int) : PyData := .int i
theorem dis : ∀ l : List Int, datas (l.map .int) = some (l.map di)
  | [] => rfl
  | i :: l => by rw [List.map_cons, datas, dis l]; rfl
theorem lay_di : ∀ l : List Int, PyData.canLayAll0 (l.map di) = true
  | [] => rfl
  | p :: l => by rw [List.map_cons, PyData.canLayAll0, lay_di l]; rfl
theorem dep_di : ∀ l : List Int, PyData.depthAll (l.map di) ≤ 1
  | [] => Nat.zero_le _
  | p :: l => by
    rw [List.map_cons, PyData.depthAll]
    exact Nat.max_le.mpr ⟨by simp [di, PyData.depth], dep_di l⟩
theorem shi (l : List Int) : SeqAt.shaped (.list (l.map di)) = true := by
  unfold SeqAt.shaped
  rw [PyData.canLay0, lay_di l, PyData.depth]
  have := dep_di l
  rw [Bool.true_and]
  exact decide_eq_true (by omega)
theorem eqv_dis : ∀ l m : List Int, PyData.eqvAll (l.map di) (m.map di) = decide (l = m)
  | [], [] => by simp [PyData.eqvAll]
  | [], _ :: _ => by simp [PyData.eqvAll]
  | _ :: _, [] => by simp [PyData.eqvAll]
  | p :: l, q :: m => by
    have h : PyData.eqv (di p) (di q) = decide (p = q) := by
      by_cases h : p = q <;> simp [di, PyData.eqv, h]
    simp only [List.map_cons, PyData.eqvAll, h, eqv_dis l m, List.cons.injEq]
    by_cases h1 : p = q <;> by_cases h2 : l = m <;> simp [h1, h2]
theorem eqI_ll (l m : List Int) (a b : Bool) : eqV (.l a (l.map .int)) (.l b (m.map .int)) = .ok (decide (l = m)) := by
  simp [eqV, scalT, Val.data, T.data, dis, shi, PyData.eqv, eqv_dis]
theorem eqI_vv (l m : List Int) : eqV (.v (.lst (l.map .int))) (.v (.lst (m.map .int))) = .ok (decide (l = m)) := by
  simp [eqV, scalT, Val.data, T.data, dis, shi, PyData.eqv, eqv_dis]
theorem eqI_vl (l m : List Int) (a : Bool) : eqV (.v (.lst (l.map .int))) (.l a (m.map .int)) = .ok (decide (l = m)) := by
  simp [eqV, scalT, Val.data, T.data, dis, shi, PyData.eqv, eqv_dis]
theorem eqI_lv (l m : List Int) (a : Bool) : eqV (.l a (l.map .int)) (.v (.lst (m.map .int))) = .ok (decide (l = m)) := by
  simp [eqV, scalT, Val.data, T.data, dis, shi, PyData.eqv, eqv_dis]
theorem eqN_v (l : List (Int × Int)) : eqV (.v (.lst (l.map tp))) (.l true []) = .ok (decide (l = [])) := eqV_vl [] l true
theorem eqN_l (l : List (Int × Int)) (a : Bool) : eqV (.l a (l.map tp)) (.l true []) = .ok (decide (l = [])) := eqV_ll l [] a true
/-! ### ascending from a place on -/
def endo : Option Int → List (Int × Int) → Option Int
  | b, [] => b
  | _, p :: l => endo (some (p.1 + p.2)) l
theorem asc_app : ∀ (l m : List (Int × Int)) (b : Option Int), Asc b (l ++ m) ↔ Asc b l ∧ Asc (endo b l) m
  | [], m, b => ⟨fun h => ⟨trivial, h⟩, fun h => h.2⟩
  | p :: l, m, b => by
    have := asc_app l m (some (p.1 + p.2))
    constructor
    · intro h
      have h2 := this.mp h.2.2
      exact ⟨⟨h.1, h.2.1, h2.1⟩, h2.2⟩
    · intro h
      exact ⟨h.1.1, h.1.2.1, this.mpr ⟨h.1.2.2, h.2⟩⟩
theorem Asc.lower : ∀ (l : List (Int × Int)) (b c : Option Int), Asc b l → (∀ e, c = some e → ∃ f, b = some f ∧ e ≤ f) → Asc c l
  | [], _, _, _, _ => trivial
  | p :: l, b, c, h, hc => ⟨h.1, fun e he => by
      obtain ⟨f, hf, hle⟩ := hc e he
      have := h.2.1 f hf
      omega, h.2.2⟩
/-- a row beside a right one -/
theorem Rt.near {l m : List (Int × Int)} (h : Rt l) (hl : m.length = l.length) (hn : ∀ (i : Nat) (p : Int × Int), m[i]? = some p → ∃ q, l[i]? = some q ∧ p.1 = q.1 ∧ 1 ≤ p.2 ∧ (p.2 ≤ q.2 ∨ i + 1 = l.length)) : Rt m := by
  refine ⟨by rw [hl]; exact h.few, fun i p hp => ?_, fun i p q hp hq => ?_⟩
  · obtain ⟨q, _, _, h1, _⟩ := hn i p hp
    exact h1
  · obtain ⟨a, a1, a2, a3, a4⟩ := hn i p hp
    obtain ⟨b, b1, b2, _, _⟩ := hn (i + 1) q hq
    have := h.gap i a b a1 b1
    have hlt := (List.getElem?_eq_some_iff.mp b1).1
    rcases a4 with a4 | a4
    · omega
    · omega
end Lr

set_option Elab.async false
set_option linter.all false
set_option maxRecDepth 100000
set_option maxHeartbeats 1000000
set_option autoImplicit false
namespace Lr
open PySem PySem.Spec PyProof.Rows L2
/-! ### texts -/
theorem log_ok {i : Int} (h1 : -(10 ^ 300) < i) (h2 : i < 10 ^ 300) : i.natAbs.log2 < 1920 := by
  by_cases h : i.natAbs = 0
  · rw [h]; decide
  · rw [Nat.log2_lt h]
    have : i.natAbs < 10 ^ 300 := by omega
    exact Nat.lt_of_lt_of_le this (by decide +kernel)
def iS (i : Int) : Str := toString i
@[simp] theorem str_i (i : Int) : strF [.v (.int i)] = if decide (i.natAbs.log2 < 1920) then .ok (.v (.str (iS i))) else .no := (rfl)
theorem iS_len {i : Int} (h : i.natAbs.log2 < 1920) : (iS i).length ≤ 1921 := int_text_len_1921 h
theorem str_ext {a b : Str} (h : a.cps.toList = b.cps.toList) : a = b := by
  cases a; cases b
  congr
  exact Array.toList_inj.mp h
theorem cps_app (a b : Str) : (a ++ b).cps.toList = a.cps.toList ++ b.cps.toList := by
  show (a.cps ++ b.cps).toList = _
  simp
theorem app_assoc (a b c : Str) : a ++ b ++ c = a ++ (b ++ c) := str_ext (by simp [cps_app])
theorem len_app (a b : Str) : (a ++ b).length = a.length + b.length := Str.length_append a b
abbrev M_number_text (h : List T → R Val) : Prop := ∀ i : Int, i.natAbs.log2 < 1920 → h [.int i] = .ok (.v (.str (iS i)))
theorem k_number_text {Φ : Fe} (n : Nat) : M_number_text (callF Φ n f_number_text) := by
  intro i hi
  rw [callF_eq _ _ _ _ rfl]
  simp [f_number_text, hi]
def plusS : Str := Str.ofString "+"
def spS : Str := Str.ofString " "
def nlS : Str := Str.ofString "\n"
def rowW : Str := Str.ofString "row"
def wordS (p : Int × Int) : Str := iS p.1 ++ plusS ++ iS p.2
def catS : List Str → Str
  | [] => Str.empty
  | x :: l => x ++ catS l
theorem emp_app (a : Str) : Str.empty ++ a = a := str_ext (by rw [cps_app]; rfl)
theorem app_emp (a : Str) : a ++ Str.empty = a := str_ext (by rw [cps_app]; simp [Str.empty])
/-- the row of text -/
def rowS (l : List (Int × Int)) : Str := rowW ++ catS (l.map fun p => spS ++ wordS p) ++ nlS
theorem join_sp : ∀ (x : Str) (l : List Str), Txt.join spS (x :: l) = x ++ catS (l.map fun y => spS ++ y) := by
  intro x l
  show Builtin.Str.glued spS (x :: l) = _
  rw [StrLaws.glued_eq_join]
  induction l generalizing x with
  | nil => exact (app_emp x).symm
  | cons y l ih =>
    show x ++ spS ++ Str.join spS (y :: l) = _
    rw [ih y, List.map_cons, catS, app_assoc, ← app_assoc spS]
theorem join_emp : ∀ (x : Str) (l : List Str), Txt.join (Str.ofString "") (x :: l) = x ++ catS l := by
  intro x l
  have e : Str.ofString "" = Str.empty := by decide +kernel
  rw [e]
  show Builtin.Str.glued Str.empty (x :: l) = _
  rw [StrLaws.glued_eq_join]
  induction l generalizing x with
  | nil => exact (app_emp x).symm
  | cons y l ih =>
    show x ++ Str.empty ++ Str.join Str.empty (y :: l) = _
    rw [ih y, app_emp, catS]
/-- its numbers are not too long -/
def Nrm (l : List (Int × Int)) : Prop := ∀ p ∈ l, p.1.natAbs.log2 < 1920 ∧ p.2.natAbs.log2 < 1920
theorem word_len {p : Int × Int} (h : p.1.natAbs.log2 < 1920 ∧ p.2.natAbs.log2 < 1920) : (wordS p).length ≤ 3843 := by
  have h1 := iS_len h.1
  have h2 := iS_len h.2
  have h3 : plusS.length = 1 := by decide +kernel
  unfold wordS
  rw [len_app, len_app]
  omega
theorem strs_map {α : Type} (f : α → Str) : ∀ l : List α, strs? (l.map fun a => T.str (f a)) = some (l.map f)
  | [] => rfl
  | a :: l => by rw [List.map_cons, strs?, strs_map f l]; rfl
theorem sum_len {l : List Str} {m : Nat} (h : ∀ x ∈ l, x.length ≤ m) : (l.map (·.length)).sum ≤ l.length * m := by
  induction l with
  | nil => simp
  | cons a l ih =>
    have h1 := h a (List.mem_cons_self ..)
    have h2 := ih fun x hx => h x (List.mem_cons_of_mem _ hx)
    simp only [List.map_cons, List.sum_cons, List.length_cons, Nat.add_mul, Nat.one_mul]
    omega
theorem joinF_ok (z : Str) (b : Bool) (ys : List Str) (m : Nat) (h : ∀ x ∈ ys, x.length ≤ m) (hz : z.length ≤ 1) (hl : ys.length * (m + 1) ≤ 16777216) : joinF (.v (.str z)) [.l b (ys.map .str)] = .ok (.v (.str (Txt.join z ys))) := by
  have e := strs_map (fun x : Str => x) ys
  rw [List.map_id'] at e
  have s := sum_len h
  have : ys.length * z.length ≤ ys.length * 1 := Nat.mul_le_mul_left _ hz
  have e2 : ys.length * (m + 1) = ys.length * m + ys.length := by rw [Nat.mul_add, Nat.mul_one]
  simp only [joinF, lst_l, Option.bind_some]
  have e : strs? (ys.map T.str) = some ys := e
  rw [e]
  simp only
  rw [if_pos (decide_eq_true (by omega))]
theorem rowS_len {l : List (Int × Int)} (h : Nrm l) (hl : l.length ≤ 100) : (rowW ++ catS (l.map fun p => spS ++ wordS p)).length ≤ 3 + l.length * 3844 := by
  have h3 : rowW.length = 3 := by decide +kernel
  have h4 : spS.length = 1 := by decide +kernel
  have : ∀ l : List (Int × Int), Nrm l → (catS (l.map fun p => spS ++ wordS p)).length ≤ l.length * 3844 := by
    intro l
    induction l with
    | nil => intro _; exact Nat.le_refl 0
    | cons p l ih =>
      intro h
      have h1 := word_len (h p (List.mem_cons_self ..))
      have h2 := ih fun q hq => h q (List.mem_cons_of_mem _ hq)
      rw [List.map_cons, catS, len_app, len_app, List.length_cons, Nat.add_mul]
      omega
  have := this l h
  rw [len_app]
  omega
theorem l_written {Φ : Fe} (n : Nat) (r : T) {c : List T → R Val} (hc : Φ.fn "number_text" = some c) (mc : M_number_text c) : ∀ (l : List (Int × Int)) (acc : List Str) (s2 s3 : Sl), Nrm l → acc.length + l.length ≤ 1000 → ∃ s2' s3', forT Φ n (.tup (.cons (.nm 2) (.cons (.nm 3) .nil))) b_written_1 (l.map tp) [.im r, .ow (acc.map .str), s2, s3] = .nx [.im r, .ow ((acc ++ l.map wordS).map .str), s2', s3']
  | [], acc, s2, s3, _, _ => ⟨s2, s3, by simp⟩
  | p :: l, acc, s2, s3, h, hl => by
    simp only [List.length_cons] at hl
    obtain ⟨s2', s3', e⟩ := l_written n r hc mc l (acc ++ [wordS p]) (.im (.int p.1)) (.im (.int p.2)) (fun q hq => h q (List.mem_cons_of_mem _ hq)) (by simp; omega)
    refine ⟨s2', s3', ?_⟩
    have hp := h p (List.mem_cons_self ..)
    have ha : acc.length < sizeLine := line_lt (by omega)
    have l1 := iS_len hp.1
    have l2 := iS_len hp.2
    have h3 : (Str.ofString "+").length = 1 := by decide +kernel
    have f1 : (iS p.1).length + 1 ≤ 1000000 := by omega
    have f2 : (iS p.1).length + 1 + (iS p.2).length ≤ 1000000 := by omega
    rw [show acc ++ (p :: l).map wordS = acc ++ [wordS p] ++ l.map wordS by simp, ← e]
    simp [forT_cons, tp, b_written_1, hc, mc _ hp.1, mc _ hp.2, h3, f1, f2, len_app, ha, wordS, plusS]
abbrev M_written (h : List T → R Val) : Prop := ∀ l : List (Int × Int), Nrm l → l.length ≤ 100 → h [rowT l] = .ok (.v (.str (rowS l)))
theorem k_written {Φ : Fe} (n : Nat) (hf : Φ.fok "Row" "stretches" = true) {c : List T → R Val} (hc : Φ.fn "number_text" = some c) (mc : M_number_text c) : M_written (callF Φ n f_written) := by
  intro l h hl
  obtain ⟨s2, s3, e⟩ := l_written n (rowT l) hc mc l [rowW] .un .un h (by simp; omega)
  have e : forT Φ n (.tup (.cons (.nm 2) (.cons (.nm 3) .nil))) b_written_1 (l.map tp) [.im (rowT l), .ow [.str (Str.ofString "row")], .un, .un] = .nx [.im (rowT l), .ow ((rowW :: l.map wordS).map .str), s2, s3] := e
  have j := joinF_ok (Str.ofString " ") false (rowW :: l.map wordS) 3843 (fun x hx => by
    rcases List.mem_cons.mp hx with rfl | hx
    · have : rowW.length = 3 := by decide +kernel
      omega
    · obtain ⟨p, hp, rfl⟩ := List.mem_map.mp hx
      exact word_len (h p hp)) (by decide +kernel) (by simp; omega)
  have js := join_sp rowW (l.map wordS)
  rw [List.map_map] at js
  have js : Txt.join (Str.ofString " ") (rowW :: l.map wordS) = rowW ++ catS (l.map fun p => spS ++ wordS p) := js
  rw [js] at j
  have sl := rowS_len h hl
  have n1 : (Str.ofString "\n").length = 1 := by decide +kernel
  have hf1 : (rowW ++ catS (l.map fun p => spS ++ wordS p)).length + 1 ≤ 1000000 := by omega
  have er : rowS l = rowW ++ catS (l.map fun p => spS ++ wordS p) ++ Str.ofString "\n" := rfl
  rw [er]
  generalize rowW ++ catS (l.map fun p => spS ++ wordS p) = rs at *
  generalize (rowW :: l.map wordS).map T.str = ws at *
  rw [callF_eq _ _ _ _ rfl]
  simp [f_written, hf, e, j, n1, hf1]
abbrev M_law_text (h : List T → R Val) : Prop := ∀ l : List (Int × Int), Nrm l → l.length ≤ 100 → h [.lst (l.map tp)] = .ok (.v (.str (rowS l)))
theorem k_law_text {Φ : Fe} (n : Nat) : M_law_text (callF Φ n f_law_text) := by
  intro l h hl
  have p1 : (Str.ofString " ").length = 1 := by decide +kernel
  have p2 : (Str.ofString "+").length = 1 := by decide +kernel
  have lc := lc_map (Φ := Φ) (elt := .bin .Add (.bin .Add (.bin .Add (.str " ") (.ty "str" (.cons (.v 1) .nil))) (.str "+")) (.ty "str" (.cons (.v 2) .nil))) (tg := .tup (.cons (.nm 1) (.cons (.nm 2) .nil))) (cs := .nil) (ρ := [.im (.lst (l.map tp)), .un, .un]) tp (fun p => T.str (spS ++ wordS p)) l [] (by simp; omega) (fun p hp => by
    have hp := h p hp
    have l1 := iS_len hp.1
    have l2 := iS_len hp.2
    refine ⟨[.im (.lst (l.map tp)), .im (.int p.1), .im (.int p.2)], .v (.str (spS ++ wordS p)), by simp [tp], by simp, ?_, rfl⟩
    have f1 : 1 + (iS p.1).length ≤ 1000000 := by omega
    have f2 : 1 + (iS p.1).length + 1 ≤ 1000000 := by omega
    have f3 : 1 + (iS p.1).length + 1 + (iS p.2).length ≤ 1000000 := by omega
    have e : spS ++ wordS p = Str.ofString " " ++ iS p.1 ++ Str.ofString "+" ++ iS p.2 := by
      unfold wordS
      rw [← app_assoc, ← app_assoc]
      rfl
    rw [e]
    simp [hp.1, hp.2, f1, f2, f3, len_app, p1, p2])
  have e2 : l.map (fun p => T.str (spS ++ wordS p)) = (l.map fun p => spS ++ wordS p).map .str := by simp only [List.map_map, Function.comp_def]
  rw [List.nil_append, e2] at lc
  have j := joinF_ok (Str.ofString "") true (rowW :: l.map fun p => spS ++ wordS p) 3844 (fun x hx => by
    rcases List.mem_cons.mp hx with rfl | hx
    · have : rowW.length = 3 := by decide +kernel
      omega
    · obtain ⟨p, hp, rfl⟩ := List.mem_map.mp hx
      have := word_len (h p hp)
      have h4 : spS.length = 1 := by decide +kernel
      rw [len_app]
      omega) (by decide +kernel) (by simp; omega)
  rw [join_emp, List.map_cons] at j
  have sl := rowS_len h hl
  have n1 : (Str.ofString "\n").length = 1 := by decide +kernel
  have hf1 : (rowW ++ catS (l.map fun p => spS ++ wordS p)).length + 1 ≤ 1000000 := by omega
  have er : rowS l = rowW ++ catS (l.map fun p => spS ++ wordS p) ++ Str.ofString "\n" := rfl
  have hf2 : 1 + (l.map fun p => spS ++ wordS p).length ≤ 1000000 := by simp; omega
  rw [er]
  generalize rowW ++ catS (l.map fun p => spS ++ wordS p) = rs at *
  generalize hws : (l.map fun p => spS ++ wordS p) = ws at *
  have j : joinF (.v (.str (Str.ofString ""))) [.l true (.str (Str.ofString "row") :: ws.map .str)] = .ok (.v (.str rs)) := j
  rw [callF_eq _ _ _ _ rfl]
  simp [f_law_text, lc, j, n1, hf1, hf2]
end Lr

set_option Elab.async false
set_option linter.all false
set_option maxRecDepth 100000
set_option maxHeartbeats 1000000
set_option autoImplicit false
/-! Stg: a body in stages. -/
namespace Lr
open PySem PySem.Spec PyProof.Rows L2
def Ss.take : Nat → Ss → Ss
  | 0, _ => .nil
  | _ + 1, .nil => .nil
  | n + 1, .cons s ss => .cons s (Ss.take n ss)
def Ss.drop : Nat → Ss → Ss
  | 0, ss => ss
  | _ + 1, .nil => .nil
  | n + 1, .cons _ ss => Ss.drop n ss
@[simp] theorem ss_take0 (ss : Ss) : Ss.take 0 ss = .nil := (rfl)
@[simp] theorem ss_take1 (n : Nat) (s : S) (ss : Ss) : Ss.take (n + 1) (.cons s ss) = .cons s (Ss.take n ss) := (rfl)
@[simp] theorem ss_drop0 (ss : Ss) : Ss.drop 0 ss = ss := (rfl)
@[simp] theorem ss_drop1 (n : Nat) (s : S) (ss : Ss) : Ss.drop (n + 1) (.cons s ss) = Ss.drop n ss := (rfl)
theorem evSs_split (Φ : Fe) (W : Nat) : ∀ (k : Nat) (ss : Ss) (ρ : Lr.Env), evSs Φ W ss ρ = (evSs Φ W (Ss.take k ss) ρ).andThen (evSs Φ W (Ss.drop k ss))
  | 0, ss, ρ => by rw [ss_take0, t_s0, ss_drop0, Out.andThen_nx]
  | k + 1, .nil, ρ => by
    have e1 : Ss.take (k + 1) .nil = .nil := rfl
    have e2 : Ss.drop (k + 1) .nil = .nil := rfl
    rw [e1, e2, t_s0, Out.andThen_nx, t_s0]
  | k + 1, .cons s ss, ρ => by
    rw [ss_take1, ss_drop1, t_s1, t_s1]
    cases evS Φ W s ρ with
    | nx ρ1 => rw [Out.andThen_nx, Out.andThen_nx]; exact evSs_split Φ W k ss ρ1
    | _ => rfl
/-- .. of what is left behind k statements -/
theorem evSs_split' (Φ : Fe) (W : Nat) (k j : Nat) (ss : Ss) (ρ : Lr.Env) : evSs Φ W (Ss.drop k ss) ρ = (evSs Φ W (Ss.take j (Ss.drop k ss)) ρ).andThen (evSs Φ W (Ss.drop (k + j) ss)) := by
  rw [evSs_split Φ W j]
  congr 2
  induction k generalizing ss with
  | zero => rw [Nat.zero_add]; rfl
  | succ k ih =>
    cases ss with
    | nil =>
      have e1 : ∀ n, Ss.drop n .nil = .nil := fun n => by cases n <;> rfl
      rw [e1, e1, e1]
    | cons s ss => rw [ss_drop1, ih, show k + 1 + j = (k + j) + 1 by omega, ss_drop1]
/-- a def by stages -/
theorem callF_st (Φ : Fe) (n : Nat) (f : Fn) (ts : List T) (k : Nat) {ρ : Lr.Env} {r : R Val} (h : ts.length = f.arity) (h1 : evSs Φ n (Ss.take k f.body) (startE f.names.length ts) = .nx ρ) (h2 : (evSs Φ n (Ss.drop k f.body) ρ).ret = r) : callF Φ n f ts = r := by
  rw [callF_eq _ _ _ _ h, evSs_split Φ n k, h1, Out.andThen_nx, h2]
theorem st_next {Φ : Fe} {n k j : Nat} {ss : Ss} {ρ ρ' : Lr.Env} {r : R Val} (h1 : evSs Φ n (Ss.take j (Ss.drop k ss)) ρ = .nx ρ') (h2 : (evSs Φ n (Ss.drop (k + j) ss) ρ').ret = r) : (evSs Φ n (Ss.drop k ss) ρ).ret = r := by
  rw [evSs_split' Φ n k j, h1, Out.andThen_nx, h2]
end Lr

set_option Elab.async false
set_option linter.all false
set_option maxRecDepth 100000
set_option maxHeartbeats 2000000
set_option autoImplicit false
set_option exponentiation.threshold 2000
namespace Lr
open PySem PySem.Spec PyProof.Rows L2
/-! N1: numbers read. -/
theorem tl_cut1 (z : Str) : TL.tl (cutS z none (some 1)) = (TL.tl z).take 1 := by
  have hl := TL.len_tl z
  unfold cutS
  rw [sIx_pos _ _ (by decide), HT.sIx_none, List.drop_zero, Nat.sub_zero]
  show (List.take (min (1 : Int).toNat z.length) z.cps.toList) = _
  rw [show (1 : Int).toNat = 1 from rfl, hl, ← List.take_take, List.take_length]
theorem tl_cutd (z : Str) : TL.tl (cutS z (some 1) none) = (TL.tl z).drop 1 := by
  have hl : z.length = z.cps.toList.length := TL.len_tl z
  unfold cutS
  rw [sIx_pos _ _ (by decide), HT.sIx_none]
  show (List.take (z.length - min (1 : Int).toNat z.length) (List.drop (min (1 : Int).toNat z.length) z.cps.toList)) = _
  rw [show (1 : Int).toNat = 1 from rfl]
  by_cases h : 1 ≤ z.length
  · rw [Nat.min_eq_left h]
    exact List.take_of_length_le (by rw [List.length_drop]; omega)
  · have : z.cps.toList = [] := List.eq_nil_of_length_eq_zero (by omega)
    show _ = (z.cps.toList).drop 1
    rw [this]
    simp
theorem tl_iS (i : Int) : TL.tl (iS i) = if i < 0 then 45 :: TL.numL i.natAbs else TL.numL i.natAbs := by
  cases i with
  | ofNat n =>
    have : ¬ (Int.ofNat n : Int) < 0 := by simp
    rw [if_neg this]
    exact TL.tl_num n
  | negSucc n =>
    rw [if_pos (Int.negSucc_lt_zero n)]
    have e : (toString (Int.negSucc n) : String) = "-" ++ toString (((n + 1 : Nat)) : Int) := rfl
    show TL.tl (Str.ofString (toString (Int.negSucc n))) = _
    have e2 := TL.tl_num (n + 1)
    rw [TL.tl_ofString] at e2
    rw [TL.tl_ofString, e, String.toList_append, List.map_append, e2]
    rfl
theorem numL_head (n : Nat) : (TL.numL n = [48] ∧ n = 0) ∨ ∃ c r, TL.numL n = c :: r ∧ 49 ≤ c ∧ c ≤ 57 := by
  induction n using Nat.strongRecOn with
  | _ n ih =>
    by_cases h : n < 10
    · rw [TL.numL_lt h]
      by_cases h0 : n = 0
      · subst h0; exact .inl ⟨rfl, rfl⟩
      · exact .inr ⟨_, [], rfl, by omega, by omega⟩
    · rw [TL.numL_step (by omega)]
      rcases ih (n / 10) (by omega) with ⟨_, h2⟩ | ⟨c, r, h1, h2⟩
      · omega
      · exact .inr ⟨c, r ++ [48 + n % 10], by rw [h1]; rfl, h2⟩
theorem natpow {i : Int} (h : -(10 ^ 200) < i ∧ i < 10 ^ 200) : i.natAbs < 10 ^ 200 := by omega
theorem str_ne {a b : Str} (h : TL.tl a ≠ TL.tl b) : a ≠ b := fun e => h (by rw [e])
def figS : Str := Str.ofString "0123456789"
theorem fig_in {c : Nat} (h : 48 ≤ c ∧ c ≤ 57) : c ∈ (Str.ofString "0123456789").cps.toList := by
  have e : (Str.ofString "0123456789").cps.toList = [48, 49, 50, 51, 52, 53, 54, 55, 56, 57] := by
    show TL.tl _ = _
    rw [TL.tl_ofString]
    decide +kernel
  rw [e]
  have : c = 48 ∨ c = 49 ∨ c = 50 ∨ c = 51 ∨ c = 52 ∨ c = 53 ∨ c = 54 ∨ c = 55 ∨ c = 56 ∨ c = 57 := by omega
  simp
  omega
theorem l_figs {Φ : Fe} (W : Nat) (hg : Φ.glb "FIGURES" = .ok (.v (.str (Str.ofString "0123456789")))) (a0 a1 : Sl) : ∀ (cs : List Nat) (s2 : Sl), NumText.AllDigits cs → ∃ s2', forT Φ W (.nm 2) b_number_told_1 (cs.map fun c => T.str ⟨#[c]⟩) [a0, a1, s2] = .nx [a0, a1, s2']
  | [], s2, _ => ⟨s2, by simp⟩
  | c :: cs, s2, h => by
    obtain ⟨s2', e⟩ := l_figs W hg a0 a1 cs (.im (.str ⟨#[c]⟩)) h.tail
    refine ⟨s2', ?_⟩
    have hc := h.head
    have iv : inV (.v (.str ⟨#[c]⟩)) (.v (.str (Str.ofString "0123456789"))) = .ok true := by
      show (if decide ((⟨#[c]⟩ : Str).length = 1) then R.ok (decide ((⟨#[c]⟩ : Str).cps.getD 0 0 ∈ (Str.ofString "0123456789").cps.toList)) else .no) = _
      have l1 : (⟨#[c]⟩ : Str).length = 1 := rfl
      rw [l1]
      have : (⟨#[c]⟩ : Str).cps.getD 0 0 = c := rfl
      rw [this]
      simp [fig_in hc]
    have turn : turnO Φ W (.nm 2) b_number_told_1 (.str ⟨#[c]⟩) [a0, a1, s2] = .nx [a0, a1, .im (.str ⟨#[c]⟩)] := by
      have cn : ∀ x y, cmpV .NotIn x y = (inV x y).bind fun k => .ok (!k) := fun _ _ => rfl
      generalize Str.ofString "0123456789" = F at *
      simp [turnO, b_number_told_1, hg, cn, iv]
    unfold turnO at turn
    rw [List.map_cons, forT_cons, turn, loop_nx, e]
abbrev M_number_told (h : List T → R Val) : Prop := ∀ i : Int, -(10 ^ 200) < i ∧ i < 10 ^ 200 → h [.str (iS i)] = .ok (.v (.int i))
theorem k_number_told {Φ : Fe} (W : Nat) (hg : Φ.glb "FIGURES" = .ok (.v (.str (Str.ofString "0123456789")))) (hm : Φ.glb "MOST_FIGURES" = .ok (.v (.int 200))) : M_number_told (callF Φ W f_number_told) := by
  intro i hi
  have na : i < 0 → -((i.natAbs : Nat) : Int) = i := fun h => by omega
  have nb : ¬ i < 0 → ((i.natAbs : Nat) : Int) = i := fun h => by omega
  have ht := tl_iS i
  have hl := TL.numL_len (n := i.natAbs) (k := 200) (by decide) (natpow hi)
  have hd := TL.numL_digits i.natAbs
  have hne := TL.numL_ne i.natAbs
  have hv := TL.numL_val i.natAbs
  have hh := numL_head i.natAbs
  generalize hz : iS i = z at *
  generalize hN : TL.numL i.natAbs = N at *
  have m1 : TL.tl (Str.ofString "-") = [45] := by rw [TL.tl_ofString]; rfl
  have m0 : TL.tl (Str.ofString "") = [] := by rw [TL.tl_ofString]; rfl
  have mz : TL.tl (Str.ofString "0") = [48] := by rw [TL.tl_ofString]; rfl
  have mm : TL.tl (Str.ofString "-0") = [45, 48] := by rw [TL.tl_ofString]; rfl
  have zl := TL.len_tl z
  -- the figures
  obtain ⟨F, hF⟩ : ∃ F : Str, F = if i < 0 then cutS z (some 1) none else z := ⟨_, rfl⟩
  have tF : TL.tl F = N := by
    rw [hF]
    split
    · rename_i h
      rw [if_pos h] at ht
      rw [tl_cutd, ht]
      rfl
    · rename_i h
      rw [if_neg h] at ht
      exact ht
  have Fl := TL.len_tl F
  rw [tF] at Fl
  have zlen : z.length ≤ 201 := by
    rw [zl, ht]
    split
    · rw [List.length_cons]; omega
    · omega
  have it : intText? z = some i := by
    by_cases h : i < 0
    · rw [if_pos h] at ht
      have e := intText_neg (x := z) (cs := N) ht hd hne (by omega)
      rw [e, hv, na h]
    · rw [if_neg h] at ht
      have e := intText_digits (x := z) (by rw [show z.cps.toList = N from ht]; exact hd) (by rw [show z.cps.toList = N from ht]; exact hne) (by omega)
      rw [e, show z.cps.toList = N from ht, hv, nb h]
  have fz : fitsL z.length = true := fits (by omega)
  have fF : fitsL F.length = true := fits (by omega)
  have F0 : ¬ F = Str.ofString "" := str_ne (by rw [tF, m0]; exact hne)
  have Fm : ¬ (200 : Int) < (F.length : Int) := by omega
  have zm : ¬ z = Str.ofString "-0" := str_ne (by
    rw [ht, mm]
    split
    · intro e
      have e : N = [48] := (List.cons.inj e).2
      rcases hh with ⟨_, h⟩ | ⟨c, r, h1, h2⟩
      · omega
      · rw [h1] at e
        have := (List.cons.inj e).1
        omega
    · intro e
      rcases hh with ⟨h, _⟩ | ⟨c, r, h1, h2⟩
      · rw [h] at e; cases e
      · rw [h1] at e
        have := (List.cons.inj e).1
        omega)
  obtain ⟨c, r, hc⟩ : ∃ c r, N = c :: r := by
    cases hN2 : N with
    | nil => exact (hne hN2).elim
    | cons c r => exact ⟨c, r, rfl⟩
  have at0 : atI F.cps.toList 0 = some c := by
    rw [show F.cps.toList = N from tF, hc]
    have := atI_map (f := fun c : Nat => c) (l := c :: r) (k := 0) rfl
    rw [List.map_id'] at this
    exact this
  have dig : ((⟨#[c]⟩ : Str) = Str.ofString "0") → ¬ (1 : Int) < (F.length : Int) := fun e => by
    have e2 : TL.tl (⟨#[c]⟩ : Str) = TL.tl (Str.ofString "0") := by rw [e]
    rw [mz] at e2
    have e2 : [c] = [48] := e2
    have e3 : c = 48 := (List.cons.inj e2).1
    rcases hh with ⟨h, _⟩ | ⟨c', r', h1, h2⟩
    · rw [h] at Fl
      simp at Fl
      omega
    · rw [h1] at hc
      have := (List.cons.inj hc).1
      omega
  have sg : signs F = N.map fun c => T.str ⟨#[c]⟩ := by unfold signs; rw [show F.cps.toList = N from tF]
  obtain ⟨s2, e⟩ := l_figs (Φ := Φ) W hg (.im (.str z)) (.im (.str F)) N .un hd
  rw [← sg] at e
  have A : evSs Φ W (Ss.take 2 f_number_told.body) [.im (.str z), .un, .un] = .nx [.im (.str z), .im (.str F), .un] := by
    by_cases h : i < 0
    · rw [if_pos h] at ht hF
      have c1 : cutS z none (some 1) = Str.ofString "-" := TL.ext_tl (by rw [tl_cut1, ht, m1]; rfl)
      rw [hF]
      simp [f_number_told, slV, fz, c1]
    · rw [if_neg h] at ht hF
      have c1 : ¬ cutS z none (some 1) = Str.ofString "-" := str_ne (by
        rw [tl_cut1, ht, m1, hc]
        intro e
        have e := (List.cons.inj e).1
        have := hd c (by rw [hc]; exact List.mem_cons_self ..)
        omega)
      rw [hF]
      simp [f_number_told, slV, fz, c1]
  refine callF_st Φ W f_number_told _ 2 rfl A ?_
  have ix : ixV (.v (.str F)) (.v (.int 0)) = .ok (.v (.str ⟨#[c]⟩)) := by
    show (if fitsL F.length then (match atI F.cps.toList 0 with
      | some c => R.ok (Val.v (.str ⟨#[c]⟩))
      | none => .no) else .no) = _
    rw [fF, at0]
    rfl
  have iF : intF [.v (.str z)] = .ok (.v (.int i)) := by
    show (if decide (z.length ≤ 640) then (match PySem.intText? z with
      | some i => R.ok (Val.v (.int i))
      | none => .no) else .no) = _
    rw [if_pos (decide_eq_true (by omega)), it]
  by_cases h0 : (⟨#[c]⟩ : Str) = Str.ofString "0"
  · have d := dig h0
    simp [f_number_told, F0, fF, hm, Fm, zm, ix, h0, d, e, iF]
  · simp [f_number_told, F0, fF, hm, Fm, zm, ix, h0, e, iF]
/-! ### rows read -/
def signC (c : Nat) : Prop := c = 45 ∨ (48 ≤ c ∧ c ≤ 57)
theorem iS_signs (i : Int) : ∀ c ∈ TL.tl (iS i), signC c := by
  intro c hc
  rw [tl_iS] at hc
  have hd := TL.numL_digits i.natAbs
  split at hc
  · rcases List.mem_cons.mp hc with rfl | hc
    · exact .inl rfl
    · exact .inr (hd c hc)
  · exact .inr (hd c hc)
theorem iS_free (i : Int) {s : Nat} (h : s ≠ 45 ∧ (s < 48 ∨ 57 < s)) : s ∉ TL.tl (iS i) := fun hm => by
  rcases iS_signs i s hm with e | e
  · exact h.1 e
  · omega
theorem tl_plus : TL.tl plusS = [43] := by unfold plusS; rw [TL.tl_ofString]; rfl
theorem tl_sp : TL.tl spS = [32] := by unfold spS; rw [TL.tl_ofString]; rfl
theorem tl_nl : TL.tl nlS = [10] := by unfold nlS; rw [TL.tl_ofString]; rfl
theorem tl_rowW : TL.tl rowW = [114, 111, 119] := by unfold rowW; rw [TL.tl_ofString]; rfl
theorem join_two (y a b : Str) : Txt.join y [a, b] = a ++ y ++ b := by
  rw [TL.join_eq]
  rfl
theorem word_free (p : Int × Int) {s : Nat} (h : s ≠ 45 ∧ s ≠ 43 ∧ (s < 48 ∨ 57 < s)) : s ∉ TL.tl (wordS p) := fun hm => by
  unfold wordS at hm
  rw [TL.tl_append, TL.tl_append, tl_plus] at hm
  rcases List.mem_append.mp hm with hm | hm
  · rcases List.mem_append.mp hm with hm | hm
    · exact iS_free _ ⟨h.1, h.2.2⟩ hm
    · exact h.2.1 (List.mem_singleton.mp hm)
  · exact iS_free _ ⟨h.1, h.2.2⟩ hm
theorem cat_free {s : Nat} (hs : s ≠ 32) : ∀ ws : List Str, (∀ w ∈ ws, s ∉ TL.tl w) → s ∉ TL.tl (catS (ws.map fun w => spS ++ w))
  | [], _, hm => by
    have e : TL.tl Str.empty = [] := rfl
    rw [List.map_nil, catS, e] at hm
    cases hm
  | w :: ws, h, hm => by
    rw [List.map_cons, catS, TL.tl_append, TL.tl_append, tl_sp] at hm
    rcases List.mem_append.mp hm with hm | hm
    · rcases List.mem_append.mp hm with hm | hm
      · exact hs (List.mem_singleton.mp hm)
      · exact h w (List.mem_cons_self ..) hm
    · exact cat_free hs ws (fun v hv => h v (List.mem_cons_of_mem _ hv)) hm
theorem split_word (p : Int × Int) : Txt.split (wordS p) plusS = [iS p.1, iS p.2] := by
  have e : wordS p = Txt.join plusS [iS p.1, iS p.2] := (join_two _ _ _).symm
  rw [e]
  refine TL.split_join (s := 43) (S := []) tl_plus (by decide +kernel) (by simp) fun q hq => ?_
  simp at hq
  rcases hq with rfl | rfl <;> exact iS_free _ (by decide)
theorem split_row (l : List (Int × Int)) : Txt.split (rowS l) nlS = [rowW ++ catS (l.map fun p => spS ++ wordS p), Str.ofString ""] := by
  have e : rowS l = Txt.join nlS [rowW ++ catS (l.map fun p => spS ++ wordS p), Str.ofString ""] := by
    rw [join_two]
    have : (Str.ofString "") = Str.empty := by decide +kernel
    rw [this, app_emp]
    rfl
  rw [e]
  have em : TL.tl (Str.ofString "") = [] := by rw [TL.tl_ofString]; rfl
  refine TL.split_join (s := 10) (S := []) tl_nl (by decide +kernel) (by simp) fun q hq => ?_
  simp only [List.mem_cons, List.not_mem_nil, or_false] at hq
  rcases hq with rfl | rfl
  · rw [TL.tl_append, tl_rowW]
    intro hm
    rcases List.mem_append.mp hm with hm | hm
    · simp at hm
    · have c := cat_free (s := 10) (by decide) (l.map wordS) (fun w hw => by
        obtain ⟨p, hp, rfl⟩ := List.mem_map.mp hw
        exact word_free p (by decide))
      rw [List.map_map] at c
      exact c hm
  · rw [em]; simp
theorem split_words (l : List (Int × Int)) : Txt.split (rowW ++ catS (l.map fun p => spS ++ wordS p)) spS = rowW :: l.map wordS := by
  have e : rowW ++ catS (l.map fun p => spS ++ wordS p) = Txt.join spS (rowW :: l.map wordS) := by
    rw [join_sp, List.map_map]
    rfl
  rw [e]
  refine TL.split_join (s := 32) (S := []) tl_sp (by decide +kernel) (by simp) fun q hq => ?_
  rcases List.mem_cons.mp hq with rfl | hq
  · rw [tl_rowW]; simp
  · obtain ⟨p, hp, rfl⟩ := List.mem_map.mp hq
    exact word_free p (by decide)
theorem splitF_ok (z b : Str) (h : b.length ≠ 0) (hz : z.length ≤ 900000) : splitF (.v (.str z)) [.v (.str b)] = .ok (.l true ((Txt.split z b).map .str)) := by
  show (if !(b.length == 0) && decide (z.length + 2 ≤ sizeLine) then _ else _) = _
  have h1 : (b.length == 0) = false := by simpa using h
  have h2 : decide (z.length + 2 ≤ sizeLine) = true := decide_eq_true (line_le (by omega))
  rw [h1, h2]
  rfl
def Nr2 (l : List (Int × Int)) : Prop := ∀ p ∈ l, (-(10 ^ 200) < p.1 ∧ p.1 < 10 ^ 200) ∧ 0 ≤ p.2 ∧ p.2 < 10 ^ 200
theorem Nr2.nrm {l : List (Int × Int)} (h : Nr2 l) : Nrm l := fun p hp => by
  obtain ⟨⟨h1, h2⟩, h3, h4⟩ := h p hp
  have e : (10 : Int) ^ 200 ≤ 10 ^ 300 := by decide +kernel
  generalize (10 : Int) ^ 200 = A at *
  exact ⟨log_ok (by omega) (by omega), log_ok (by omega) (by omega)⟩
abbrev M_stretch_told (h : List T → R Val) : Prop := ∀ p : Int × Int, (-(10 ^ 200) < p.1 ∧ p.1 < 10 ^ 200) → 0 ≤ p.2 → p.2 < 10 ^ 200 → h [.str (wordS p)] = .ok (.v (tp p))
theorem k_stretch_told {Φ : Fe} (W : Nat) {c : List T → R Val} (hc : Φ.fn "number_told" = some c) (mc : M_number_told c) : M_stretch_told (callF Φ W f_stretch_told) := by
  intro p h1 h2 h3
  have z0 : -(10 ^ 200) < (0 : Int) := by decide +kernel
  have nr : Nr2 [p] := fun q hq => by rw [List.mem_singleton.mp hq]; exact ⟨h1, h2, h3⟩
  have wl := word_len (nr.nrm p (List.mem_singleton.mpr rfl))
  have l2 := iS_len (nr.nrm p (List.mem_singleton.mpr rfl)).2
  have e1 := mc p.1 h1
  have e2 := mc p.2 ⟨by generalize (10 : Int) ^ 200 = A at *; omega, h3⟩
  have sp := splitF_ok (wordS p) (Str.ofString "+") (by decide +kernel) (by omega)
  rw [show Txt.split (wordS p) (Str.ofString "+") = [iS p.1, iS p.2] from split_word p] at sp
  have ht := tl_iS p.2
  rw [if_neg (by omega)] at ht
  have nd := TL.numL_digits p.2.natAbs
  have m1 : TL.tl (Str.ofString "-") = [45] := by rw [TL.tl_ofString]; rfl
  have c1 : ¬ cutS (iS p.2) none (some 1) = Str.ofString "-" := str_ne (by
    rw [tl_cut1, ht, m1]
    intro e
    have : (45 : Nat) ∈ TL.numL p.2.natAbs := List.mem_of_mem_take (by rw [e]; exact List.mem_cons_self ..)
    have := nd 45 this
    omega)
  have fl : fitsL (iS p.2).length = true := fits (by omega)
  rw [callF_eq _ _ _ _ rfl]
  simp at sp
  generalize hw : wordS p = w at *
  simp [f_stretch_told, sp, slV, fl, c1, hc, e1, e2, tp]
abbrev M_read (h : List T → R Val) : Prop := ∀ l : List (Int × Int), Rt l → Nr2 l → h [.str (rowS l)] = .ok (.v (rowT l))
theorem k_read {Φ : Fe} (W : Nat) {c1 c2 : List T → R Val} (h1 : Φ.fn "stretch_told" = some c1) (m1 : M_stretch_told c1) (h2 : Φ.cs "Row" = some c2) (m2 : M_Row c2) : M_read (callF Φ W f_read) := by
  intro l rt nr
  have few := rt.few
  have nm := nr.nrm
  have rl := rowS_len nm (by omega)
  have n1 : nlS.length = 1 := by decide +kernel
  have rl2 : (rowS l).length ≤ 120000 := by
    unfold rowS
    rw [len_app, n1]
    omega
  have s1 := splitF_ok (rowS l) (Str.ofString "\n") (by decide +kernel) (by omega)
  rw [show Txt.split (rowS l) (Str.ofString "\n") = _ from split_row l] at s1
  have s2 := splitF_ok (rowW ++ catS (l.map fun p => spS ++ wordS p)) (Str.ofString " ") (by decide +kernel) (by omega)
  rw [show Txt.split (rowW ++ catS (l.map fun p => spS ++ wordS p)) (Str.ofString " ") = _ from split_words l] at s2
  have lc := fun ρ (hρ : 4 < ρ.length) => lc_map (Φ := Φ) (elt := .call "stretch_told" (.cons (.v 4) .nil)) (tg := .nm 4) (cs := .nil) (ρ := ρ) (T.str ∘ wordS) tp l [] (by simp; omega) (fun p hp => by
    obtain ⟨h1', h2', h3'⟩ := nr p hp
    have e := m1 p h1' h2' h3'
    exact ⟨ρ.set 4 (.im (.str (wordS p))), _, by simp [hρ], by simp, by simp [hρ, h1, e]; rfl, rfl⟩)
  have e2 := (m2 l rt).1
  have ct := fun (x : T) (xs : List T) => cut_drop (xs := x :: xs) (k := 1) (by decide)
  simp at s1 s2 lc
  generalize rowW ++ catS (l.map fun p => spS ++ wordS p) = A at *
  generalize rowS l = RS at *
  have er : rowW = Str.ofString "row" := rfl
  rw [er] at s2
  rw [callF_eq _ _ _ _ rfl]
  simp [f_read, s1, s2, slV, ct, lc, h2, e2, ixV, Val.seq?]
end Lr

set_option Elab.async false
set_option linter.all false
set_option maxRecDepth 100000
set_option maxHeartbeats 2000000
set_option autoImplicit false
set_option exponentiation.threshold 2000
namespace Lr
open PySem PySem.Spec PyProof.Rows L2
def optI : Option Int → T
  | none => .non
  | some i => .int i
theorem optI_flat (o : Option Int) : (optI o).flat = true := by cases o <;> simp [optI]
def figB (c : Nat) : Bool := decide (48 ≤ c ∧ c ≤ 57)
theorem fig_list : (Str.ofString "0123456789").cps.toList = [48, 49, 50, 51, 52, 53, 54, 55, 56, 57] := by
  show TL.tl _ = _
  rw [TL.tl_ofString]
  decide +kernel
theorem in_fig (c : Nat) : inV (.v (.str ⟨#[c]⟩)) (.v (.str (Str.ofString "0123456789"))) = .ok (figB c) := by
  show (if decide ((⟨#[c]⟩ : Str).length = 1) then R.ok (decide ((⟨#[c]⟩ : Str).cps.getD 0 0 ∈ (Str.ofString "0123456789").cps.toList)) else .no) = _
  have l1 : (⟨#[c]⟩ : Str).length = 1 := rfl
  have g : (⟨#[c]⟩ : Str).cps.getD 0 0 = c := rfl
  rw [l1, g, fig_list]
  unfold figB
  rw [if_pos (decide_eq_true rfl)]
  congr 1
  rw [decide_eq_decide]
  simp
  omega
def bodyS (z : Str) : Str := if cutS z none (some 1) = Str.ofString "-" then cutS z (some 1) none else z
def valW (z : Str) : Int := if cutS z none (some 1) = Str.ofString "-" then -((NumText.digitsVal (TL.tl (bodyS z)) : Nat) : Int) else ((NumText.digitsVal (TL.tl (bodyS z)) : Nat) : Int)
def numW (z : Str) : Option Int := if bodyS z = Str.ofString "" ∨ 200 < (bodyS z).length ∨ z = Str.ofString "-0" then none else if (bodyS z).cps.toList[0]? = some 48 ∧ 1 < (bodyS z).length then none else if (TL.tl (bodyS z)).all figB then some (valW z) else none
theorem l_sign {Φ : Fe} (W : Nat) (b : Ss) (a0 a1 : Sl) (hb : ∀ (c : Nat) (s2 : Sl), turnO Φ W (.nm 2) b (.str ⟨#[c]⟩) [a0, a1, s2] = if figB c then .nx [a0, a1, .im (.str ⟨#[c]⟩)] else .rt (.v .non)) : ∀ (cs : List Nat) (s2 : Sl), (cs.all figB = true → ∃ s2', forT Φ W (.nm 2) b (cs.map fun c => T.str ⟨#[c]⟩) [a0, a1, s2] = .nx [a0, a1, s2']) ∧ (cs.all figB = false → forT Φ W (.nm 2) b (cs.map fun c => T.str ⟨#[c]⟩) [a0, a1, s2] = .rt (.v .non))
  | [], s2 => ⟨fun _ => ⟨s2, by simp⟩, fun h => by cases h⟩
  | c :: cs, s2 => by
    obtain ⟨i1, i2⟩ := l_sign (Φ := Φ) W b a0 a1 hb cs (.im (.str ⟨#[c]⟩))
    have t := hb c s2
    unfold turnO at t
    rw [List.all_cons, List.map_cons, forT_cons, t]
    cases hc : figB c with
    | true =>
      rw [if_pos rfl, loop_nx, Bool.true_and]
      exact ⟨i1, i2⟩
    | false =>
      rw [if_neg (by decide), Bool.false_and]
      exact ⟨fun h => (by cases h), fun _ => rfl⟩
theorem body_len (z : Str) : (bodyS z).length ≤ z.length ∧ z.length ≤ (bodyS z).length + 1 := by
  unfold bodyS
  split
  · have a := TL.len_tl (cutS z (some 1) none)
    have b := TL.len_tl z
    rw [tl_cutd, List.length_drop] at a
    omega
  · omega
theorem body_int {z : Str} (h0 : ¬ bodyS z = Str.ofString "") (h2 : (bodyS z).length ≤ 200) (hd : (TL.tl (bodyS z)).all figB = true) : intF [.v (.str z)] = .ok (.v (.int (valW z))) := by
  have bl := body_len z
  have m0 : TL.tl (Str.ofString "") = [] := by rw [TL.tl_ofString]; rfl
  have m1 : TL.tl (Str.ofString "-") = [45] := by rw [TL.tl_ofString]; rfl
  have ne : TL.tl (bodyS z) ≠ [] := fun e => h0 (TL.ext_tl (by rw [e, m0]))
  have dg : NumText.AllDigits (TL.tl (bodyS z)) := fun c hc => of_decide_eq_true (List.all_eq_true.mp hd c hc)
  have it : intText? z = some (valW z) := by
    unfold valW
    by_cases h : cutS z none (some 1) = Str.ofString "-"
    · rw [if_pos h]
      have eb : bodyS z = cutS z (some 1) none := if_pos h
      have e1 : (TL.tl z).take 1 = [45] := by rw [← tl_cut1, h, m1]
      have e2 : TL.tl (bodyS z) = (TL.tl z).drop 1 := by rw [eb, tl_cutd]
      have e3 : z.cps.toList = 45 :: TL.tl (bodyS z) := by
        have := List.take_append_drop 1 (TL.tl z)
        rw [e1, ← e2] at this
        exact this.symm
      exact intText_neg e3 dg ne (by omega)
    · rw [if_neg h]
      have eb : bodyS z = z := if_neg h
      have e := intText_digits (x := z) (by have := dg; rw [eb] at this; exact this) (by have := ne; rw [eb] at this; exact this) (by omega)
      rw [e, eb]
  show (if decide (z.length ≤ 640) then (match PySem.intText? z with
    | some i => R.ok (Val.v (.int i))
    | none => .no) else .no) = _
  rw [if_pos (decide_eq_true (by omega)), it]
theorem body_A (z : Str) (hz : z.length ≤ 1000) (ss : Ss) {Φ : Fe} (W : Nat) : evSs Φ W (.cons (.asg [0] (.nm 1) (.v 0)) (.cons (.ife (.cmp .Eq (.sl (.v 0) .no (.so (.int 1))) (.str "-")) (.cons (.asg [] (.nm 1) (.sl (.v 0) (.so (.int 1)) .no)) .nil) .nil) .nil)) [.im (.str z), .un, .un] = .nx [.im (.str z), .im (.str (bodyS z)), .un] := by
  have fz : fitsL z.length = true := fits (by omega)
  unfold bodyS
  by_cases h : cutS z none (some 1) = Str.ofString "-"
  · rw [if_pos h]
    simp [slV, fz, h]
  · rw [if_neg h]
    simp [slV, fz, h]
theorem body_0 {z : Str} (h0 : ¬ bodyS z = Str.ofString "") : ∃ c r, TL.tl (bodyS z) = c :: r := by
  have m0 : TL.tl (Str.ofString "") = [] := by rw [TL.tl_ofString]; rfl
  cases h : TL.tl (bodyS z) with
  | nil => exact (h0 (TL.ext_tl (by rw [h, m0]))).elim
  | cons c r => exact ⟨c, r, rfl⟩
theorem one_zero (c : Nat) : (⟨#[c]⟩ : Str) = Str.ofString "0" ↔ c = 48 := by
  have mz : TL.tl (Str.ofString "0") = [48] := by rw [TL.tl_ofString]; rfl
  constructor
  · intro e
    have e2 : TL.tl (⟨#[c]⟩ : Str) = TL.tl (Str.ofString "0") := by rw [e]
    rw [mz] at e2
    exact (List.cons.inj (e2 : [c] = [48])).1
  · rintro rfl
    exact TL.ext_tl (by rw [mz])
theorem num_core {Φ : Fe} (W : Nat) (f : Fn) (b : Ss) (hf : f.names.length = 3) (ha : f.arity = 1) (c5 c6 : E) (ht : Ss.take 2 f.body = .cons (.asg [0] (.nm 1) (.v 0)) (.cons (.ife (.cmp .Eq (.sl (.v 0) .no (.so (.int 1))) (.str "-")) (.cons (.asg [] (.nm 1) (.sl (.v 0) (.so (.int 1)) .no)) .nil) .nil) .nil))
    (hd : Ss.drop 2 f.body = (.cons (.ife (.or (.cmp .Eq (.v 1) (.str "")) (.cons (.cmp .Gt (.bi "len" (.cons (.v 1) .nil)) c5) (.cons (.cmp .Eq (.v 0) (.str "-0")) .nil))) (.cons (.ret [] .non) .nil) .nil) (.cons (.ife (.and (.cmp .Eq (.ix (.v 1) (.int 0)) (.str "0")) (.cons c6 .nil)) (.cons (.ret [] .non) .nil) .nil) (.cons (.forr [1] (.nm 2) (.seq (.v 1)) b) (.cons (.ret [] (.ty "int" (.cons (.v 0) .nil))) .nil)))))
    (h5 : ∀ ρ, evE Φ c5 ρ = .ok (.v (.int 200))) (h6 : ∀ z z' : Str, fitsL z'.length = true → (z'.cps.toList[0]? = some 48) → evE Φ c6 [.im (.str z), .im (.str z'), .un] = .ok (.v (.bl (decide (1 < z'.length))))) (hb : ∀ (a0 a1 : Sl) (c : Nat) (s2 : Sl), turnO Φ W (.nm 2) b (.str ⟨#[c]⟩) [a0, a1, s2] = if figB c then .nx [a0, a1, .im (.str ⟨#[c]⟩)] else .rt (.v .non))
    (z : Str) (hz : z.length ≤ 1000) : callF Φ W f [.str z] = .ok (.v (optI (numW z))) := by
  have bl := body_len z
  have A := body_A (Φ := Φ) z hz .nil W
  rw [← ht] at A
  refine callF_st Φ W f _ 2 (by rw [ha]; rfl) (by rw [hf]; exact A) ?_
  rw [hd]
  have fb : fitsL (bodyS z).length = true := fits (by omega)
  generalize hB : bodyS z = B at *
  by_cases h0 : B = Str.ofString ""
  · have hn : numW z = none := by unfold numW; rw [hB, if_pos (.inl h0)]
    have h0 := eq_true h0
    rw [hn]
    simp [h0, optI]
  by_cases h2 : 200 < B.length
  · have hn : numW z = none := by unfold numW; rw [hB, if_pos (.inr (.inl h2))]
    have h2i : (200 : Int) < (B.length : Int) := by omega
    rw [hn]
    simp [h0, fb, h5, h2, h2i, optI]
  have h2i : ¬ (200 : Int) < (B.length : Int) := by omega
  by_cases h3 : z = Str.ofString "-0"
  · have hn : numW z = none := by unfold numW; rw [hB, if_pos (.inr (.inr h3))]
    have h3 := eq_true h3
    rw [hn]
    simp [h0, fb, h5, h2, h2i, h3, optI]
  obtain ⟨c, r, hc⟩ := body_0 (z := z) (by rw [hB]; exact h0)
  rw [hB] at hc
  have blen : B.length = r.length + 1 := by rw [TL.len_tl, hc, List.length_cons]
  have at0 : atI B.cps.toList 0 = some c := by
    rw [show B.cps.toList = c :: r from hc]
    have := atI_map (f := fun c : Nat => c) (l := c :: r) (k := 0) rfl
    rw [List.map_id'] at this
    exact this
  have g0 : B.cps.toList[0]? = some c := by rw [show B.cps.toList = c :: r from hc]; rfl
  have ix : ixV (.v (.str B)) (.v (.int 0)) = .ok (.v (.str ⟨#[c]⟩)) := by
    show (if fitsL B.length then (match atI B.cps.toList 0 with
      | some c => R.ok (Val.v (.str ⟨#[c]⟩))
      | none => .no) else .no) = _
    rw [fb, at0]
    rfl
  have oz := one_zero c
  have sg : signs B = (TL.tl B).map fun c => T.str ⟨#[c]⟩ := rfl
  obtain ⟨l1, l2⟩ := l_sign (Φ := Φ) W b (.im (.str z)) (.im (.str B)) (hb _ _) (TL.tl B) .un
  rw [← sg] at l1 l2
  by_cases h4 : c = 48
  · have o1 := eq_true (oz.mpr h4)
    have e6 := h6 z B fb (by rw [g0, h4])
    by_cases h7 : 1 < B.length
    · have hn : numW z = none := by unfold numW; rw [hB, if_neg (by simp [h0, h2, h3]), if_pos ⟨by rw [g0, h4], h7⟩]
      rw [decide_eq_true h7] at e6
      rw [hn]
      simp [h0, fb, h5, h2i, h3, ix, o1, e6, optI]
    · rw [decide_eq_false h7] at e6
      cases hda : (TL.tl B).all figB with
      | false =>
        have hn : numW z = none := by unfold numW; rw [hB, if_neg (by simp [h0, h2, h3]), if_neg (fun q => h7 q.2), hda]; rfl
        have e := l2 hda
        rw [hn]
        simp [h0, fb, h5, h2i, h3, ix, o1, e6, e, optI]
      | true =>
        have hn : numW z = some (valW z) := by unfold numW; rw [hB, if_neg (by simp [h0, h2, h3]), if_neg (fun q => h7 q.2), hda]; rfl
        obtain ⟨s2', e⟩ := l1 hda
        have i := body_int (z := z) (by rw [hB]; exact h0) (by rw [hB]; omega) (by rw [hB]; exact hda)
        rw [hn]
        simp [h0, fb, h5, h2i, h3, ix, o1, e6, e, optI, i]
  · have o1 : ¬ (⟨#[c]⟩ : Str) = Str.ofString "0" := fun e => h4 (oz.mp e)
    have n4 : ¬ (B.cps.toList[0]? = some 48 ∧ 1 < B.length) := fun q => h4 (by have := q.1; rw [g0] at this; exact Option.some.inj this)
    cases hda : (TL.tl B).all figB with
    | false =>
      have hn : numW z = none := by unfold numW; rw [hB, if_neg (by simp [h0, h2, h3]), if_neg n4, hda]; rfl
      have e := l2 hda
      rw [hn]
      simp [h0, fb, h5, h2i, h3, ix, o1, e, optI]
    | true =>
      have hn : numW z = some (valW z) := by unfold numW; rw [hB, if_neg (by simp [h0, h2, h3]), if_neg n4, hda]; rfl
      obtain ⟨s2', e⟩ := l1 hda
      have i := body_int (z := z) (by rw [hB]; exact h0) (by rw [hB]; omega) (by rw [hB]; exact hda)
      rw [hn]
      simp [h0, fb, h5, h2i, h3, ix, o1, e, optI, i]
abbrev MY_number_told (h : List T → R Val) : Prop := ∀ z : Str, z.length ≤ 1000 → h [.str z] = .ok (.v (optI (numW z)))
theorem ky_number_told {Φ : Fe} (W : Nat) (hg : Φ.glb "FIGURES" = .ok (.v (.str (Str.ofString "0123456789")))) (hm : Φ.glb "MOST_FIGURES" = .ok (.v (.int 200))) : MY_number_told (callF Φ W f_number_told) := by
  intro z hz
  refine num_core (Φ := Φ) W f_number_told b_number_told_1 rfl rfl (.glb "MOST_FIGURES") (.cmp .Gt (.bi "len" (.cons (.v 1) .nil)) (.int 1)) rfl rfl (fun ρ => by simp [hm]) (fun z z' fz _ => ?_) (fun a0 a1 c s2 => ?_) z hz
  · have e : (decide ((1 : Int) < (z'.length : Int))) = decide (1 < z'.length) := by rw [decide_eq_decide]; omega
    simp [fz, ← e]
  · have iv := in_fig c
    have cn : ∀ x y, cmpV .NotIn x y = (inV x y).bind fun k => .ok (!k) := fun _ _ => rfl
    generalize Str.ofString "0123456789" = F at *
    cases hc : figB c with
    | true => rw [hc] at iv; simp [turnO, b_number_told_1, hg, cn, iv]
    | false => rw [hc] at iv; simp [turnO, b_number_told_1, hg, cn, iv]
abbrev M_law_number (h : List T → R Val) : Prop := ∀ z : Str, z.length ≤ 1000 → h [.str z] = .ok (.v (optI (numW z)))
theorem k_law_number {Φ : Fe} (W : Nat) : M_law_number (callF Φ W f_law_number) := by
  intro z hz
  refine num_core (Φ := Φ) W f_law_number b_law_number_1 rfl rfl (.int 200) (.cmp .NotEq (.v 1) (.str "0")) rfl rfl (fun ρ => by simp) (fun z z' fz h48 => ?_) (fun a0 a1 c s2 => ?_) z hz
  · have mz : TL.tl (Str.ofString "0") = [48] := by rw [TL.tl_ofString]; rfl
    have zl := TL.len_tl z'
    have h : z' = Str.ofString "0" ↔ ¬ 1 < z'.length := by
      constructor
      · intro e
        rw [zl, e, mz]
        decide
      · intro h1
        refine TL.ext_tl ?_
        rw [mz]
        have h48 : (TL.tl z')[0]? = some 48 := h48
        cases ht : TL.tl z' with
        | nil => rw [ht] at h48; cases h48
        | cons c r =>
          rw [ht] at h48 zl
          have e1 : c = 48 := by simpa using h48
          have e2 : r = [] := List.eq_nil_of_length_eq_zero (by simp at zl; omega)
          rw [e1, e2]
    by_cases h1 : 1 < z'.length
    · have n0 : ¬ z' = Str.ofString "0" := fun e => (h.mp e) h1
      rw [decide_eq_true h1]
      simp [n0]
    · have n0 := eq_true (h.mpr h1)
      rw [decide_eq_false h1]
      simp [n0]
  · have iv := in_fig c
    have cn : ∀ x y, cmpV .NotIn x y = (inV x y).bind fun k => .ok (!k) := fun _ _ => rfl
    cases hc : figB c with
    | true => rw [hc] at iv; simp [turnO, b_law_number_1, cn, iv]
    | false => rw [hc] at iv; simp [turnO, b_law_number_1, cn, iv]
abbrev M_law_same_v2 (h : List T → R Val) : Prop := ∀ o : Option Int, h [optI o, optI o] = .ok (.v (.bl true))
theorem k_law_same_v2 {Φ : Fe} (W : Nat) {c : List T → R Val} (hc : Φ.fn "_law_whole" = some c) (mc : M_law_whole c) : M_law_same_v2 (callF Φ W f_law_same_v2) := by
  intro o
  rw [callF_eq _ _ _ _ rfl]
  cases o with
  | none => simp [f_law_same_v2, optI]
  | some i =>
    have e := mc i
    simp [f_law_same_v2, optI, hc, e]
theorem repS_len (a : Str) (n : Nat) : (repS a n).length = a.length * n := by
  unfold repS
  show (List.toArray _).size = _
  simp [Str.length, Nat.mul_comm]
theorem cut_len (z : Str) (lo hi : Option Int) : (cutS z lo hi).length ≤ z.length := by
  have e := TL.len_tl z
  unfold cutS
  show (List.toArray _).size ≤ _
  rw [List.size_toArray, List.length_take, List.length_drop]
  have : z.cps.toList.length = z.length := e.symm
  omega
theorem pick_str (ws : List Str) {k : Int} (h0 : 0 ≤ k) (h1 : k < ws.length) : ∃ w ∈ ws, atI (ws.map T.str) k = some (.str w) := by
  obtain ⟨j, rfl⟩ : ∃ j : Nat, k = (j : Int) := ⟨k.toNat, by omega⟩
  obtain ⟨w, hw⟩ := get_of_lt (l := ws) (k := j) (by omega)
  exact ⟨w, List.mem_of_getElem? hw, atI_map (f := T.str) hw⟩
def signsW : List Str := ["0", "+", "-", " ", "_", ".", "a", "1", "9", "x", "e", "\n"].map Str.ofString
def moreA : List Str := ["", "-", "-0", "00", "+5", "1_0", " 7", "7 ", "--3", "1e3", "0x1"].map Str.ofString ++ [Str.ofString "1" ++ repS (Str.ofString "0") 199, Str.ofString "-1" ++ repS (Str.ofString "0") 199]
def moreB : List Str := [Str.ofString "1" ++ repS (Str.ofString "0") 200, Str.ofString "-1" ++ repS (Str.ofString "0") 200, Str.ofString "0" ++ repS (Str.ofString "1") 199]
theorem sg_len : ∀ w ∈ signsW, w.length ≤ 1 := by decide +kernel
theorem mo_len : ∀ w ∈ moreA ++ moreB, w.length ≤ 300 := by
  have h1 : (Str.ofString "1").length = 1 := by decide +kernel
  have h2 : (Str.ofString "-1").length = 2 := by decide +kernel
  have h0 : (Str.ofString "0").length = 1 := by decide +kernel
  have hA : ∀ w ∈ ["", "-", "-0", "00", "+5", "1_0", " 7", "7 ", "--3", "1e3", "0x1"].map Str.ofString, w.length ≤ 300 := by decide +kernel
  intro w hw
  unfold moreA moreB at hw
  rcases List.mem_append.mp hw with hw | hw
  · rcases List.mem_append.mp hw with hw | hw
    · exact hA w hw
    · simp only [List.mem_cons, List.not_mem_nil, or_false] at hw
      rcases hw with rfl | rfl <;> rw [len_app, repS_len] <;> omega
  · simp only [List.mem_cons, List.not_mem_nil, or_false] at hw
    rcases hw with rfl | rfl | rfl <;> rw [len_app, repS_len] <;> omega
abbrev M_law_strange (h : List T → R Val) : Prop := ∀ (z : Str) (k : Int), z.length ≤ 300 → 0 ≤ k → ∃ ws : List Str, h [.str z, .int k] = .ok (.l true (ws.map .str)) ∧ (∀ w ∈ ws, w.length ≤ 1000)
theorem k_law_strange {Φ : Fe} (W : Nat) : M_law_strange (callF Φ W f_law_strange) := by
  intro z k hz hk
  have l1 : (Str.ofString "1").length = 1 := by decide +kernel
  have l2 : (Str.ofString "-1").length = 2 := by decide +kernel
  have l0 : (Str.ofString "0").length = 1 := by decide +kernel
  have p1 : 0 ≤ k % 12 ∧ k % 12 < 12 := by omega
  have p2 : 0 ≤ k / 3 % 16 ∧ k / 3 % 16 < 16 := by omega
  obtain ⟨s, hs, e1⟩ := pick_str signsW (k := k % 12) p1.1 p1.2
  obtain ⟨m, hm, e2⟩ := pick_str (moreA ++ moreB) (k := k / 3 % 16) p2.1 p2.2
  have s1 := sg_len s hs
  have m1 := mo_len m hm
  have zl : (0 : Int) < (z.length : Int) + 1 := by omega
  have q0 := md_nn (k / 16) ((z.length : Int) + 1) zl
  generalize hat : k / 16 % ((z.length : Int) + 1) = at_ at *
  have c1 := cut_len z none (some at_)
  have c2 := cut_len z (some at_) none
  have mul : ∀ (a : Str) (n : Int), a.length = 1 → 0 ≤ n → n ≤ 1000 → binV .Mult (.v (.str a)) (.v (.int n)) = .ok (.v (.str (repS a n.toNat))) := fun a n ha h0 h1 => by
    rw [bin_muls, decide_eq_true (by omega : -(2 ^ 63) ≤ n), decide_eq_true (by omega : n < 2 ^ 63), fits (by rw [ha]; omega)]
    rfl
  have u1 := mul (Str.ofString "0") 199 l0 (by decide) (by decide)
  have u2 := mul (Str.ofString "0") 200 l0 (by decide) (by decide)
  have u3 := mul (Str.ofString "1") 199 l1 (by decide) (by decide)
  have t199 : (199 : Int).toNat = 199 := rfl
  have t200 : (200 : Int).toNat = 200 := rfl
  rw [t199] at u1 u3
  rw [t200] at u2
  have r1 := repS_len (Str.ofString "0") 199
  have r2 := repS_len (Str.ofString "0") 200
  have r3 := repS_len (Str.ofString "1") 199
  rw [l0] at r1 r2
  rw [l1] at r3
  refine ⟨[cutS z none (some at_) ++ s ++ cutS z (some at_) none, m, z ++ s, s ++ z], ?_, fun w hw => ?_⟩
  · have dv16 : divOk 16 = true := by decide
    have dv3 : divOk 3 = true := by decide
    have fz : fitsL z.length = true := fits (by omega)
    have f1 : fitsL ((cutS z none (some at_)).length + s.length) = true := fits (by omega)
    have f2 : fitsL ((cutS z none (some at_)).length + s.length + (cutS z (some at_) none).length) = true := fits (by omega)
    have f3 : fitsL (z.length + s.length) = true := fits (by omega)
    have f4 : fitsL (s.length + z.length) = true := fits (by omega)
    simp only [signsW, List.map_cons, List.map_nil] at e1
    simp only [moreA, moreB, List.map_cons, List.map_nil, List.cons_append, List.nil_append] at e2
    generalize hR1 : repS (Str.ofString "0") 199 = R1 at *
    generalize hR2 : repS (Str.ofString "0") 200 = R2 at *
    generalize hR3 : repS (Str.ofString "1") 199 = R3 at *
    have g1 : fitsL (1 + R1.length) = true := fits (by omega)
    have g2 : fitsL (2 + R1.length) = true := fits (by omega)
    have g3 : fitsL (1 + R2.length) = true := fits (by omega)
    have g4 : fitsL (2 + R2.length) = true := fits (by omega)
    have g5 : fitsL (1 + R3.length) = true := fits (by omega)
    have g6 : fitsL 16 = true := by decide
    have g7 : fitsL 13 = true := by decide
    have g8 : fitsL 12 = true := by decide
    rw [callF_eq _ _ _ _ rfl]
    simp [f_law_strange, -bin_muls, u1, u2, u3, l0, l1, l2, g1, g2, g3, g4, g5, e1, e2, dv16, dv3, fz, zl, hat, slV, f1, f2, f3, f4, len_app]
  · simp only [List.mem_cons, List.not_mem_nil, or_false] at hw
    rcases hw with rfl | rfl | rfl | rfl
    · rw [len_app, len_app]; omega
    · omega
    · rw [len_app]; omega
    · rw [len_app]; omega
theorem pow4_lg (x : Int) (h0 : 0 ≤ x) (h1 : x < 10 ^ 50) : x.natAbs.log2 < 100000 := by
  have e1 : (0 : Int) < 10 ^ 300 := by decide +kernel
  have e2 : (10 : Int) ^ 50 < 10 ^ 300 := by decide +kernel
  have := log_ok (i := x) (by generalize (10 : Int) ^ 300 = A at *; omega) (by generalize (10 : Int) ^ 300 = A at *; generalize (10 : Int) ^ 50 = B at *; omega)
  omega
theorem pow4_lt (x : Int) (h0 : 0 ≤ x) (h1 : x < 10 ^ 50) : 0 ≤ x ^ 4 ∧ x ^ 4 < 10 ^ 200 := by
  refine ⟨Int.pow_nonneg h0, ?_⟩
  obtain ⟨k, rfl⟩ : ∃ k : Nat, x = (k : Int) := ⟨x.toNat, by omega⟩
  have hk : k < 10 ^ 50 := by
    have e : ((10 ^ 50 : Nat) : Int) = 10 ^ 50 := by decide +kernel
    generalize (10 : Int) ^ 50 = A at *
    generalize (10 : Nat) ^ 50 = B at *
    omega
  have h4 : k ^ 4 < (10 ^ 50) ^ 4 := Nat.pow_lt_pow_left hk (by decide)
  have e1 : ((k ^ 4 : Nat) : Int) = (k : Int) ^ 4 := by rw [Int.natCast_pow]
  have e2 : (((10 ^ 50) ^ 4 : Nat) : Int) = 10 ^ 200 := by decide +kernel
  rw [← e1, ← e2]
  exact Int.ofNat_lt.mpr h4
theorem l_words {Φ : Fe} (W : Nat) {c1 c2 c3 : List T → R Val} (h1 : Φ.fn "number_told" = some c1) (my1 : MY_number_told c1) (h2 : Φ.fn "_law_number" = some c2) (m2 : M_law_number c2) (h3 : Φ.fn "_law_same" = some c3) (m3 : M_law_same_v2 c3) (a0 a1 a2 a3 : Sl) : ∀ (ws : List Str) (s4 : Sl), (∀ w ∈ ws, w.length ≤ 1000) → ∃ s4', forT Φ W (.nm 4) b_law_k07_1 (ws.map .str) [a0, a1, a2, a3, s4] = .nx [a0, a1, a2, a3, s4']
  | [], s4, _ => ⟨s4, by simp⟩
  | w :: ws, s4, h => by
    obtain ⟨s4', e⟩ := l_words (Φ := Φ) W h1 my1 h2 m2 h3 m3 a0 a1 a2 a3 ws (.im (.str w)) (fun x hx => h x (List.mem_cons_of_mem _ hx))
    refine ⟨s4', ?_⟩
    have hw := h w (List.mem_cons_self ..)
    have e1 := my1 w hw
    have e2 := m2 w hw
    have fl := optI_flat (numW w)
    have e3 := m3 (numW w)
    generalize optI (numW w) = o at *
    have turn : turnO Φ W (.nm 4) b_law_k07_1 (.str w) [a0, a1, a2, a3, s4] = .nx [a0, a1, a2, a3, .im (.str w)] := by
      simp [turnO, b_law_k07_1, h1, e1, h2, e2, h3, e3, fl]
    unfold turnO at turn
    rw [List.map_cons, forT_cons, turn, loop_nx, e]
theorem k_law_k07 {Φ : Fe} (n : Nat) {c1 c2 c3 c4 c5 : List T → R Val} (h1 : Φ.fn "number_told" = some c1) (m1 : M_number_told c1) (my1 : MY_number_told c1) (h2 : Φ.fn "_law_number" = some c2) (m2 : M_law_number c2) (h3 : Φ.fn "_law_same" = some c3) (m3 : M_law_same_v2 c3) (h4 : Φ.fn "number_text" = some c4) (m4 : M_number_text c4) (h5 : Φ.fn "_law_strange" = some c5) (m5 : M_law_strange c5) (i1 : Φ.isa (.ty "str") (.ty "str") = some true) : M_law (callF Φ n f_law_k07) := by
  intro ns hns
  have dv3 : divOk 3 = true := by decide
  have dv6 : divOk 6 = true := by decide
  have go : ∀ (cs : List Int) (s1 s2 s3 s4 : Sl), ∃ s1' s2' s3' s4', forT Φ n (.nm 1) b_law_k07_2 (cs.map .int) [.im (.lst (ns.map .int)), s1, s2, s3, s4] = .nx [.im (.lst (ns.map .int)), s1', s2', s3', s4'] := by
    intro cs
    induction cs with
    | nil => intro s1 s2 s3 s4; exact ⟨s1, s2, s3, s4, by simp⟩
    | cons cell cs ih =>
      intro s1 s2 s3 s4
      have b0 := md_nn (cell / 3) (10 ^ 60) (by decide)
      have b1 := md_lt (cell / 3) (10 ^ 60) (by decide)
      have b2 := md_nn (cell / 3) (10 ^ 50) (by decide)
      have b3 := md_lt (cell / 3) (10 ^ 50) (by decide)
      obtain ⟨x, hx⟩ : ∃ x, x = cell / 3 % 10 ^ 50 := ⟨_, rfl⟩
      rw [← hx] at b2 b3
      have p4 := pow4_lg x b2 b3
      have pl := pow4_lt x b2 b3
      obtain ⟨y, hy⟩ : ∃ y, y = cell / 3 % 10 ^ 60 := ⟨_, rfl⟩
      rw [← hy] at b0 b1
      obtain ⟨m, hm⟩ : ∃ m : Int, m = if cell % 3 = 1 then x ^ 4 else y := ⟨_, rfl⟩
      have hmb : 0 ≤ m ∧ m < 10 ^ 200 := by
        rw [hm]
        split
        · exact pl
        · have e : (10 : Int) ^ 60 < 10 ^ 200 := by decide +kernel
          generalize (10 : Int) ^ 200 = A at *
          generalize (10 : Int) ^ 60 = B at *
          omega
      obtain ⟨v, hv⟩ : ∃ v : Int, v = if cell % 2 = 1 then -m else m := ⟨_, rfl⟩
      have hvb : -(10 ^ 200) < v ∧ v < 10 ^ 200 := by
        rw [hv]
        generalize (10 : Int) ^ 200 = A at *
        split <;> omega
      have lg : v.natAbs.log2 < 1920 := by
        have e : (10 : Int) ^ 200 ≤ 10 ^ 300 := by decide +kernel
        obtain ⟨g1, g2⟩ := hvb
        generalize (10 : Int) ^ 200 = A at *
        exact log_ok (by omega) (by omega)
      have e4 := m4 v lg
      have e1 := m1 v hvb
      have e3 : c3 [.int v, .int v] = .ok (.v (.bl true)) := m3 (some v)
      have hl : (iS v).length ≤ 300 := by
        have ht := tl_iS v
        have hn := TL.numL_len (n := v.natAbs) (k := 200) (by decide) (natpow hvb)
        have zl := TL.len_tl (iS v)
        rw [ht] at zl
        split at zl
        · rw [List.length_cons] at zl; omega
        · omega
      have k0 := md_nn (cell / 6) (10 ^ 20) (by decide)
      obtain ⟨kk, hkk⟩ : ∃ kk, kk = cell / 6 % 10 ^ 20 := ⟨_, rfl⟩
      rw [← hkk] at k0
      obtain ⟨ws, e5, hws⟩ := m5 (iS v) kk hl k0
      obtain ⟨s4', ew⟩ := l_words (Φ := Φ) n h1 my1 h2 m2 h3 m3 (.im (.lst (ns.map .int))) (.im (.int cell)) (.im (.int v)) (.im (.str (iS v))) ws s4 hws
      obtain ⟨s1', s2', s3', s4'', e⟩ := ih (.im (.int cell)) (.im (.int v)) (.im (.str (iS v))) s4'
      refine ⟨s1', s2', s3', s4'', ?_⟩
      have hx2 : cell / 3 % 100000000000000000000000000000000000000000000000000 = x := hx.symm
      have hy2 : cell / 3 % 1000000000000000000000000000000000000000000000000000000000000 = y := hy.symm
      have hk2 : cell / 6 % 100000000000000000000 = kk := hkk.symm
      have turn : turnO Φ n (.nm 1) b_law_k07_2 (.int cell) [.im (.lst (ns.map .int)), s1, s2, s3, s4] = .nx [.im (.lst (ns.map .int)), .im (.int cell), .im (.int v), .im (.str (iS v)), s4'] := by
        have stp : evSs Φ n (Ss.take 3 b_law_k07_2) [.im (.lst (ns.map .int)), .im (.int cell), s2, s3, s4] = .nx [.im (.lst (ns.map .int)), .im (.int cell), .im (.int v), s3, s4] := by
          by_cases q3 : cell % 3 = 1
          · rw [if_pos q3] at hm
            by_cases q2 : cell % 2 = 1
            · rw [if_pos q2, hm] at hv
              simp [b_law_k07_2, dv3, hx2, hy2, q3, q2, hv, p4]
            · rw [if_neg q2, hm] at hv
              simp [b_law_k07_2, dv3, hx2, hy2, q3, q2, hv, p4]
          · rw [if_neg q3] at hm
            by_cases q2 : cell % 2 = 1
            · rw [if_pos q2, hm] at hv
              simp [b_law_k07_2, dv3, hx2, hy2, q3, q2, hv]
            · rw [if_neg q2, hm] at hv
              simp [b_law_k07_2, dv3, hx2, hy2, q3, q2, hv]
        have fin : evSs Φ n (Ss.drop 3 b_law_k07_2) [.im (.lst (ns.map .int)), .im (.int cell), .im (.int v), s3, s4] = .nx [.im (.lst (ns.map .int)), .im (.int cell), .im (.int v), .im (.str (iS v)), s4'] := by
          clear hv hm hx hy hkk hx2 hy2 e ih
          generalize hz : iS v = z at *
          simp [b_law_k07_2, h4, e4, i1, lg, hz, h1, e1, h3, e3, h5, dv6, hk2, e5, ew]
        have hbd : bindTg (.nm 1) (.v (.int cell)) [.im (.lst (ns.map .int)), s1, s2, s3, s4] = some [.im (.lst (ns.map .int)), .im (.int cell), s2, s3, s4] := by simp
        unfold turnO
        rw [hbd, bindO_some, Out.andThen_nx, evSs_split Φ n 3, stp, Out.andThen_nx, fin]
      unfold turnO at turn
      rw [List.map_cons, forT_cons, turn, loop_nx, e]
  obtain ⟨s1, s2, s3, s4, e⟩ := go (0 :: ns.take 60) .un .un .un .un
  have ct : cutT (ns.map T.int) none (some 60) = (ns.take 60).map T.int := by
    have e60 : (60 : Int).toNat = 60 := rfl
    rw [cut_take (by decide), e60, List.map_take]
  have fl : fitsL (1 + (ns.take 60).length) = true := fits (by rw [List.length_take]; omega)
  rw [List.map_cons] at e
  generalize ns.take 60 = tk at *
  rw [callF_eq _ _ _ _ rfl]
  simp [f_law_k07, slV, ct, fl, e]
end Lr

set_option Elab.async false
set_option linter.all false
set_option maxRecDepth 100000
set_option maxHeartbeats 0
namespace Lr
open PySem PySem.Spec PyProof.Rows L2
abbrev RW := PySem.Challenge.rw_lumprow_k07_numbers_as_texts
def top (i : Nat) : Stmt := PySem.Challenge.pw_lumprow_k07_numbers_as_texts.main.body.getD i (.Pass ⟨0, 0, 0, 0⟩)
def df_law_k07 : He.DefD := ⟨(Str.ofString "law", none), "law", "law", defArgs (top 10), defBody (top 10), defScope (top 10), [], []⟩
theorem rf_law_k07 : RowOk f_law_k07 df_law_k07 := ⟨C8.fnScope_by (by decide +kernel), by decide, by kernel_rfl, by decide +kernel, ⟨rfl, rfl⟩, fun _ _ _ _ _ _ us hl => match us, hl with | [_], _ => rfl⟩
def df_number_told : He.DefD := ⟨(Str.ofString "number_told", none), "number_told", "number_told", defArgs (top 4), defBody (top 4), defScope (top 4), [], []⟩
theorem rf_number_told : RowOk f_number_told df_number_told := ⟨C8.fnScope_by (by decide +kernel), by decide, by kernel_rfl, by decide +kernel, ⟨rfl, rfl⟩, fun _ _ _ _ _ _ us hl => match us, hl with | [_], _ => rfl⟩
def df_number_text : He.DefD := ⟨(Str.ofString "number_text", none), "number_text", "number_text", defArgs (top 3), defBody (top 3), defScope (top 3), [], []⟩
theorem rf_number_text : RowOk f_number_text df_number_text := ⟨C8.fnScope_by (by decide +kernel), by decide, by kernel_rfl, by decide +kernel, ⟨rfl, rfl⟩, fun _ _ _ _ _ _ us hl => match us, hl with | [_], _ => rfl⟩
def df_law_strange : He.DefD := ⟨(Str.ofString "_law_strange", none), "_law_strange", "_law_strange", defArgs (top 9), defBody (top 9), defScope (top 9), [], []⟩
theorem rf_law_strange : RowOk f_law_strange df_law_strange := ⟨C8.fnScope_by (by decide +kernel), by decide, by kernel_rfl, by decide +kernel, ⟨rfl, rfl⟩, fun _ _ _ _ _ _ us hl => match us, hl with | [_, _], _ => rfl⟩
def df_law_same_v2 : He.DefD := ⟨(Str.ofString "_law_same", none), "_law_same", "_law_same", defArgs (top 8), defBody (top 8), defScope (top 8), [], []⟩
theorem rf_law_same_v2 : RowOk f_law_same_v2 df_law_same_v2 := ⟨C8.fnScope_by (by decide +kernel), by decide, by kernel_rfl, by decide +kernel, ⟨rfl, rfl⟩, fun _ _ _ _ _ _ us hl => match us, hl with | [_, _], _ => rfl⟩
def df_law_whole : He.DefD := ⟨(Str.ofString "_law_whole", none), "_law_whole", "_law_whole", defArgs (top 6), defBody (top 6), defScope (top 6), [], []⟩
theorem rf_law_whole : RowOk f_law_whole df_law_whole := ⟨C8.fnScope_by (by decide +kernel), by decide, by kernel_rfl, by decide +kernel, ⟨rfl, rfl⟩, fun _ _ _ _ _ _ us hl => match us, hl with | [_], _ => rfl⟩
def df_law_number : He.DefD := ⟨(Str.ofString "_law_number", none), "_law_number", "_law_number", defArgs (top 7), defBody (top 7), defScope (top 7), [], []⟩
theorem rf_law_number : RowOk f_law_number df_law_number := ⟨C8.fnScope_by (by decide +kernel), by decide, by kernel_rfl, by decide +kernel, ⟨rfl, rfl⟩, fun _ _ _ _ _ _ us hl => match us, hl with | [_], _ => rfl⟩
def e0 : List Ent := []
def e1 : List Ent := .fn "_law_number" f_law_number df_law_number false :: e0
def e2 : List Ent := .fn "_law_whole" f_law_whole df_law_whole false :: e1
def e3 : List Ent := .fn "_law_same" f_law_same_v2 df_law_same_v2 false :: e2
def e4 : List Ent := .fn "_law_strange" f_law_strange df_law_strange false :: e3
def e5 : List Ent := .fn "number_text" f_number_text df_number_text false :: e4
def e6 : List Ent := .fn "number_told" f_number_told df_number_told false :: e5
def e7 : List Ent := .fn "law" f_law_k07 df_law_k07 false :: e6
theorem o0 : ∀ e ∈ e0, EntOk e := fun _ h => nomatch h
theorem o1 : ∀ e ∈ e1, EntOk e := List.forall_mem_cons.mpr ⟨⟨rf_law_number, rfl, fun z => nomatch z⟩, o0⟩
theorem o2 : ∀ e ∈ e2, EntOk e := List.forall_mem_cons.mpr ⟨⟨rf_law_whole, rfl, fun z => nomatch z⟩, o1⟩
theorem o3 : ∀ e ∈ e3, EntOk e := List.forall_mem_cons.mpr ⟨⟨rf_law_same_v2, rfl, fun z => nomatch z⟩, o2⟩
theorem o4 : ∀ e ∈ e4, EntOk e := List.forall_mem_cons.mpr ⟨⟨rf_law_strange, rfl, fun z => nomatch z⟩, o3⟩
theorem o5 : ∀ e ∈ e5, EntOk e := List.forall_mem_cons.mpr ⟨⟨rf_number_text, rfl, fun z => nomatch z⟩, o4⟩
theorem o6 : ∀ e ∈ e6, EntOk e := List.forall_mem_cons.mpr ⟨⟨rf_number_told, rfl, fun z => nomatch z⟩, o5⟩
theorem o7 : ∀ e ∈ e7, EntOk e := List.forall_mem_cons.mpr ⟨⟨rf_law_k07, rfl, fun z => nomatch z⟩, o6⟩
def is0 : List (Cl × Cl × Bool) := [(.ty "NoneType", .ty "bool", false), (.ty "bool", .ty "bool", true), (.ty "int", .ty "bool", false), (.ty "str", .ty "bool", false), (.ty "tuple", .ty "bool", false), (.ty "list", .ty "bool", false), (.ty "NoneType", .ty "int", false), (.ty "bool", .ty "int", true), (.ty "int", .ty "int", true), (.ty "str", .ty "int", false), (.ty "tuple", .ty "int", false), (.ty "list", .ty "int", false), (.ty "NoneType", .ty "str", false), (.ty "bool", .ty "str", false), (.ty "int", .ty "str", false), (.ty "str", .ty "str", true)]
def is1 : List (Cl × Cl × Bool) := [(.ty "tuple", .ty "str", false), (.ty "list", .ty "str", false)]
def xx : Ex := ⟨[], is0 ++ is1, [("MOST_FIGURES", 200)], [], [], [], [("FIGURES", "0123456789")]⟩
def PP (r : List Ent) : Fe := feT xx.fe fuel r
theorem m_law_number : M_law_number (callF (PP e0) fuel f_law_number) := k_law_number (Φ := PP e0) fuel
theorem m_law_whole : M_law_whole (callF (PP e1) fuel f_law_whole) := k_law_whole (Φ := PP e1) fuel (by first | rfl | decide) (by first | rfl | decide)
theorem m_law_same_v2 : M_law_same_v2 (callF (PP e2) fuel f_law_same_v2) := k_law_same_v2 (Φ := PP e2) fuel (by first | rfl | decide) m_law_whole
theorem m_law_strange : M_law_strange (callF (PP e3) fuel f_law_strange) := k_law_strange (Φ := PP e3) fuel
theorem m_number_text : M_number_text (callF (PP e4) fuel f_number_text) := k_number_text (Φ := PP e4) fuel
theorem m_number_told : M_number_told (callF (PP e5) fuel f_number_told) := k_number_told (Φ := PP e5) fuel (by first | rfl | decide) (by first | rfl | decide)
theorem my_number_told : MY_number_told (callF (PP e5) fuel f_number_told) := ky_number_told (Φ := PP e5) fuel (by first | rfl | decide) (by first | rfl | decide)
theorem m_law_k07 : M_law (callF (PP e6) fuel f_law_k07) := k_law_k07 (Φ := PP e6) fuel (by first | rfl | decide) m_number_told my_number_told (by first | rfl | decide) m_law_number (by first | rfl | decide) m_law_same_v2 (by first | rfl | decide) m_number_text (by first | rfl | decide) m_law_strange (by first | rfl | decide)
def nmZ0 : List PySem.Str := ["FIGURES", "MOST_FIGURES", "number_text", "number_told", "_law_whole", "_law_number", "_law_same", "_law_strange"]
def nmsZ : List PySem.Str := nmZ0
abbrev RR : PySem.W.OpenRow := PySem.W.OpenLaw.row RW
theorem hd_run (w : World) : HandSHeadRun.RunEq RR (PySem.W.view RR.prog [10]) (hookN 6 e7 xx) (obN 6 e7 xx) 6000 nmsZ w := by
  intro os
  kernel_rfl
end Lr
open PySem PySem.W PySem.Calls PyProof.Rows in
theorem PySem.Challenge.cw_lumprow_k07_numbers_as_texts_holds : PySem.Challenge.rw_lumprow_k07_numbers_as_texts.Holds := by
  w_on; o_law
  refine HandSHeadRun.head_any (r := OpenLaw.row PySem.Challenge.rw_lumprow_k07_numbers_as_texts) (q := view (OpenLaw.row PySem.Challenge.rw_lumprow_k07_numbers_as_texts).prog [10]) (H := Lr.hookN 6 Lr.e7 Lr.xx) (ob := Lr.obN 6 Lr.e7 Lr.xx) (M := 6000) (loose := Lr.nmsZ) (d := HandSHeadRun.topDef (OpenLaw.row PySem.Challenge.rw_lumprow_k07_numbers_as_texts).prog 10) (kwd := []) Lr.obN_eq
    (by kernel_rfl) (fun s => by kernel_rfl) Lr.hd_run (by kernel_rfl) (by kernel_rfl) (by kernel_rfl) (by rfl) (by first | assumption | decide +kernel) (by decide +kernel) ⟨rfl, rfl, rfl, rfl, rfl, by decide +kernel⟩ ?hw ?hc
  case hw => w_witness2
  case hc =>
    refine L2.walk_ofE (l := PySem.Challenge.rw_lumprow_k07_numbers_as_texts) (n := 63) (k := 16) (x := "script") (CX := L2.CX0) rfl (by decide) (by kernel_rfl) ⟨rfl, by decide, by decide⟩ ?F (fun _ _ _ _ z => z)
    intro w mg fa h Y G hmg0
    have hmg : mg (PySem.Str.ofString "law") = some (.ref fa) := by
      have e : (HandSHeadRun.topDef (OpenLaw.row PySem.Challenge.rw_lumprow_k07_numbers_as_texts).prog 10).name = PySem.Str.ofString "law" := by kernel_rfl
      rw [← e]
      exact hmg0
    exact Lr.law_end (P := (PySem.Challenge.rw_lumprow_k07_numbers_as_texts).prog) (x := Lr.xx) (n := Lr.fuel) (m := 63) (k := 16) (nm := "script") (r := Lr.e6) (f := Lr.f_law_k07) (d := Lr.df_law_k07) rfl Lr.o7 rfl (by decide) Lr.m_law_k07 w mg fa h Y G hmg
