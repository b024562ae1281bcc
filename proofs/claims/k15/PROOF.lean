import PyProof.Rows.All
import Wide.All
import OpenK.AllK
import Wide.FinOn
import HandS.ForMost
import HandS.TupAny
import HandS.TupMul
import HandS.Wide
import HandS.SetFor
import HandS.Zip
import HandS.Conv
import HandS.Sort
import PyProof.EqAt
import PyProof.NeKinds
import PyProof.ReprRoads
import PyProof.Rows.StrOr
import HandS.Style
import HandS.IsInst
import HandS.TupLe
import HandS.NoneIn
import KE.GoesMore
import KE.GoesEnumKw
import HandS.Property
import HandS.FStr
import HandS.OwnEq
import HandS.Ends
import HandS.Words
import PySem.Challenge.RW_twostrokes_k15_order_of_flows
set_option linter.all false
set_option Elab.async false
set_option maxRecDepth 100000
set_option maxHeartbeats 4000000
/-! Mv1: logical values, the logical heap, the small language, its evaluator. No model in sight (but Str, PyData, Key). -/
namespace Mv
open PySem L2

/-- a logical value: tuples by their items, what can change by its number -/
inductive LV where
  | non | bl (b : Bool) | int (i : Int) | str (s : Str) | tup (xs : List LV) | ref (n : Nat)
/-- a logical object -/
inductive LO where
  | lst (xs : List LV)
  | frz (ns : List Int)
  | dic (kvs : List (Key × LV))
  /-- an instance of the class of this name -/
  | ins (c : Str) (fs : List (Str × LV))
abbrev LH := List LO
inductive Out (α : Type) where
  | ok (a : α) (L : LH)
  | ex (c : Str) (fs : List (Str × LV)) (L : LH)
def M (α : Type) : Type := LH → Option (Out α)
def M.ret {α : Type} (a : α) : M α := fun L => some (.ok a L)
def M.no {α : Type} : M α := fun _ => none
def M.bind {α β : Type} (m : M α) (f : α → M β) : M β := fun L =>
  match m L with
  | some (.ok a L1) => f a L1
  | some (.ex c fs L1) => some (.ex c fs L1)
  | none => none
theorem M.bind_bind {α β γ : Type} (m : M α) (f : α → M β) (g : β → M γ) : M.bind (M.bind m f) g = M.bind m fun x => M.bind (f x) g := by
  funext L
  unfold M.bind
  cases m L with
  | none => rfl
  | some o => cases o <;> rfl
theorem M.bind_ret {α β : Type} (a : α) (f : α → M β) : M.bind (M.ret a) f = f a := rfl
/-- go on only if b -/
def M.chk {α : Type} (b : Bool) (m : M α) : M α := if b then m else M.no
def M.ofO {α β : Type} (o : Option α) (f : α → M β) : M β := match o with | some a => f a | none => M.no
/-- the heap, as it stands -/
def M.look {α β : Type} (g : LH → Option α) (f : α → M β) : M β := fun L => match g L with | some a => f a L | none => none

def optAll {α β : Type} (f : α → Option β) : List α → Option (List β)
  | [] => some []
  | x :: r => match f x, optAll f r with
    | some y, some ys => some (y :: ys)
    | _, _ => none

/-! ### data -/
def itemsL (L : LH) : LV → Option (List LV)
  | .ref n => match L[n]? with
    | some (.lst xs) => some xs
    | some (.frz ns) => some (ns.map .int)
    | _ => none
  | _ => none
def items (L : LH) : LV → Option (List LV)
  | .tup xs => some xs
  | v => itemsL L v
/-- nested data: none, bools, intL, texts, tuples, lists -/
def toD (L : LH) : Nat → LV → Option PyData
  | 0, _ => none
  | n + 1, v => match v with
    | .non => some .none
    | .bl b => some (.bool b)
    | .int i => some (.int i)
    | .str s => some (.str s)
    | .tup xs => (optAll (toD L n) xs).map .tuple
    | .ref k => match L[k]? with
      | some (.lst xs) => (optAll (toD L n) xs).map .list
      | some (.frz ns) => some (.list (ns.map .int))
      | _ => none
def intL : List LV → Option (List Int)
  | [] => some []
  | .int i :: r => (intL r).map (i :: ·)
  | _ :: _ => none
def blL : List LV → Option (List Bool)
  | [] => some []
  | .bl i :: r => (blL r).map (i :: ·)
  | _ :: _ => none
def keyOf : LV → Option Key
  | .int i => some (.inl i)
  | .str s => some (.inr s)
  | _ => none
def dval (kvs : List (Key × LV)) (k : Key) : Option LV := (kvs.find? fun kv => decide (kv.1 = k)).map (·.2)
def dput (kvs : List (Key × LV)) (k : Key) (v : LV) : List (Key × LV) :=
  if (kvs.any fun kv => decide (kv.1 = k)) = true then kvs.map (fun kv => if kv.1 = k then (kv.1, v) else kv) else kvs ++ [(k, v)]
def small (n : Nat) : Bool := decide (n ≤ sizeLine)

/-! ### operators -/
inductive BOp where | add | sub | mul | fdiv | mod | pow
inductive COp where | eq | ne | lt | le | gt | ge | inn | nin | iss | isn
def isNon : LV → Bool
  | .non => true
  | _ => false
def new (o : LO) : M LV := fun L => some (.ok (.ref L.length) (L ++ [o]))
def setO (n : Nat) (o : LO) : M Unit := fun L => some (.ok () (L.set n o))

def mulOk (i j : Int) : Bool := decide ((-(2 ^ 64) < i ∧ i < 2 ^ 64) ∨ (-(2 ^ 64) < j ∧ j < 2 ^ 64) ∨ i.natAbs.log2 + j.natAbs.log2 < 1000000)
def divOk (j : Int) : Bool := decide (0 < j ∧ j.natAbs.log2 < 9000)
def reps {α : Type} (xs : List α) (k : Int) : List α := (List.replicate k.toNat xs).flatten

def catR : Option LO → Option LO → M LV
  | some (.lst xs), some (.lst ys) => M.chk (small (xs.length + ys.length)) (new (.lst (xs ++ ys)))
  | _, _ => M.no
def repR (k : Int) : Option LO → M LV
  | some (.lst xs) => M.chk (decide (-(2 ^ 63) ≤ k ∧ k < 2 ^ 63) && small (xs.length * k.toNat)) (new (.lst (reps xs k)))
  | _ => M.no
def binV (op : BOp) (x y : LV) : M LV :=
  match op, x, y with
  | .add, .int i, .int j => M.ret (.int (i + j))
  | .sub, .int i, .int j => M.ret (.int (i - j))
  | .mul, .int i, .int j => M.chk (mulOk i j) (M.ret (.int (i * j)))
  | .fdiv, .int i, .int j => M.chk (divOk j) (M.ret (.int (i / j)))
  | .mod, .int i, .int j => M.chk (decide (0 < j)) (M.ret (.int (i % j)))
  | .pow, .int i, .int j => M.chk (decide (0 ≤ j ∧ j ≤ 1000000 ∧ i.natAbs < 2 ^ 64)) (M.ret (.int (i ^ j.toNat)))
  | .add, .str a, .str b => M.chk (small (a.length + b.length)) (M.ret (.str (a ++ b)))
  | .add, .tup a, .tup b => M.chk (small (a.length + b.length)) (M.ret (.tup (a ++ b)))
  | .add, .ref a, .ref b => fun L => catR L[a]? L[b]? L
  | .mul, .ref a, .int k => fun L => repR k L[a]? L
  | .mul, .tup xs, .int k => M.chk (decide (-(2 ^ 63) ≤ k ∧ k < 2 ^ 63) && small (xs.length * k.toNat)) (M.ret (.tup (reps xs k)))
  | _, _, _ => M.no

/-- a op= b at a name: ints -/
def augV (op : BOp) (x y : LV) : M LV :=
  match op, x, y with
  | .add, .int i, .int j => M.ret (.int (i + j))
  | .sub, .int i, .int j => M.ret (.int (i - j))
  | .mul, .int i, .int j => M.chk (decide ((-(2 ^ 64) < i ∧ i < 2 ^ 64) ∨ (-(2 ^ 64) < j ∧ j < 2 ^ 64))) (M.ret (.int (i * j)))
  | .fdiv, .int i, .int j => M.chk (decide (0 < j ∧ j < 1073741824)) (M.ret (.int (i / j)))
  | _, _, _ => M.no
/-- == of data -/
def eqVd (L : LH) (x y : LV) : Option Bool :=
  match toD L 66 x, toD L 66 y with
  | some d, some e => if SeqAt.shaped d && SeqAt.shaped e then some (PyData.eqv d e) else none
  | _, _ => none
def strPair : LV → LV → Option Bool
  | .str a, .str b => some (decide (a = b))
  | _, _ => none
/-- beside what is empty: tuples, lists -/
def empPair (L : LH) : LV → LV → Option Bool
  | .tup xs, .tup [] => some xs.isEmpty
  | .ref a, .ref b => match L[a]?, L[b]? with
    | some (.lst xs), some (.lst []) => some xs.isEmpty
    | _, _ => none
  | _, _ => none
def eqV (L : LH) (x y : LV) : Option Bool :=
  match strPair x y with
  | some b => some b
  | none => match empPair L x y with
    | some b => some b
    | none => eqVd L x y
def flat : LV → Bool
  | .non | .bl _ | .int _ | .str _ => true
  | _ => false
def flatEq : LV → LV → Bool
  | .non, .non => true
  | .bl a, .bl b => a == b
  | .int a, .int b => a == b
  | .str a, .str b => a == b
  | .bl a, .int b => (if a then 1 else 0) == b
  | .int a, .bl b => a == (if b then 1 else 0)
  | _, _ => false
def inSeq (x : LV) (xs : List LV) : Bool := xs.any fun y => flatEq y x
def cmpV (op : COp) (x y : LV) : M LV :=
  match op, x, y with
  | .eq, x, y => M.look (fun L => eqV L x y) fun b => M.ret (.bl b)
  | .ne, x, y => M.look (fun L => eqV L x y) fun b => M.ret (.bl (!b))
  | .lt, .int i, .int j => M.ret (.bl (decide (i < j)))
  | .le, .int i, .int j => M.ret (.bl (decide (i ≤ j)))
  | .gt, .int i, .int j => M.ret (.bl (decide (j < i)))
  | .ge, .int i, .int j => M.ret (.bl (decide (j ≤ i)))
  | .lt, .tup a, .tup b => M.ofO (intL a) fun m => M.ofO (intL b) fun n => M.ret (.bl (HT.lexLt m n))
  | .inn, x, y => M.look (fun L => items L y) fun ys => M.chk (flat x && ys.all flat) (M.ret (.bl (inSeq x ys)))
  | .iss, .bl a, .bl b => M.ret (.bl (decide (a = b)))
  | .isn, .bl a, .bl b => M.ret (.bl (!decide (a = b)))
  | .iss, x, .non => M.ret (.bl (isNon x))
  | .isn, x, .non => M.ret (.bl (!isNon x))
  | .nin, x, y => M.look (fun L => items L y) fun ys => M.chk (flat x && ys.all flat) (M.ret (.bl (!inSeq x ys)))
  | _, _, _ => M.no

/-- the new dict is filled -/
def dmerge (kvs more : List (Key × LV)) : List (Key × LV) := more.foldl (fun acc kv => dput acc kv.1 kv.2) kvs
def dctR (n : Nat) (kvs : List (Key × LV)) : Option LO → M LV
  | some (.dic []) => M.bind (setO n (.dic kvs)) fun _ => M.ret (.ref n)
  | _ => M.no
/-! ### subscripts -/
def ixR : Option LO → LV → M LV
  | some (.lst xs), .int i => M.ofO (atI xs i) M.ret
  | some (.frz ns), .int i => M.ofO (atI ns i) fun j => M.ret (.int j)
  | some (.dic kvs), k => M.ofO ((keyOf k).bind (dval kvs)) M.ret
  | _, _ => M.no
def ixV (x y : LV) : M LV :=
  match x, y with
  | .tup xs, .int i => M.ofO (atI xs i) M.ret
  | .str s, .int i => M.chk (small s.length) (M.ofO (atI s.cps.toList i) fun c => M.ret (.str ⟨#[c]⟩))
  | .ref n, k => fun L => ixR L[n]? k L
  | _, _ => M.no
def cut {α : Type} (xs : List α) (lo hi : Option Int) : List α := (xs.drop (HT.sIx xs.length 0 lo)).take (HT.sIx xs.length xs.length hi - HT.sIx xs.length 0 lo)
def slV (x : LV) (lo hi : Option Int) : M LV :=
  match x with
  | .tup xs => M.ret (.tup (cut xs lo hi))
  | .ref n => M.look (fun L => itemsL L (.ref n)) fun xs => new (.lst (cut xs lo hi))
  | _ => M.no
/-- x[::-1] -/
def revV (x : LV) : M LV :=
  match x with
  | .tup xs => M.ret (.tup xs.reverse)
  | .ref n => M.look (fun L => itemsL L (.ref n)) fun xs => new (.lst xs.reverse)
  | _ => M.no
/-- o[i] = v -/
def setR (n : Nat) (v : LV) : Option LO → LV → M Unit
  | some (.lst xs), .int k => M.ofO (ixN xs.length k) fun j => setO n (.lst (xs.set j v))
  | some (.dic kvs), k => M.ofO (keyOf k) fun k => M.chk (decide (kvs.length < sizeLine)) (setO n (.dic (dput kvs k v)))
  | _, _ => M.no
def setV (o i v : LV) : M Unit :=
  match o with
  | .ref n => fun L => setR n v L[n]? i L
  | _ => M.no

/-- data that can be shown: dicts too -/
def keyD : Key → PyData
  | .inl i => .int i
  | .inr s => .str s
def toRD (L : LH) : Nat → LV → Option PyData
  | 0, _ => none
  | n + 1, v => match v with
    | .non => some .none
    | .bl b => some (.bool b)
    | .int i => some (.int i)
    | .str s => some (.str s)
    | .tup xs => (optAll (toRD L n) xs).map .tuple
    | .ref k => match L[k]? with
      | some (.lst xs) => (optAll (toRD L n) xs).map .list
      | some (.frz ns) => some (.list (ns.map .int))
      | some (.dic kvs) => (optAll (toRD L n) (kvs.map (·.2))).map fun ds => .dict ((kvs.map fun kv => keyD kv.1).zip ds)
      | _ => none
def toR (L : LH) (x : LV) : Option PyData := toRD L 66 x
/-- an int is shown below this -/
def digLim : Nat := 10 ^ 4300
/-! data whose ints are not too great to be shown -/
mutual
def showB : PyData → Bool
  | .none | .bool _ | .str _ => true
  | .int i => decide (i.natAbs < digLim)
  | .list xs | .tuple xs => showBs xs
  | .dict kvs => showBk kvs
def showBs : List PyData → Bool
  | [] => true
  | x :: xs => showB x && showBs xs
def showBk : List (PyData × PyData) → Bool
  | [] => true
  | (k, v) :: r => showB k && showB v && showBk r
end
/-! ### built-ins -/
inductive Bi where | strB | reprB | len | int | str | repr | list | tuple | abs | min | max | sum | all | any | dict
inductive Ty where | int | bool | str | tuple | list | dict
  deriving DecidableEq
def lenV (L : LH) : LV → Option Nat
  | .str s => if small s.length then some s.length else none
  | .tup xs => some xs.length
  | .ref n => match L[n]? with
    | some (.lst xs) => some xs.length
    | some (.frz xs) => some xs.length
    | some (.dic kvs) => some kvs.length
    | _ => none
  | _ => none
/-- pairs of a key and a value -/
def pairL : List LV → Option (List (Key × LV))
  | [] => some []
  | .tup [k, v] :: r => match keyOf k, pairL r with
    | some k, some kvs => some ((k, v) :: kvs)
    | _, _ => none
  | _ :: _ => none
/-- the distinct ones, in the order in which they are met -/
def dist (ns : List Int) : List Int := ns.foldl PyProof.Rows.step_dedup []
/-- len(set(x)): ints -/
def lsetV (x : LV) : M LV := M.look (fun L => (items L x).bind intL) fun ns => M.chk (decide (ns.length ≤ 4000)) (M.ret (.int ((dist ns).length : Nat)))
/-- list(range(..)), tuple(range(..)) -/
def rglV (t : Bool) (a b : Int) : M LV :=
  let xs := (List.range (b - a).toNat).map fun (i : Nat) => LV.int (a + (i : Int))
  M.chk (decide (-(2 ^ 62) ≤ a ∧ a < 2 ^ 62 ∧ -(2 ^ 62) ≤ b ∧ b < 2 ^ 62 ∧ (b - a).toNat ≤ 2 ^ 24)) (if t then M.ret (.tup xs) else new (.lst xs))
def rgl1K (t : Bool) : LV → M LV
  | .int j => rglV t 0 j
  | _ => M.no
def rgl2K (t : Bool) : LV → LV → M LV
  | .int i, .int j => rglV t i j
  | _, _ => M.no
/-- x in range(a, b) -/
def inrV : LV → LV → LV → M LV
  | .int i, .int a, .int b => M.ret (.bl (decide (a ≤ i ∧ i < b)))
  | _, _, _ => M.no
def biV (b : Bi) (xs : List LV) : M LV :=
  match b, xs with
  | .len, [x] => M.look (fun L => lenV L x) fun n => M.ret (.int n)
  | .int, [.int i] => M.ret (.int i)
  | .str, [.int i] => M.chk (decide (i.natAbs.log2 < 1920)) (M.ret (.str (toString i)))
  | .strB, [.int i] => M.chk (decide (i.natAbs < digLim)) (M.ret (.str (toString i)))
  | .reprB, [x] => M.look (fun L => toR L x) fun d => M.chk (showB d && small d.shown.length && decide (d.depth ≤ 64)) (M.ret (.str d.shown))
  | .repr, [x] => M.look (fun L => toR L x) fun d => M.chk (d.showable && small d.shown.length && decide (d.depth ≤ 64)) (M.ret (.str d.shown))
  | .list, [x] => M.look (fun L => items L x) fun ys => new (.lst ys)
  | .tuple, [x] => M.look (fun L => items L x) fun ys => M.ret (.tup ys)
  | .abs, [.int i] => M.ret (.int (if i < 0 then -i else i))
  | .max, [.int i, .int j] => M.ret (.int (if j > i then j else i))
  | .min, [.int i, .int j] => M.ret (.int (if j < i then j else i))
  | .sum, [x] => M.look (fun L => (itemsL L x).bind intL) fun ns => M.ret (.int ns.sum)
  | .all, [x] => M.look (fun L => (itemsL L x).bind blL) fun bs => M.ret (.bl (bs.all id))
  | .any, [x] => M.look (fun L => (itemsL L x).bind blL) fun bs => M.ret (.bl (bs.any id))
  | .dict, [x] => M.look (fun L => (itemsL L x).bind pairL) fun kvs => new (.dic (dmerge [] kvs))
  | _, _ => M.no
def tyOf (L : LH) : LV → Option (List Ty)
  | .non => some []
  | .bl _ => some [.bool, .int]
  | .int _ => some [.int]
  | .str _ => some [.str]
  | .tup _ => some [.tuple]
  | .ref n => match L[n]? with
    | some (.lst _) => some [.list]
    | some (.dic _) => some [.dict]
    | _ => none
def isiV (x : LV) (t : Ty) : M LV := M.look (fun L => tyOf L x) fun ts => M.ret (.bl (decide (t ∈ ts)))

/-! ### instances -/
/-- the attribute f is set -/
def fput (f : Str) (v : LV) : List (Str × LV) → List (Str × LV)
  | [] => [(f, v)]
  | (g, x) :: r => if g = f then (g, v) :: r else (g, x) :: fput f v r
/-- x.f of an instance of one of the classes -/
def fldR (cs : List Str) (f : Str) : Option LO → M LV
  | some (.ins c fs) => M.chk (cs.contains c) (M.ofO (fs.lookup f) M.ret)
  | _ => M.no
def fldV (cs : List Str) (f : Str) (x : LV) : M LV :=
  match x with
  | .ref n => fun L => fldR cs f L[n]? L
  | _ => M.no
/-- x.f = v -/
def fsetR (cs : List Str) (f : Str) (n : Nat) (v : LV) : Option LO → M Unit
  | some (.ins c fs) => M.chk (cs.contains c && decide (fs.length < 1000)) (setO n (.ins c (fput f v fs)))
  | _ => M.no
def fsetV (cs : List Str) (f : Str) (x v : LV) : M Unit :=
  match x with
  | .ref n => fun L => fsetR cs f n v L[n]? L
  | _ => M.no
/-- the class of an instance that has no attribute of this name; what stands beside the class -/
def clsAt {α : Type} (cs : List (Str × α)) (m : Str) (L : LH) : LV → Option α
  | .ref n => match L[n]? with
    | some (.ins c fs) => if (fs.lookup m).isNone then cs.lookup c else none
    | _ => none
  | _ => none
def clsNm (L : LH) : LV → Option Str
  | .ref n => match L[n]? with
    | some (.ins c _) => some c
    | _ => none
  | _ => none
/-- the def for an operator beside an instance of the same class -/
def opAt (cs : List (Str × Nat)) (m : Str) (L : LH) (x y : LV) : Option Nat := if clsNm L x = clsNm L y then clsAt cs m L x else none
/-- what may stand behind == -/
def yOk (L : LH) (x y : LV) : Bool := match y with
  | .ref m => match L[m]? with
    | some (.ins _ _) => decide (clsNm L x = clsNm L y)
    | some (.lst _) => true
    | some (.dic _) => true
    | _ => false
  | _ => true
def eqAt (cs : List (Str × Nat)) (L : LH) (x y : LV) : Option Nat := if yOk L x y then clsAt cs "__eq__" L x else none
/-- isinstance(x, C): cs tells it of the own classes -/
def isoAt (cs : List (Str × Bool)) (L : LH) : LV → Option Bool
  | .ref n => match L[n]? with
    | some (.ins c _) => cs.lookup c
    | some (.lst _) => some false
    | some (.dic _) => some false
    | _ => none
  | _ => some false
/-- a new instance, its attributes set by the def g -/
def mkV (R : Nat → List LV → M LV) (c : Str) (g : Nat) (zs : List LV) : M LV :=
  M.bind (new (.ins c [])) fun x => M.bind (R g (x :: zs)) fun r => match r with
    | .non => M.ret x
    | _ => M.no
/-- the answer of a == -/
def eqK (ne : Bool) : LV → M LV
  | .bl k => M.ret (.bl (if ne then !k else k))
  | _ => M.no
def ostK (R : Nat → List LV → M LV) (cs : List (Str × Nat)) (x : LV) : M LV := M.look (fun L => clsAt cs "__str__" L x) fun g => M.bind (R g [x]) fun r => match r with
    | .str s => M.ret (.str s)
    | _ => M.no
def olnK (R : Nat → List LV → M LV) (cs : List (Str × Nat)) (x : LV) : M LV := M.look (fun L => clsAt cs "__len__" L x) fun g => M.bind (R g [x]) fun r => match r with
    | .int n => M.chk (decide (0 ≤ n ∧ n < 2 ^ 63)) (M.ret (.int n))
    | _ => M.no
/-- str(x), {x} of texts and ints -/
def fmtV : LV → M Str
  | .str s => M.chk (small s.length) (M.ret s)
  | .int i => M.chk (decide (i.natAbs < digLim)) (M.ret (toString i))
  | _ => M.no
inductive Mth where | append | pop | extend | index | count
def mthR (n : Nat) : Mth → Option LO → List LV → M LV
  | .append, some (.lst ys), [x] => M.chk (decide (ys.length < sizeLine)) (M.bind (setO n (.lst (ys ++ [x]))) fun _ => M.ret .non)
  | .count, some (.lst ys), [x] => M.chk (flat x && ys.all flat) (M.ret (.int ((ys.countP fun y => flatEq y x : Nat) : Int)))
  | .index, some (.lst ys), [x] => M.chk (flat x && ys.all flat) (M.ofO (ys.findIdx? fun y => flatEq y x) fun (j : Nat) => M.ret (.int (j : Int)))
  | .pop, some (.lst ys), [] => M.ofO ys[ys.length - 1]? fun y => M.bind (setO n (.lst ys.dropLast)) fun _ => M.ret y
  | _, _, _ => M.no
def lstAt (L : LH) : LV → Option Unit
  | .ref n => match L[n]? with
    | some (.lst _) => some ()
    | _ => none
  | _ => none
def mthV (m : Mth) (o : LV) (xs : List LV) : M LV :=
  match o with
  | .ref n => fun L => mthR n m L[n]? xs L
  | _ => M.no

/-! ### the small language -/
/-- the name of a def that an operator calls -/
def opName : BOp → Str
  | .add => "__add__"
  | .sub => "__sub__"
  | .mul => "__mul__"
  | .fdiv => "__floordiv__"
  | .mod => "__mod__"
  | .pow => "__pow__"
abbrev LSt := List (Option LV)
/-- what a loop goes through -/
inductive Src where
  | fixed (xs : List LV)
  | live (n : Nat) (k : Nat)
  | zipd (x y : LV) (k : Nat)
  | enmd (x : LV) (k : Nat)
def Src.len : Src → Nat
  | .fixed xs => xs.length
  | .live _ k => k
  | .zipd _ _ k => k
  | .enmd _ k => k
def Src.at (s : Src) (i : Nat) (L : LH) : Option LV := match s with
  | .fixed xs => xs[i]?
  | .live n _ => (itemsL L (.ref n)).bind fun xs => xs[i]?
  | .zipd x y _ => (items L x).bind fun xs => (items L y).bind fun ys => (xs[i]?).bind fun a => (ys[i]?).map fun b => .tup [a, b]
  | .enmd x _ => (items L x).bind fun xs => (xs[i]?).map fun a => .tup [.int (i : Nat), a]
def Src.fin (s : Src) (L : LH) : Bool := match s with
  | .fixed _ => true
  | .live n k => match itemsL L (.ref n) with
    | some xs => decide (xs.length ≤ k)
    | none => false
  | .zipd x y k => decide ((items L x).map List.length = some k) && decide ((items L y).map List.length = some k)
  | .enmd x k => decide ((items L x).map List.length = some k)
/-- zip, enumerate begin -/
def zipLen (L : LH) (x y : LV) : Option Nat := (items L x).bind fun xs => (items L y).bind fun ys => if xs.length = ys.length then some xs.length else none
def zipK (x y : LV) : M Src := M.look (fun L => zipLen L x y) fun k => M.ret (.zipd x y k)
def enmK (x : LV) : M Src := M.look (fun L => (items L x).map List.length) fun k => M.ret (.enmd x k)

mutual
inductive IE where
  | var (i : Nat)
  | lit (v : LV)
  | glo (v : LV)
  | bin (op : BOp) (a b : IE)
  | neg (a : IE)
  | cmp (op : COp) (a b : IE)
  | cmp2 (op op' : COp) (a b c : IE)
  | and (a b : IE)
  | or (a b : IE)
  | not (a : IE)
  | ife (c a b : IE)
  | tup (es : IEs)
  | lst (es : IEs)
  | dct0
  | dct (ks : List Key) (es : IEs)
  | ix (a b : IE)
  | slc (a : IE) (lo hi : IO)
  | rev (a : IE)
  | bi (b : Bi) (es : IEs)
  | isi (a : IE) (t : Ty)
  | mth (m : Mth) (o : IE) (es : IEs)
  /-- a call of the f-th def: the written values, then where each parameter's value stands among them -/
  | call (f : Nat) (es ks : IEs) (perm : List Nat)
  | lset (a : IE)
  | rgl1 (t : Bool) (b : IE)
  | rgl2 (t : Bool) (a b : IE)
  | inr (x a b : IE)
  | comp (own : List Nat) (t : IT) (it : II) (c : IO) (e : IE)
  /-- x.f of an instance of one of the classes -/
  | fld (cs : List Str) (f : Str) (a : IE)
  /-- x.f, a property: a def for each class -/
  | prp (cs : List (Str × Nat)) (f : Str) (a : IE)
  /-- x.m(..): a def for each class; the written values, the keywords', the defaults -/
  | omt (cs : List (Str × Nat)) (m : Str) (o : IE) (es ks : IEs) (ds : List LV) (perm : List Nat)
  /-- C(..) by the def g -/
  | mk (c : Str) (g : Nat) (es ks : IEs) (ds : List LV) (perm : List Nat)
  /-- f(..) with defaults -/
  | calD (f : Nat) (es ks : IEs) (ds : List LV) (perm : List Nat)
  /-- a op b by the left one's class -/
  | obi (op : BOp) (cs : List (Str × Nat)) (a b : IE)
  /-- a == b, a != b by the left one's class -/
  | oeq (ne : Bool) (cs : List (Str × Nat)) (a b : IE)
  /-- str(x), len(x) by the class -/
  | ost (cs : List (Str × Nat)) (a : IE)
  | oln (cs : List (Str × Nat)) (a : IE)
  /-- isinstance(x, C) -/
  | iso (cs : List (Str × Bool)) (c : Str) (a : IE)
  /-- an f-string -/
  | fst (es : IEs)
inductive IEs where
  | nil
  | cons (e : IE) (es : IEs)
/-- an optional part -/
inductive IO where
  | none
  | some (e : IE)
/-- what is walked -/
inductive II where
  | val (e : IE)
  | rng1 (a : IE)
  | rng2 (a b : IE)
  | rng3 (a b c : IE)
  | zip (a b : IE)
  | enm (a : IE)
/-- a target -/
inductive IT where
  | name (i : Nat)
  | tup (ts : ITs)
  | sub (o i : IE)
  | fld (cs : List Str) (f : Str) (o : IE)
inductive ITs where
  | nil
  | cons (t : IT) (ts : ITs)
end

def ITs.len : ITs → Nat
  | .nil => 0
  | .cons _ ts => ts.len + 1
def IEs.len : IEs → Nat
  | .nil => 0
  | .cons _ es => es.len + 1
inductive Fl where
  | nx | bk | ct | rt (v : LV)
inductive IS where
  | asg (t : IT) (e : IE)
  /-- a, b = x, y with local names: the values first, then the stores -/
  | par (is : List Nat) (es : IEs)
  | aug (i : Nat) (op : BOp) (e : IE)
  | exp (e : IE)
  | ret (e : IE)
  | retN
  | ifs (c : IE) (a b : List IS)
  | for (t : IT) (it : II) (b : List IS)
  | whl (c : IE) (b : List IS)
  | brk
  | cnt
  | pss

/-- what a call of the f-th def gives -/
abbrev Cal := Nat → List LV → M LV

def getR : Option (Option LV) → M LV
  | some (some v) => M.ret v
  | _ => M.no
def getV (σ : LSt) (i : Nat) : M LV := getR σ[i]?
def wipeL (σ : LSt) : List Nat → LSt
  | [] => σ
  | v :: vs => (wipeL σ vs).set v none
def permG {α : Type} (vs : List α) : List Nat → Option (List α)
  | [] => some []
  | i :: r => match vs[i]?, permG vs r with
    | some v, some ws => some (v :: ws)
    | _, _ => none
/-- an int part of a slice -/
def partV : LV → Option (Option Int)
  | .int i => some (some i)
  | _ => none
def iterR (n : Nat) : Option LO → M Src
  | some (.lst xs) => M.ret (.live n xs.length)
  | some (.frz ns) => M.ret (.live n ns.length)
  | _ => M.no
def iterV (v : LV) : M Src :=
  match v with
  | .tup xs => M.ret (.fixed xs)
  | .str s => M.chk (small s.length) (M.ret (.fixed (s.cps.toList.map fun c => .str ⟨#[c]⟩)))
  | .ref n => fun L => iterR n L[n]? L
  | _ => M.no
def ints62 (i : Int) : Bool := decide (-(2 ^ 62) ≤ i ∧ i < 2 ^ 62)
def rngV (lo : Int) (n : Nat) : Src := .fixed ((List.range n).map fun (k : Nat) => LV.int (lo + (k : Int)))

/-- a range with a step -/
def rngC (lo c : Int) (n : Nat) : Src := .fixed ((List.range n).map fun (k : Nat) => LV.int (lo + (k : Int) * c))
/-- y behind the list at D -/
def appM (D : Nat) (y : LV) : M LV := fun L => mthR D .append L[D]? [y] L
/-- the turns of a comprehension, the new list at D -/
def compGo (s : Src) (turn : LV → M (Option LV)) (D : Nat) : Nat → Nat → M LV
  | 0, i => fun L => if s.fin L then some (.ok (.ref D) L) else none
  | k + 1, i => fun L => match s.at i L with
    | none => none
    | some x => M.bind (turn x) (fun r => match r with
      | none => compGo s turn D k (i + 1)
      | some y => M.bind (appM D y) fun _ => compGo s turn D k (i + 1)) L

mutual
def evE (R : Cal) : IE → LSt → M LV
  | .var i, σ => getV σ i
  | .lit v, _ => M.ret v
  | .glo v, _ => M.ret v
  | .bin op a b, σ => M.bind (evE R a σ) fun x => M.bind (evE R b σ) fun y => binV op x y
  | .neg a, σ => M.bind (evE R a σ) fun x => match x with
    | .int i => M.ret (.int (-i))
    | _ => M.no
  | .cmp op a b, σ => M.bind (evE R a σ) fun x => M.bind (evE R b σ) fun y => cmpV op x y
  | .cmp2 op op' a b c, σ => M.bind (evE R a σ) fun x => M.bind (evE R b σ) fun y => M.bind (cmpV op x y) fun r => match r with
    | .bl true => M.bind (evE R c σ) fun z => cmpV op' y z
    | .bl false => M.ret (.bl false)
    | _ => M.no
  | .and a b, σ => M.bind (evE R a σ) fun x => match x with
    | .bl true => evE R b σ
    | .bl false => M.ret (.bl false)
    | _ => M.no
  | .or a b, σ => M.bind (evE R a σ) fun x => match x with
    | .bl true => M.ret (.bl true)
    | .bl false => evE R b σ
    | _ => M.no
  | .not a, σ => M.bind (evE R a σ) fun x => match x with
    | .bl b => M.ret (.bl (!b))
    | _ => M.no
  | .ife c a b, σ => M.bind (evE R c σ) fun x => match x with
    | .bl true => evE R a σ
    | .bl false => evE R b σ
    | _ => M.no
  | .tup es, σ => M.bind (evEs R es σ) fun xs => M.chk (small xs.length) (M.ret (.tup xs))
  | .lst es, σ => M.bind (evEs R es σ) fun xs => M.chk (small xs.length) (new (.lst xs))
  | .dct0, _ => new (.dic [])
  | .dct ks es, σ => M.bind (new (.dic [])) fun d => M.bind (evEs R es σ) fun xs => match d with
    | .ref n => fun L => dctR n (dmerge [] (ks.zip xs)) L[n]? L
    | _ => M.no
  | .ix a b, σ => M.bind (evE R a σ) fun x => M.bind (evE R b σ) fun y => ixV x y
  | .slc a lo hi, σ => M.bind (evE R a σ) fun x => M.bind (evO R lo σ) fun l => M.bind (evO R hi σ) fun h => slV x l h
  | .rev a, σ => M.bind (evE R a σ) revV
  | .bi b es, σ => M.bind (evEs R es σ) fun xs => biV b xs
  | .isi a t, σ => M.bind (evE R a σ) fun x => isiV x t
  | .mth m o es, σ => M.bind (evE R o σ) fun x => M.look (fun L => lstAt L x) fun _ => M.bind (evEs R es σ) fun xs => mthV m x xs
  | .lset a, σ => M.bind (evE R a σ) lsetV
  | .rgl1 t b, σ => M.bind (evE R b σ) (rgl1K t)
  | .rgl2 t a b, σ => M.bind (evE R a σ) fun x => M.bind (evE R b σ) fun y => rgl2K t x y
  | .inr x a b, σ => M.bind (evE R x σ) fun u => M.bind (evE R a σ) fun v => M.bind (evE R b σ) fun w => inrV u v w
  | .call f es ks perm, σ => M.bind (evEs R es σ) fun xs => M.bind (evEs R ks σ) fun ys => M.ofO (permG (xs ++ ys) perm) fun zs => R f zs
  | .comp own t it c e, σ => M.bind (evI R it σ) fun src => M.bind (new (.lst [])) fun d => match d with
    | .ref D => compGo src (fun x => M.bind (evT R t x (wipeL σ own)) fun σ2 => M.bind (evC R c σ2) fun k =>
        if k then M.bind (evE R e σ2) fun y => M.ret (some y) else M.ret none) D src.len 0
    | _ => M.no
  | .fld cs f a, σ => M.bind (evE R a σ) (fldV cs f)
  | .prp cs f a, σ => M.bind (evE R a σ) fun x => M.look (fun L => clsAt cs f L x) fun g => R g [x]
  | .omt cs m o es ks ds perm, σ => M.bind (evE R o σ) fun x => M.look (fun L => clsAt cs m L x) fun g =>
      M.bind (evEs R es σ) fun xs => M.bind (evEs R ks σ) fun ys => M.ofO (permG (xs ++ ys ++ ds) perm) fun zs => R g (x :: zs)
  | .mk c g es ks ds perm, σ => M.bind (evEs R es σ) fun xs => M.bind (evEs R ks σ) fun ys => M.ofO (permG (xs ++ ys ++ ds) perm) fun zs => mkV R c g zs
  | .calD f es ks ds perm, σ => M.bind (evEs R es σ) fun xs => M.bind (evEs R ks σ) fun ys => M.ofO (permG (xs ++ ys ++ ds) perm) fun zs => R f zs
  | .obi op cs a b, σ => M.bind (evE R a σ) fun x => M.bind (evE R b σ) fun y => M.look (fun L => opAt cs (opName op) L x y) fun g => R g [x, y]
  | .oeq ne cs a b, σ => M.bind (evE R a σ) fun x => M.bind (evE R b σ) fun y => M.look (fun L => eqAt cs L x y) fun g => M.bind (R g [x, y]) (eqK ne)
  | .ost cs a, σ => M.bind (evE R a σ) (ostK R cs)
  | .oln cs a, σ => M.bind (evE R a σ) (olnK R cs)
  | .iso cs _ a, σ => M.bind (evE R a σ) fun x => M.look (fun L => isoAt cs L x) fun b => M.ret (.bl b)
  | .fst es, σ => M.bind (evFs R es σ Str.empty) fun s => M.ret (.str s)
/-- the parts of an f-string, one behind the other -/
def evFs (R : Cal) : IEs → LSt → Str → M Str
  | .nil, _, acc => M.ret acc
  | .cons e es, σ, acc => M.bind (evE R e σ) fun x => M.bind (fmtV x) fun y => M.chk (small (acc ++ y).length) (evFs R es σ (acc ++ y))
def evEs (R : Cal) : IEs → LSt → M (List LV)
  | .nil, _ => M.ret []
  | .cons e es, σ => M.bind (evE R e σ) fun x => M.bind (evEs R es σ) fun xs => M.ret (x :: xs)
/-- a part of a slice -/
def evO (R : Cal) : IO → LSt → M (Option Int)
  | .none, _ => M.ret none
  | .some e, σ => M.bind (evE R e σ) fun x => match x with
    | .int i => M.ret (some i)
    | _ => M.no
/-- a comprehension's test -/
def evC (R : Cal) : IO → LSt → M Bool
  | .none, _ => M.ret true
  | .some e, σ => M.bind (evE R e σ) fun x => match x with
    | .bl b => M.ret b
    | _ => M.no
def evI (R : Cal) : II → LSt → M Src
  | .val e, σ => M.bind (evE R e σ) iterV
  | .rng1 a, σ => M.bind (evE R a σ) fun x => match x with
    | .int j => M.chk (ints62 j) (M.ret (rngV 0 j.toNat))
    | _ => M.no
  | .rng2 a b, σ => M.bind (evE R a σ) fun x => M.bind (evE R b σ) fun y => match x, y with
    | .int i, .int j => M.chk (ints62 i && ints62 j) (M.ret (rngV i (j - i).toNat))
    | _, _ => M.no
  | .rng3 a b c, σ => M.bind (evE R a σ) fun x => M.bind (evE R b σ) fun y => M.bind (evE R c σ) fun z => match x, y, z with
    | .int i, .int j, .int k => M.chk (ints62 i && ints62 j && decide (0 < k ∧ k < 1073741824)) (M.ret (rngC i k ((j - i + (k - 1)) / k).toNat))
    | _, _, _ => M.no
  | .zip a b, σ => M.bind (evE R a σ) fun x => M.bind (evE R b σ) fun y => zipK x y
  | .enm a, σ => M.bind (evE R a σ) enmK
def evT (R : Cal) : IT → LV → LSt → M LSt
  | .name i, v, σ => M.chk (decide (i < σ.length)) (M.ret (σ.set i (some v)))
  | .tup ts, v, σ => M.look (fun L => items L v) fun xs => M.chk (decide (xs.length = ts.len)) (evTs R ts xs σ)
  | .fld cs f o, v, σ => M.bind (evE R o σ) fun x => M.bind (fsetV cs f x v) fun _ => M.ret σ
  | .sub o i, v, σ => M.bind (evE R o σ) fun x => M.bind (evE R i σ) fun y => M.bind (setV x y v) fun _ => M.ret σ
def evTs (R : Cal) : ITs → List LV → LSt → M LSt
  | .nil, [], σ => M.ret σ
  | .cons t ts, x :: xs, σ => M.bind (evT R t x σ) fun σ1 => evTs R ts xs σ1
  | _, _, _ => M.no
end

/-- the turns of a for -/
def forGo (s : Src) (turn : LV → LSt → M (Fl × LSt)) : Nat → Nat → LSt → M (Fl × LSt)
  | 0, i, σ => fun L => if s.fin L then some (.ok (.nx, σ) L) else none
  | k + 1, i, σ => fun L => match s.at i L with
    | none => none
    | some x => M.bind (turn x σ) (fun (r : Fl × LSt) => match r with
      | (.nx, σ1) => forGo s turn k (i + 1) σ1
      | (.ct, σ1) => forGo s turn k (i + 1) σ1
      | (.bk, σ1) => M.ret (.nx, σ1)
      | (.rt v, σ1) => M.ret (.rt v, σ1)) L
/-- the turns of a while, at most so many -/
def whlGo (c : LSt → M LV) (b : LSt → M (Fl × LSt)) : Nat → LSt → M (Fl × LSt)
  | 0, _ => M.no
  | k + 1, σ => M.bind (c σ) fun x => match x with
    | .bl false => M.ret (.nx, σ)
    | .bl true => M.bind (b σ) fun (r : Fl × LSt) => match r with
      | (.nx, σ1) => whlGo c b k σ1
      | (.ct, σ1) => whlGo c b k σ1
      | (.bk, σ1) => M.ret (.nx, σ1)
      | (.rt v, σ1) => M.ret (.rt v, σ1)
    | _ => M.no
def fuel : Nat := 10 ^ 1000
def setAll : LSt → List Nat → List LV → Option LSt
  | σ, [], [] => some σ
  | σ, i :: is, v :: vs => if i < σ.length then setAll (σ.set i (some v)) is vs else none
  | _, _, _ => none

mutual
def evS (R : Cal) : IS → LSt → M (Fl × LSt)
  | .asg t e, σ => M.bind (evE R e σ) fun x => M.bind (evT R t x σ) fun σ1 => M.ret (.nx, σ1)
  | .par is es, σ => M.bind (evEs R es σ) fun xs => M.ofO (setAll σ is xs) fun σ1 => M.ret (.nx, σ1)
  | .aug i op e, σ => M.bind (getV σ i) fun x => M.bind (evE R e σ) fun y => M.bind (augV op x y) fun z => M.ret (.nx, σ.set i (some z))
  | .exp e, σ => M.bind (evE R e σ) fun _ => M.ret (.nx, σ)
  | .ret e, σ => M.bind (evE R e σ) fun x => M.ret (.rt x, σ)
  | .retN, σ => M.ret (.rt .non, σ)
  | .ifs c a b, σ => M.bind (evE R c σ) fun x => match x with
    | .bl true => evB R a σ
    | .bl false => evB R b σ
    | _ => M.no
  | .for t it b, σ => M.bind (evI R it σ) fun src => forGo src (fun x σ1 => M.bind (evT R t x σ1) fun σ2 => evB R b σ2) src.len 0 σ
  | .whl c b, σ => whlGo (evE R c) (evB R b) fuel σ
  | .brk, σ => M.ret (.bk, σ)
  | .cnt, σ => M.ret (.ct, σ)
  | .pss, σ => M.ret (.nx, σ)
def evB (R : Cal) : List IS → LSt → M (Fl × LSt)
  | [], σ => M.ret (.nx, σ)
  | s :: r, σ => M.bind (evS R s σ) fun (x : Fl × LSt) => match x with
    | (.nx, σ1) => evB R r σ1
    | (f, σ1) => M.ret (f, σ1)
end

/-- a def: how many names, how many of them parameters, the body -/
structure Fn where
  n : Nat
  p : Nat
  body : List IS
def startL (n : Nat) (vs : List LV) : LSt := vs.map some ++ List.replicate (n - vs.length) none
def callFn (R : Cal) (f : Fn) (vs : List LV) : M LV :=
  M.chk (decide (vs.length = f.p)) (M.bind (evB R f.body (startL f.n vs)) fun (r : Fl × LSt) => match r with
    | (.rt v, _) => M.ret v
    | (.nx, _) => M.ret .non
    | _ => M.no)
/-- the program, calls nested at most so deep -/
def run (T : List Fn) : Nat → Cal
  | 0, _, _ => M.no
  | k + 1, f, vs => match T[f]? with
    | some fn => callFn (run T k) fn vs
    | none => M.no
end Mv

/-! Mx1: rules over the hand layer: == and != with an empty tuple or list; len(set(..)) of ints; repr of data with dicts. -/
namespace Mv
open PySem PySem.Spec PyProof.Rows L2
section
variable {X : Cx}
def rEmp (K : PySem.W.Frag) (neg : Bool) : R2 := fun x y H Q => ∃ a b xs, x = .ref a ∧ y = .ref b ∧ ((SqT K H a xs ∧ SqT K H b []) ∨ (SqL K H a xs ∧ SqL K H b [])) ∧ Q (.bl (if neg then !xs.isEmpty else xs.isEmpty)) H
theorem size0 {xs : List V} {its : List Value} (r : Vals xs its) : (its.toArray.size == 0) = xs.isEmpty := by
  have e := r.length
  rw [List.size_toArray, ← e]
  cases xs <;> rfl
theorem op_eqEmp (hu : X.A.units < cLine) : OpR X (compareOp .Eq) (rEmp X.K false) := by
  intro pins s σ H x y v u Q I rx ry h
  obtain ⟨a, b, xs, rfl, rfl, h, q⟩ := h
  cases rx
  cases ry
  rcases h with ⟨h1, h2⟩ | ⟨h1, h2⟩
  · obtain ⟨its, rv, p, _⟩ := I.tuple h1
    obtain ⟨its2, rv2, p2, _⟩ := I.tuple h2
    cases rv2
    refine SeqAt.eq_tupleAt (e := fun _ => true) p p2 hu (fun j _ z => absurd z (by simp)) ⟨.bl xs.isEmpty, H, I, ?_, by simpa using q⟩
    have e := size0 rv
    show _ = Value.bool xs.isEmpty
    rw [← e]
    simp
  · obtain ⟨its, rv, p, _⟩ := I.list h1
    obtain ⟨its2, rv2, p2, _⟩ := I.list h2
    cases rv2
    have e := size0 rv
    cases xs with
    | nil =>
      cases rv
      exact SeqAt.eq_listAt (e := fun _ => true) p.isList p2.isList rfl hu (fun j z _ => absurd z (by simp)) ⟨.bl true, H, I, rfl, by simpa using q⟩
    | cons z zs =>
      refine SeqAt.eq_list_lengthsAt p.isList p2.isList ?_ hu ⟨.bl false, H, I, rfl, by simpa using q⟩
      show (!(its.toArray.size == 0)) = true
      rw [e]
      rfl
theorem op_neEmp (hu : X.A.units < cLine) : OpR X (compareOp .NotEq) (rEmp X.K true) := by
  intro pins s σ H x y v u Q I rx ry h
  obtain ⟨a, b, xs, rfl, rfl, h, q⟩ := h
  cases rx
  cases ry
  rcases h with ⟨h1, h2⟩ | ⟨h1, h2⟩
  · obtain ⟨its, rv, p, _⟩ := I.tuple h1
    obtain ⟨its2, rv2, p2, _⟩ := I.tuple h2
    cases rv2
    refine SeqAt.RcNeAt.tuples (e := fun _ => true) p p2 hu (fun j _ z => absurd z (by simp)) X.prog X.w _ _ ⟨.bl (!xs.isEmpty), H, I, ?_, by simpa using q⟩
    have e := size0 rv
    show _ = Value.bool (!xs.isEmpty)
    rw [← e]
    simp
  · obtain ⟨its, rv, p, _⟩ := I.list h1
    obtain ⟨its2, rv2, p2, _⟩ := I.list h2
    cases rv2
    have e := size0 rv
    cases xs with
    | nil =>
      cases rv
      exact SeqAt.RcNeAt.lists (e := fun _ => true) p.isList p2.isList rfl hu (fun j z _ => absurd z (by simp)) X.prog X.w _ _ ⟨.bl false, H, I, rfl, by simpa using q⟩
    | cons z zs =>
      refine SeqAt.RcNeAt.lists_lengths p.isList p2.isList ?_ hu X.prog X.w _ _ ⟨.bl true, H, I, rfl, by simpa using q⟩
      show (!(its.toArray.size == 0)) = true
      rw [e]
      rfl

/-! ### len(set(xs)) -/
theorem firstMet_all (ns : List Int) : firstMet (fun i => ns.getD i 0) ns.length = dist ns := by
  unfold firstMet dist
  congr 1
  apply List.ext_getElem?
  intro i
  rw [List.getElem?_map]
  by_cases h : i < ns.length
  · rw [List.getElem?_range h, List.getElem?_eq_getElem h]
    show some (ns.getD i 0) = _
    rw [List.getD_eq_getElem?_getD, List.getElem?_eq_getElem h]
    rfl
  · rw [List.getElem?_eq_none (by simpa using h), List.getElem?_eq_none (by simpa using h)]
    rfl
theorem step_mem {acc : List Int} {k j : Int} : j ∈ step_dedup acc k ↔ j ∈ acc ∨ j = k := by
  unfold step_dedup
  split
  · rename_i h
    obtain ⟨y, hy, e⟩ := List.any_eq_true.mp h
    have e : y = k := eq_of_beq e
    subst e
    exact ⟨.inl, fun z => z.elim id fun e => by rw [e]; exact hy⟩
  · simp
theorem step_nodup {acc : List Int} {k : Int} (h : acc.Nodup) : (step_dedup acc k).Nodup := by
  unfold step_dedup
  split
  · exact h
  · rename_i hn
    rw [List.nodup_append]
    refine ⟨h, by simp, fun a ha b hb e => ?_⟩
    rw [List.mem_singleton] at hb
    subst e
    subst hb
    exact hn (List.any_eq_true.mpr ⟨a, ha, by simp⟩)
theorem dist_go : ∀ (ns acc : List Int), (∀ j, j ∈ ns.foldl step_dedup acc ↔ j ∈ acc ∨ j ∈ ns) ∧ (acc.Nodup → (ns.foldl step_dedup acc).Nodup)
  | [], acc => ⟨fun j => by simp, fun h => h⟩
  | k :: ns, acc => by
    obtain ⟨h1, h2⟩ := dist_go ns (step_dedup acc k)
    refine ⟨fun j => ?_, fun h => h2 (step_nodup h)⟩
    rw [List.foldl_cons, h1 j, step_mem]
    simp only [List.mem_cons, or_assoc]
theorem dist_mem {ns : List Int} {j : Int} : j ∈ dist ns ↔ j ∈ ns := by
  have h := (dist_go ns []).1 j
  simpa [dist] using h
theorem dist_nodup (ns : List Int) : (dist ns).Nodup := (dist_go ns []).2 List.nodup_nil
theorem len_le_of_sub : ∀ {l m : List Int}, l.Nodup → (∀ x ∈ l, x ∈ m) → l.length ≤ m.length
  | [], _, _, _ => Nat.zero_le _
  | x :: l, m, h, s => by
    have hx := s x (List.mem_cons_self ..)
    have h2 : l.length ≤ (m.erase x).length := by
      refine len_le_of_sub (List.nodup_cons.mp h).2 fun y hy => ?_
      have hne : y ≠ x := fun e => (List.nodup_cons.mp h).1 (e ▸ hy)
      exact (List.mem_erase_of_ne hne).mpr (s y (List.mem_cons_of_mem _ hy))
    have h3 := List.length_erase_of_mem hx
    have h4 : 0 < m.length := List.length_pos_of_mem hx
    simp only [List.length_cons]
    omega
theorem len_of_mem {l m : List Int} (h1 : l.Nodup) (h2 : m.Nodup) (e : ∀ x, x ∈ l ↔ x ∈ m) : l.length = m.length :=
  Nat.le_antisymm (len_le_of_sub h1 fun x h => (e x).mp h) (len_le_of_sub h2 fun x h => (e x).mpr h)
theorem dist_le (ns : List Int) : (dist ns).length ≤ ns.length := len_le_of_sub (dist_nodup ns) fun _ h => dist_mem.mp h
def tLenSet (K : PySem.W.Frag) (ta : TE) : TE := fun σ H Q => ta σ H fun x H1 => ∃ (l : Addr) (ns : List Int), x = .ref l ∧ (SqL K H1 l (ns.map V.int) ∨ SqT K H1 l (ns.map V.int)) ∧ ns.length ≤ 4000 ∧ Q (.int ((dist ns).length : Nat)) H1
theorem pe_lenSet' {a : Expr} {ta : TE} {p p2 q pos : Pos} (hg : Gl X "len") (hm : X.mg "len" = none) (hg2 : Gl X "set") (hm2 : X.mg "set" = none) (ha : PE X a ta) (hc : X.calm = true)
    (na : starEach [a] X.env = (false, eval a X.env) :: starEach [] X.env := by rfl) : PE X (.Call (.Name "len" p) [.Call (.Name "set" p2) [a] [] q] [] pos) (tLenSet X.K ta) := by
  refine ⟨fun pins s σ H Q I h => ?_⟩
  refine Call_ (ld_blt I hg hm boot_len ?_)
  refine PyProof.Rows.callWith_builtin1 (PyProof.Rows.args_cons ?_ rfl) rfl rfl
  refine Call_ (ld_blt I hg2 hm2 boot_set ?_)
  refine PyProof.Rows.callWith_type1 (PyProof.Rows.args_cons (thn (ha.run pins s σ H _ I h) fun v s1 ⟨x, H1, I1, r1, q1⟩ => PyProof.Rows.args_nil ?_) na) na rfl
  obtain ⟨l, ns, rfl, hq, hl, q1⟩ := q1
  cases r1
  rcases hq with hq | hq
  · obtain ⟨its, r, pl, hz⟩ := I1.list hq
    have hlen : its.toArray.size = ns.length := by rw [List.size_toArray, ← r.length, List.length_map]
    refine call_set_list (I1.ok.hd hc) pl.isList (by simpa using RZ.intsAre_vals r) (by rw [hlen]; unfold scanBound; omega) fun h' tk hS hk => ?_
    refine PyProof.Rows.args_nil ?_
    rw [hlen, firstMet_all] at hS
    obtain ⟨o, es, ep, t, ho, hex, hd, _, _, _, hf, hn⟩ := hS
    have I2 : Inv X pins σ H1 { s1 with heap := h', toks := tk } := I1.kept fun b o e => hk b o (Heap.lt_size e) e
    have hd2 := dist_le ns
    exact call_len_set ho hex hd hf (by rw [hn]; omega) ⟨.int (dist ns).length, H1, I2.tok _, ⟨_, by rw [hn]⟩, q1⟩
  · obtain ⟨its, r, pl, hz⟩ := I1.tuple hq
    have hlen : its.toArray.size = ns.length := by rw [List.size_toArray, ← r.length, List.length_map]
    refine call_set_tupI ns (I1.ok.hd hc) pl (by simpa using RZ.intsAre_vals r) (by unfold scanBound; omega) fun h' tk c hS hc2 hk => ?_
    refine PyProof.Rows.args_nil ?_
    obtain ⟨o, es, ep, t, ho, hex, hd, _, nd, hmem, _, hf, hn, _⟩ := hS
    have I2 : Inv X pins σ H1 { s1 with heap := h', toks := tk } := I1.kept hk
    have he : es.size = (dist ns).length := by
      have z := len_of_mem nd (dist_nodup ns) fun k => by rw [← hmem k, decide_eq_true_eq, dist_mem]
      simpa using z
    exact call_len_set ho hex hd hf (by rw [hn]; omega) ⟨.int (dist ns).length, H1, I2.tok _, ⟨_, by rw [he]⟩, q1⟩
end
end Mv

/-! Mx2: repr of data with dicts, nested: only the dicts must stand apart from sys.modules. -/
namespace Mv
open PySem PySem.Spec PyProof.Rows L2
mutual
/-- a value reads as data; its dicts are not sys.modules -/
inductive RD (h : Heap) : Value → PyData → Prop
  | none : RD h .none .none
  | bool (b) : RD h (.bool b) (.bool b)
  | int (i t) : RD h (.int i t) (.int i)
  | str (x t) : RD h (.str x t) (.str x)
  | list {a o vs n xs} : h.get? a = some o → o.cls = .type "list" → o.data = .seq vs n → RDs h vs.toList xs → RD h (.ref a) (.list xs)
  | tuple {a o vs n xs} : h.get? a = some o → o.cls = .type "tuple" → o.data = .seq vs n → RDs h vs.toList xs → RD h (.ref a) (.tuple xs)
  | dict {a o es n kvs} : h.get? a = some o → o.cls = .type "dict" → o.data = .dict es n → (a == sysModules) = false → RDs h (es.toList.map (·.key)) (kvs.map (·.1)) →
      RDs h (es.toList.map (·.val)) (kvs.map (·.2)) → RD h (.ref a) (.dict kvs)
inductive RDs (h : Heap) : List Value → List PyData → Prop
  | nil : RDs h [] []
  | cons {v vs d ds} : RD h v d → RDs h vs ds → RDs h (v :: vs) (d :: ds)
end
mutual
theorem RD.reads {h : Heap} : ∀ {v : Value} {d : PyData}, RD h v d → ∃ as, Reads h v d as
  | _, _, .none => ⟨_, .none⟩
  | _, _, .bool b => ⟨_, .bool b⟩
  | _, _, .int i t => ⟨_, .int i t⟩
  | _, _, .str x t => ⟨_, .str x t⟩
  | _, _, .list h1 h2 h3 h4 => let ⟨as, r⟩ := RDs.reads h4; ⟨_, .list h1 h2 h3 r⟩
  | _, _, .tuple h1 h2 h3 h4 => let ⟨as, r⟩ := RDs.reads h4; ⟨_, .tuple h1 h2 h3 r⟩
  | _, _, .dict h1 h2 h3 h4 h5 h6 => let ⟨as, r⟩ := RDs.reads h5; let ⟨bs, r2⟩ := RDs.reads h6; ⟨_, .dict h1 h2 h3 r r2⟩
theorem RDs.reads {h : Heap} : ∀ {v : List Value} {d : List PyData}, RDs h v d → ∃ as, ReadsAll h v d as
  | _, _, .nil => ⟨_, .nil⟩
  | _, _, .cons h1 h2 => let ⟨as, r⟩ := RD.reads h1; let ⟨bs, r2⟩ := RDs.reads h2; ⟨_, .cons r r2⟩
end
section
variable {prog : Program} {w : World} {A : Around} {E : Value → Shared → Prop} {s : Shared} {a : Int} {t : Tok}
/-! ### great ints -/
theorem int_reprB {Q : Value → Shared → Prop} (hn : s.heap.NoDigits) (hlt : a.natAbs < 10 ^ 4300) (h : Q (.str (toString a) s.toks) { s with toks := s.toks + 1 }) :
    wpAny (model prog w) A (call (.builtin "int.__repr__") [.int a t]) Q E s := by
  refine wpAny_call_entry F.slot_int_repr (typeIs_int s a t) F.entry_int_repr ?_ (F.args_int_repr_1 _)
  unfold Builtin.«int.__repr__»
  show wpAny _ _ (do let r ← Builtin.overDigitLimit? a; _) _ _ s
  refine wpAny_bind (overDigitLimit_any hn (fun _ => ?_) (fun hge => absurd hlt (Nat.not_lt.mpr hge)))
  exact wpAny_bind (wpAny_mkStr (wpAny_pure ⟨_, rfl, h⟩) (int_text_fits10 hlt))
theorem strOf_intB {Q : Value → Shared → Prop} (hn : s.heap.NoDigits) (hlt : a.natAbs < 10 ^ 4300) (h : Q (.str (toString a) s.toks) { s with toks := s.toks + 1 }) :
    wpAny (model prog w) A (Builtin.Str.strOf (.int a t)) Q E s := by
  unfold Builtin.Str.strOf
  rw [show Builtin.Str.isExactStr (.int a t) = false from rfl]
  try (have hv : [Value.int a t].any Value.onHeap = false := rfl; simp only [cRoomFor, hv, Bool.false_eq_true, if_false, pure_bind])
  refine wpAny_bind (m := callSpecial? (.int a t) (Str.ofString "__str__")) (wpAny_callSpecial?_slot (name := Str.ofString "__str__") (typeIs_int s a t) F.slot_int_str ?_)
  refine wpAny_call_entry F.slot_int_str (typeIs_int s a t) entry_object_str ?_ (args_object_str _)
  unfold Builtin.«object.__str__»
  refine wpAny_bind (m := slotArgs "__str__" 0 _) (wpAny_pure ?_)
  try (have hv : [Value.int a t].any Value.onHeap = false := rfl; simp only [cRoomFor, hv, Bool.false_eq_true, if_false, pure_bind])
  refine wpAny_bind (m := callSpecialIfBound? (.int a t) (Str.ofString "__repr__")) (wpAny_callSpecialIfBound?_slot (name := Str.ofString "__repr__") (typeIs_int s a t) F.slot_int_repr
    (int_reprB hn hlt ?_))
  exact wpAny_pure ⟨_, rfl, wpAny_pure h⟩
theorem str_intB {Q : Value → Shared → Prop} (hn : s.heap.NoDigits) (hlt : a.natAbs < 10 ^ 4300) (h : Q (.str (toString a) s.toks) { s with toks := s.toks + 1 }) :
    wpAny (model prog w) A (call (.type "str") [.int a t]) Q E s :=
  callType_new F.called_str (by decide) (F.typeCall_str_1 _) (F.newCall_str_1 _) (fun obj => F.args_object_init_2 obj _) F.entry_str_new
    (meets_str_new (S := fun A R s => s.heap.NoDigits ∧ R (.ok (.ret (.str (toString a) s.toks))) { s with toks := s.toks + 1 })
      fun _ _ _ _ _ hq => strOf_intB hq.1 hlt hq.2)
    ⟨hn, typeIs_str _ _ _, h⟩
theorem reprObj_intB {Q : Value → Shared → Prop} (hn : s.heap.NoDigits) (hlt : a.natAbs < 10 ^ 4300) (h : Q (.str (toString a) s.toks) { s with toks := s.toks + 1 }) :
    wpAny (model prog w) A (pyReprObj (.int a t)) Q E s := by
  have hv : [Value.int a t].any Value.onHeap = false := rfl
  unfold pyReprObj
  simp only [cRoomFor, hv, Bool.false_eq_true, if_false, pure_bind]
  refine wpAny_bind (wpAny_specialOf (name := Str.ofString "__repr__") (typeIs_int s a t) F.slot_int_repr.lookup ?_)
  refine wpAny_bind (m := callSpecialIfBound? (.int a t) (Str.ofString "__repr__")) (wpAny_callSpecialIfBound?_slot (name := Str.ofString "__repr__") (typeIs_int s a t) F.slot_int_repr (int_reprB hn hlt ?_))
  exact wpAny_bind (wpAny_isInstance (T := "str") (b := true) rfl isSubtype_str_str (wpAny_pure h))
theorem repr_intB {Q : Value → Shared → Prop} (hn : s.heap.NoDigits) (hlt : a.natAbs < 10 ^ 4300) (h : Q (.str (toString a) s.toks) { s with toks := s.toks + 1 }) :
    wpAny (model prog w) A (call (.builtin "repr") [.int a t]) Q E s := by
  have hv : [Value.int a t].any Value.onHeap = false := rfl
  refine Calls.call_function_entry F.kind_repr F.plain_repr F.entry_repr (F.args_repr1 _) ?_
  unfold Builtin.«repr»
  refine wpAny_bind (m := oneArg "repr" _) (wpAny_pure ?_)
  simp only [cRoomFor, hv, Bool.false_eq_true, if_false, pure_bind]
  refine wpAny_bind (wpAny_specialOf (name := Str.ofString "__repr__") (typeIs_int s a t) F.slot_int_repr.lookup ?_)
  refine wpAny_bind (m := callSpecialIfBound? (.int a t) (Str.ofString "__repr__")) (wpAny_callSpecialIfBound?_slot (name := Str.ofString "__repr__") (typeIs_int s a t) F.slot_int_repr (int_reprB hn hlt ?_))
  refine wpAny_bind (wpAny_isInstance (T := "str") (b := true) rfl isSubtype_str_str ?_)
  exact wpAny_pure ⟨_, rfl, h⟩
theorem reprK_intB {as : List Addr} {h₀ : Heap} {d : Nat} (t : Tok) (hn : h₀.NoDigits) (hlt : a.natAbs < digLim) : ReprK prog w as h₀ d (.int a t) (toString a) := fun base hz A g E s Q _ _ _ hk hQ => by
  have hn' : base ≤ sizeLine := by omega
  rw [pyReprUnder_leaf (v := .int a t) hn' (fun _ e => nomatch e)]
  unfold pyRepr
  exact wpAny_bind (reprObj_intB (hn.keeps hk) hlt (wpAny_pure (hQ s.heap _ fun _ _ e => e)))
end
theorem showB_int {i : Int} (h : i.natAbs.log2 < 1920) : i.natAbs < digLim :=
  Nat.lt_of_lt_of_le (lt_of_log2 (Nat.lt_trans h (by decide))) pow_lo
mutual
theorem showB_of : ∀ d : PyData, d.showable = true → showB d = true
  | .none, _ => rfl
  | .bool _, _ => rfl
  | .str _, _ => rfl
  | .int i, h => by
    unfold PyData.showable at h
    unfold showB
    exact decide_eq_true (showB_int (of_decide_eq_true h))
  | .list xs, h => by
    unfold PyData.showable at h
    unfold showB
    exact showBs_of xs h
  | .tuple xs, h => by
    unfold PyData.showable at h
    unfold showB
    exact showBs_of xs h
  | .dict kvs, h => by
    unfold PyData.showable at h
    unfold showB
    exact showBk_of kvs h
theorem showBs_of : ∀ d : List PyData, PyData.showableAll d = true → showBs d = true
  | [], _ => rfl
  | x :: xs, h => by
    unfold PyData.showableAll at h
    unfold showBs
    rw [Bool.and_eq_true] at h ⊢
    exact ⟨showB_of x h.1, showBs_of xs h.2⟩
theorem showBk_of : ∀ d : List (PyData × PyData), PyData.showableKv d = true → showBk d = true
  | [], _ => rfl
  | (k, v) :: r, h => by
    unfold PyData.showableKv at h
    unfold showBk
    rw [Bool.and_eq_true, Bool.and_eq_true] at h ⊢
    exact ⟨⟨showB_of k h.1.1, showB_of v h.1.2⟩, showBk_of r h.2⟩
end
theorem showBk_split : ∀ kvs : List (PyData × PyData), showBk kvs = true → showBs (kvs.map (·.1)) = true ∧ showBs (kvs.map (·.2)) = true
  | [], _ => ⟨rfl, rfl⟩
  | (k, v) :: r, h => by
    unfold showBk at h
    rw [Bool.and_eq_true, Bool.and_eq_true] at h
    obtain ⟨h1, h2⟩ := showBk_split r h.2
    rw [List.map_cons, List.map_cons]
    unfold showBs
    rw [Bool.and_eq_true, Bool.and_eq_true]
    exact ⟨⟨h.1.1, h1⟩, h.1.2, h2⟩
section
variable {prog : Program} {w : World} {h₀ : Heap} (hn : h₀.NoDigits)
include hn
mutual
theorem rk_of : ∀ {v : Value} {d : PyData}, RD h₀ v d → showB d = true → d.shown.length ≤ sizeLine → ∃ bs, ReadAtMost h₀ d.depth bs ∧ ReprK prog w bs h₀ d.depth v d.shown
  | _, _, .none, _, _ => ⟨[], (fun _ h => nomatch h), by simp only [PyData.shown]; exact .of_is ReprIs.none _ _ _⟩
  | _, _, .bool b, _, _ => ⟨[], (fun _ h => nomatch h), by simp only [PyData.shown]; exact .of_is (ReprIs.bool b) _ _ _⟩
  | _, _, .int i t, hs, _ => ⟨[], (fun _ h => nomatch h), by simp only [PyData.shown]; exact reprK_intB t hn (by simpa [showB] using hs)⟩
  | _, _, .str x t, _, hz => ⟨[], (fun _ h => nomatch h), by simp only [PyData.shown]; exact .of_is (ReprIs.str x t (by simpa only [PyData.shown] using hz)) _ _ _⟩
  | _, _, .list (a := a) (vs := vs) (xs := xs) h1 h2 h3 h4, hs, hz => by
    have hz' : (listText (PyData.shownAll xs)).length ≤ sizeLine := by simpa only [PyData.shown] using hz
    obtain ⟨bs, hb, hk⟩ := rka_of h4 (by simpa [showB] using hs) (fun t ht => Nat.le_trans (listText_mem_le ht) hz')
    obtain ⟨as4, h4r⟩ := RDs.reads h4
    have r : Reads h₀ (.ref a) (.list xs) _ := .list h1 h2 h3 h4r
    have hna : a ∉ bs := not_mem_of_deeper r (by simp only [PyData.depth]; omega) hb
    refine ⟨a :: bs, ReadAtMost.cons r (by simp only [PyData.depth]; omega) hb, ?_⟩
    simp only [PyData.depth, PyData.shown]
    obtain ⟨l⟩ := vs
    cases l with
    | nil =>
      have h4' : ReadsAll h₀ [] xs _ := h4r
      cases h4'
      simp only [PyData.shownAll, listText_nil]
      exact ReprK.listEmpty h1 h2 h3
    | cons x l => exact ReprK.list h1 h2 h3 hna (by simpa using hk.length_eq) (fun i y e => hk.item i y (by simpa using e))
  | _, _, .tuple (a := a) (xs := xs) h1 h2 h3 h4, hs, hz => by
    have hz' : (tupleText (PyData.shownAll xs)).length ≤ sizeLine := by simpa only [PyData.shown] using hz
    obtain ⟨bs, hb, hk⟩ := rka_of h4 (by simpa [showB] using hs) (fun t ht => Nat.le_trans (tupleText_mem_le ht) hz')
    obtain ⟨as4, h4r⟩ := RDs.reads h4
    have r : Reads h₀ (.ref a) (.tuple xs) _ := .tuple h1 h2 h3 h4r
    have hna : a ∉ bs := not_mem_of_deeper r (by simp only [PyData.depth]; omega) hb
    refine ⟨a :: bs, ReadAtMost.cons r (by simp only [PyData.depth]; omega) hb, ?_⟩
    simp only [PyData.depth, PyData.shown]
    exact ReprK.tuple h1 h2 h3 hna hk
  | _, _, .dict (a := a) (es := es) (kvs := kvs) h1 h2 h3 hsys h4 h5, hs, hz => by
    have hz' : (dictText (PyData.shownKv kvs)).length ≤ sizeLine := by simpa only [PyData.shown] using hz
    obtain ⟨hs1, hs2⟩ := showBk_split kvs (by simpa [showB] using hs)
    obtain ⟨b1, hb1, k1⟩ := rka_of h4 hs1 (fun t ht => let ⟨p, hp, hl⟩ := PyData.shownKv_key_le kvs t ht; Nat.le_trans hl (Nat.le_trans (dictText_mem_le hp) hz'))
    obtain ⟨b2, hb2, k2⟩ := rka_of h5 hs2 (fun t ht => let ⟨p, hp, hl⟩ := PyData.shownKv_val_le kvs t ht; Nat.le_trans hl (Nat.le_trans (dictText_mem_le hp) hz'))
    obtain ⟨as4, h4r⟩ := RDs.reads h4
    obtain ⟨as5, h5r⟩ := RDs.reads h5
    have r : Reads h₀ (.ref a) (.dict kvs) _ := .dict h1 h2 h3 h4r h5r
    have hb : ReadAtMost h₀ (PyData.depthKv kvs) (b1 ++ b2) := (hb1.mono (PyData.depthAll_keys_le kvs)).append (hb2.mono (PyData.depthAll_vals_le kvs))
    have hna : a ∉ b1 ++ b2 := not_mem_of_deeper r (by simp only [PyData.depth]; omega) hb
    refine ⟨a :: (b1 ++ b2), ReadAtMost.cons r (by simp only [PyData.depth]; omega) hb, ?_⟩
    simp only [PyData.depth, PyData.shown, PyData.shownKv_eq]
    exact ReprK.dict h1 h2 h3 hsys hna (ReprEntriesK.of_two es.toList _ _
      (k1.more_le (fun b hb => List.mem_append_left _ hb) (PyData.depthAll_keys_le kvs)) (k2.more_le (fun b hb => List.mem_append_right _ hb) (PyData.depthAll_vals_le kvs)))
theorem rka_of : ∀ {vs : List Value} {ds : List PyData}, RDs h₀ vs ds → showBs ds = true → (∀ t ∈ PyData.shownAll ds, t.length ≤ sizeLine) →
    ∃ bs, ReadAtMost h₀ (PyData.depthAll ds) bs ∧ ReprAllK prog w bs h₀ (PyData.depthAll ds) vs (PyData.shownAll ds)
  | _, _, .nil, _, _ => ⟨[], (fun _ h => nomatch h), by simp only [PyData.shownAll]; exact .nil⟩
  | _, _, .cons (d := d) (ds := ds) r rs, hs, hz => by
    have hs' : showB d = true ∧ showBs ds = true := by simpa [showBs] using hs
    obtain ⟨b1, hb1, k1⟩ := rk_of r hs'.1 (hz _ (by simp only [PyData.shownAll]; exact List.mem_cons_self ..))
    obtain ⟨b2, hb2, k2⟩ := rka_of rs hs'.2 (fun t ht => hz t (by simp only [PyData.shownAll]; exact List.mem_cons_of_mem _ ht))
    refine ⟨b1 ++ b2, ?_, ?_⟩
    · intro b hm
      simp only [PyData.depthAll]
      rcases List.mem_append.mp hm with hm | hm
      · obtain ⟨d', as', r', hd'⟩ := hb1 b hm
        exact ⟨d', as', r', Nat.le_trans hd' (Nat.le_max_left _ _)⟩
      · obtain ⟨d', as', r', hd'⟩ := hb2 b hm
        exact ⟨d', as', r', Nat.le_trans hd' (Nat.le_max_right _ _)⟩
    · simp only [PyData.depthAll, PyData.shownAll]
      exact .cons ((k1.more fun b hb => List.mem_append_left _ hb).level_le (Nat.le_max_left _ _)) (k2.more_le (fun b hb => List.mem_append_right _ hb) (Nat.le_max_right _ _))
end
theorem shows_of {a : Addr} {d : PyData} (r : RD h₀ (.ref a) d) (hs : showB d = true) (hsz : d.shown.length ≤ sizeLine) : ∃ T idr, ShowsBy prog w h₀ a d T idr := by
  cases r with
  | list h1 h2 h3 h4 =>
    rename_i o vs n xs
    have hz' : (listText (PyData.shownAll xs)).length ≤ sizeLine := by simpa only [PyData.shown] using hsz
    obtain ⟨bs, hb, hk⟩ := rka_of (prog := prog) (w := w) hn h4 (by simpa [showB] using hs) (fun t ht => Nat.le_trans (listText_mem_le ht) hz')
    obtain ⟨as4, h4r⟩ := RDs.reads h4
    have hna : a ∉ bs := not_mem_of_deeper (.list h1 h2 h3 h4r) (by simp only [PyData.depth]; omega) hb
    refine ⟨"list", "list.__repr__", F.slot_list_repr.toG, F.slot_list_str, F.slot_list_format, fun s hk0 => ⟨o, hk0 _ _ h1, h2⟩, fun A E s Q hg hu hk0 hQ => ?_⟩
    simp only [PyData.depth] at hu
    simp only [PyData.shown] at hQ
    obtain ⟨l⟩ := vs
    cases l with
    | nil =>
      have h4' : ReadsAll h₀ [] xs _ := h4r
      cases h4'
      simp only [PyData.shownAll, listText_nil] at hQ
      exact call_list_repr_empty ⟨o, hk0 _ _ h1, h2⟩ (hk0 _ _ h1) h3 (hQ s.heap _ _ fun _ _ e => e)
    | cons x l =>
      exact call_list_reprK h1 h2 h3 hna (by simpa using hk.length_eq) (fun i y e => hk.item i y (by simpa using e)) hg (fun b _ => Clear.nil b) hu hk0 hQ hz'
  | tuple h1 h2 h3 h4 =>
    rename_i o vs n xs
    have hz' : (tupleText (PyData.shownAll xs)).length ≤ sizeLine := by simpa only [PyData.shown] using hsz
    obtain ⟨bs, hb, hk⟩ := rka_of (prog := prog) (w := w) hn h4 (by simpa [showB] using hs) (fun t ht => Nat.le_trans (tupleText_mem_le ht) hz')
    obtain ⟨as4, h4r⟩ := RDs.reads h4
    have hna : a ∉ bs := not_mem_of_deeper (.tuple h1 h2 h3 h4r) (by simp only [PyData.depth]; omega) hb
    refine ⟨"tuple", "tuple.__repr__", F.slot_tuple_repr, F.slot_tuple_str, F.slot_tuple_format, fun s hk0 => ⟨o, hk0 _ _ h1, h2⟩, fun A E s Q hg hu hk0 hQ => ?_⟩
    simp only [PyData.depth] at hu
    simp only [PyData.shown] at hQ
    exact call_tuple_reprK h1 h2 h3 hna hk hg (fun b _ => Clear.nil b) hu hk0 hQ hz'
  | dict h1 h2 h3 hsys h4 h5 =>
    rename_i o es n kvs
    have hz' : (dictText (PyData.shownKv kvs)).length ≤ sizeLine := by simpa only [PyData.shown] using hsz
    obtain ⟨hs1, hs2⟩ := showBk_split kvs (by simpa [showB] using hs)
    obtain ⟨b1, hb1, k1⟩ := rka_of (prog := prog) (w := w) hn h4 hs1 (fun t ht => let ⟨p, hp, hl⟩ := PyData.shownKv_key_le kvs t ht; Nat.le_trans hl (Nat.le_trans (dictText_mem_le hp) hz'))
    obtain ⟨b2, hb2, k2⟩ := rka_of (prog := prog) (w := w) hn h5 hs2 (fun t ht => let ⟨p, hp, hl⟩ := PyData.shownKv_val_le kvs t ht; Nat.le_trans hl (Nat.le_trans (dictText_mem_le hp) hz'))
    have hb : ReadAtMost h₀ (PyData.depthKv kvs) (b1 ++ b2) := (hb1.mono (PyData.depthAll_keys_le kvs)).append (hb2.mono (PyData.depthAll_vals_le kvs))
    obtain ⟨as4, h4r⟩ := RDs.reads h4
    obtain ⟨as5, h5r⟩ := RDs.reads h5
    have hna : a ∉ b1 ++ b2 := not_mem_of_deeper (.dict h1 h2 h3 h4r h5r) (by simp only [PyData.depth]; omega) hb
    refine ⟨"dict", "dict.__repr__", F.slot_dict_repr, F.slot_dict_str, F.slot_dict_format, fun s hk0 => ⟨o, hk0 _ _ h1, h2⟩, fun A E s Q hg hu hk0 hQ => ?_⟩
    simp only [PyData.depth] at hu
    simp only [PyData.shown, PyData.shownKv_eq] at hQ
    exact call_dict_reprK h1 h2 h3 hsys hna (ReprEntriesK.of_two es.toList _ _
      (k1.more_le (fun b hb => List.mem_append_left _ hb) (PyData.depthAll_keys_le kvs)) (k2.more_le (fun b hb => List.mem_append_right _ hb) (PyData.depthAll_vals_le kvs))) hg (fun b _ => Clear.nil b) hu hk0 hQ (by rw [← PyData.shownKv_eq]; exact hz')
theorem repr_rd {A : Around} {E : Value → Shared → Prop} {s : Shared} {Q : Value → Shared → Prop} {a : Addr} {d : PyData} (r : RD h₀ (.ref a) d) (hs : showB d = true) (hg : A.guards = some []) (hu : A.units + (d.depth + 1) < cLine) (hk0 : ∀ b o, h₀.get? b = some o → s.heap.get? b = some o)
    (hQ : ∀ h' u tk, (∀ b o, s.heap.get? b = some o → h'.get? b = some o) → Q (.str d.shown u) { s with heap := h', toks := tk })
    (hsz : d.shown.length ≤ sizeLine) : wpAny (model prog w) A (call (.builtin "repr") [.ref a]) Q E s := by
  obtain ⟨T, idr, S⟩ := shows_of (prog := prog) (w := w) hn r hs hsz
  exact call_repr_slot (by omega) (S.typeIs s hk0) S.slotRepr (S.call A.in1 E s _ hg (by show A.units + 1 + d.depth < cLine; omega) hk0 fun h' u tk hk => ⟨_, _, rfl, hQ h' u tk hk⟩)
end
mutual
/-- a value over the abstract heap is such data -/
inductive DR (K : PySem.W.Frag) (H : Hp) : V → PyData → Prop
  | non : DR K H .non .none
  | bl (b : Bool) : DR K H (.bl b) (.bool b)
  | int (i : Int) : DR K H (.int i) (.int i)
  | str (x : Str) : DR K H (.str x) (.str x)
  | lst {a : Addr} {xs : List V} {ds : List PyData} : SqL K H a xs → DRs K H xs ds → DR K H (.ref a) (.list ds)
  | tup {a : Addr} {xs : List V} {ds : List PyData} : SqT K H a xs → DRs K H xs ds → DR K H (.ref a) (.tuple ds)
  | dic {a : Addr} {kvs : List (Key × V)} {ds : List PyData} : H a = some (.dK kvs) → DRs K H (kvs.map (·.2)) ds → DR K H (.ref a) (.dict ((kvs.map fun kv => keyD kv.1).zip ds))
inductive DRs (K : PySem.W.Frag) (H : Hp) : List V → List PyData → Prop
  | nil : DRs K H [] []
  | cons {v : V} {vs : List V} {d : PyData} {ds : List PyData} : DR K H v d → DRs K H vs ds → DRs K H (v :: vs) (d :: ds)
end
section
variable {X : Cx} {pins : List (Addr × Obj)} {σ : L2.St} {H : Hp} {s : Shared}
theorem key_rd {h : Heap} {k : Key} {u : Value} (e : keyIs k u = true) : RD h u (keyD k) := by
  rcases keyIs_shape e with ⟨i, t, rfl, rfl⟩ | ⟨x, t, rfl, rfl⟩
  · exact .int i t
  · exact .str x t
theorem keys_rd {P : Program} {w : World} {h : Heap} : ∀ {es : List DictEntry} {kvs : List (Key × V)} {vs : List (Key × Value)}, Pairs (mixKind P w) es vs → KV kvs vs →
    RDs h (es.map (·.key)) (kvs.map fun kv => keyD kv.1) ∧ Vals (kvs.map (·.2)) (es.map (·.val))
  | _, _, _, .nil, .nil => ⟨.nil, .nil⟩
  | _, _, _, .cons hk hv t, .cons ⟨e1, e2⟩ r => by
    obtain ⟨i1, i2⟩ := keys_rd t r
    refine ⟨.cons (key_rd ?_) i1, .cons ?_ i2⟩
    · have z := hk
      rw [← e1] at z
      exact z
    · have q := e2
      rw [← hv] at q
      exact q
theorem DRs.length {K : PySem.W.Frag} : ∀ {vs : List V} {ds : List PyData}, DRs K H vs ds → ds.length = vs.length
  | _, _, .nil => rfl
  | _, _, .cons _ t => congrArg (· + 1) (DRs.length t)
mutual
theorem DR.rd (I : Inv X pins σ H s) : ∀ {v : V} {d : PyData}, DR X.K H v d → ∀ (u : Value), RelV v u → RD s.heap u d
  | _, _, .non, _, r => by cases r; exact .none
  | _, _, .bl b, _, r => by cases r; exact .bool b
  | _, _, .int i, _, r => by obtain ⟨t, rfl⟩ := r; exact .int i t
  | _, _, .str x, _, r => by obtain ⟨t, rfl⟩ := r; exact .str x t
  | _, _, .lst hs ha, _, r => by
    cases r
    obtain ⟨its, rv, ⟨o, n, ho, hc, _, hd⟩, _⟩ := I.list hs
    exact .list ho hc hd (DRs.rd I ha _ rv)
  | _, _, .tup hs ha, _, r => by
    cases r
    obtain ⟨its, rv, ⟨o, ho, hc, n, hd⟩, _⟩ := I.tuple hs
    exact .tuple ho hc hd (DRs.rd I ha _ rv)
  | _, _, .dic (kvs := kvs) (ds := ds) e ha, _, r => by
    cases r
    obtain ⟨z, low, vs, rel, o, es, ep, h1, hx, h2, _, hp, _⟩ := dk_of I.hok e
    obtain ⟨k1, k2⟩ := keys_rd (h := s.heap) hp rel
    have hl := DRs.length ha
    rw [List.length_map] at hl
    refine .dict h1 hx.1 h2 low ?_ ?_
    · rw [List.map_fst_zip (by simp [hl])]
      exact k1
    · rw [List.map_snd_zip (by simp [hl])]
      exact DRs.rd I ha _ k2
theorem DRs.rd (I : Inv X pins σ H s) : ∀ {v : List V} {d : List PyData}, DRs X.K H v d → ∀ (u : List Value), Vals v u → RDs s.heap u d
  | _, _, .nil, _, r => by cases r; exact .nil
  | _, _, .cons h1 h2, _, r => by
    cases r with
    | cons r1 r2 => exact .cons (DR.rd I h1 _ r1) (DRs.rd I h2 _ r2)
end
def rReprR (K : PySem.W.Frag) : List V → Hp → VK → Prop := fun xs H Q => ∃ x d, xs = [x] ∧ DR K H x d ∧ showB d = true ∧ d.shown.length ≤ sizeLine ∧ d.depth ≤ 64 ∧ Q (.str d.shown) H
theorem repr_dr (hn : X.base.NoDigits) (hg : X.A.guards = some []) (hu : X.A.units + 150 < cLine) : CallR X (.builtin "repr") (rReprR X.K) := by
  intro pins s σ H xs us Q I r h
  obtain ⟨x, d, rfl, hd, hs, hl, h64, q⟩ := h
  have hN : s.heap.NoDigits := hn.keeps I.bk
  cases r with
  | @cons _ u _ _ ru r0 =>
    cases r0
    have rd := DR.rd I hd u ru
    have fin : ∀ (h' : Heap) (u' : Tok) (tk : Nat), (∀ b o, s.heap.get? b = some o → h'.get? b = some o) → EP X pins σ Q (.str d.shown u') { s with heap := h', toks := tk } := fun h' u' tk k => ⟨.str d.shown, H, I.kept k, ⟨_, rfl⟩, q⟩
    cases rd with
    | none => exact PySem.P.repr_of_none (fin _ _ _ fun _ _ e => e)
    | bool b => exact PySem.P.repr_of_bool (fin _ _ _ fun _ _ e => e)
    | int i t => exact repr_intB hN (by unfold showB at hs; exact of_decide_eq_true hs) (fin _ _ _ fun _ _ e => e)
    | str x t => exact PySem.P.repr_of_str (fin _ _ _ fun _ _ e => e) hl
    | list h1 h2 h3 h4 => exact repr_rd hN (.list h1 h2 h3 h4) hs hg (by omega) (fun _ _ e => e) fin hl
    | tuple h1 h2 h3 h4 => exact repr_rd hN (.tuple h1 h2 h3 h4) hs hg (by omega) (fun _ _ e => e) fin hl
    | dict h1 h2 h3 h4 h5 h6 => exact repr_rd hN (.dict h1 h2 h3 h4 h5 h6) hs hg (by omega) (fun _ _ e => e) fin hl
end
end Mv

/-! Mv2: how logical values and heaps stand for the hand layer's; readings by the evaluator; binding. -/
namespace Mv
open PySem PySem.Spec PyProof.Rows L2

mutual
inductive RV (K : PySem.W.Frag) (H : Hp) (ι : Nat → Addr) (n : Nat) : V → LV → Prop
  | non : RV K H ι n .non .non
  | bl (b : Bool) : RV K H ι n (.bl b) (.bl b)
  | int (i : Int) : RV K H ι n (.int i) (.int i)
  | str (s : Str) : RV K H ι n (.str s) (.str s)
  | tup {a : Addr} {xs : List V} {ds : List LV} : SqT K H a xs → RVs K H ι n xs ds → RV K H ι n (.ref a) (.tup ds)
  | ref (k : Nat) : k < n → RV K H ι n (.ref (ι k)) (.ref k)
inductive RVs (K : PySem.W.Frag) (H : Hp) (ι : Nat → Addr) (n : Nat) : List V → List LV → Prop
  | nil : RVs K H ι n [] []
  | cons {v : V} {d : LV} {vs : List V} {ds : List LV} : RV K H ι n v d → RVs K H ι n vs ds → RVs K H ι n (v :: vs) (d :: ds)
end

/-- a later heap: the numbers' places stay, the tuples stay -/
structure Ev (K : PySem.W.Frag) (ι : Nat → Addr) (H : Hp) (n : Nat) (ι' : Nat → Addr) (H' : Hp) (n' : Nat) : Prop where
  pl : ∀ k, k < n → ι' k = ι k
  le : n ≤ n'
  tp : ∀ a xs, SqT K H a xs → SqT K H' a xs
section
variable {K : PySem.W.Frag} {ι ι' ι'' : Nat → Addr} {H H' H'' : Hp} {n n' n'' : Nat}
theorem Ev.refl : Ev K ι H n ι H n := ⟨fun _ _ => rfl, Nat.le_refl _, fun _ _ h => h⟩
theorem Ev.trans (a : Ev K ι H n ι' H' n') (b : Ev K ι' H' n' ι'' H'' n'') : Ev K ι H n ι'' H'' n'' :=
  ⟨fun k hk => (b.pl k (Nat.lt_of_lt_of_le hk a.le)).trans (a.pl k hk), Nat.le_trans a.le b.le, fun x xs h => b.tp x xs (a.tp x xs h)⟩
mutual
theorem RV.mono (ev : Ev K ι H n ι' H' n') : ∀ {d : LV} {v : V}, RV K H ι n v d → RV K H' ι' n' v d
  | .non, _, h => by cases h; exact .non
  | .bl b, _, h => by cases h; exact .bl b
  | .int i, _, h => by cases h; exact .int i
  | .str s, _, h => by cases h; exact .str s
  | .tup ds, _, h => by
    cases h with
    | tup hs hr => exact .tup (ev.tp _ _ hs) (RVs.mono ev hr)
  | .ref k, _, h => by
    cases h with
    | ref _ hk =>
      rw [← ev.pl k hk]
      exact .ref k (Nat.lt_of_lt_of_le hk ev.le)
theorem RVs.mono (ev : Ev K ι H n ι' H' n') : ∀ {ds : List LV} {vs : List V}, RVs K H ι n vs ds → RVs K H' ι' n' vs ds
  | [], _, h => by cases h; exact .nil
  | d :: ds, _, h => by
    cases h with
    | cons h1 h2 => exact .cons (RV.mono ev h1) (RVs.mono ev h2)
end
theorem RVs.length {vs : List V} {ds : List LV} : RVs K H ι n vs ds → vs.length = ds.length
  | .nil => rfl
  | .cons _ t => congrArg (· + 1) (RVs.length t)
theorem RVs.append : ∀ {vs ws : List V} {ds es : List LV}, RVs K H ι n vs ds → RVs K H ι n ws es → RVs K H ι n (vs ++ ws) (ds ++ es)
  | _, _, _, _, .nil, s => s
  | _, _, _, _, .cons r t, s => .cons r (RVs.append t s)
theorem RVs.take : ∀ {vs : List V} {ds : List LV} (k : Nat), RVs K H ι n vs ds → RVs K H ι n (vs.take k) (ds.take k)
  | _, _, 0, _ => .nil
  | _, _, _ + 1, .nil => .nil
  | _, _, k + 1, .cons r t => .cons r (RVs.take k t)
theorem RVs.drop : ∀ {vs : List V} {ds : List LV} (k : Nat), RVs K H ι n vs ds → RVs K H ι n (vs.drop k) (ds.drop k)
  | _, _, 0, r => r
  | _, _, _ + 1, .nil => .nil
  | _, _, k + 1, .cons r t => RVs.drop k t
theorem RVs.reverse : ∀ {vs : List V} {ds : List LV}, RVs K H ι n vs ds → RVs K H ι n vs.reverse ds.reverse
  | _, _, .nil => .nil
  | _, _, .cons r t => by
    rw [List.reverse_cons, List.reverse_cons]
    exact RVs.append (RVs.reverse t) (.cons r .nil)
theorem RVs.flat {vs : List V} {ds : List LV} (r : RVs K H ι n vs ds) : ∀ k : Nat, RVs K H ι n (List.replicate k vs).flatten (List.replicate k ds).flatten
  | 0 => .nil
  | k + 1 => by
    rw [List.replicate_succ, List.replicate_succ, List.flatten_cons, List.flatten_cons]
    exact RVs.append r (RVs.flat r k)
theorem RVs.get : ∀ {vs : List V} {ds : List LV} {i : Nat} {d : LV}, RVs K H ι n vs ds → ds[i]? = some d → ∃ v, vs[i]? = some v ∧ RV K H ι n v d
  | _, _, _, _, .nil, e => by simp at e
  | _, _, 0, _, .cons r _, e => by
    simp at e
    subst e
    exact ⟨_, rfl, r⟩
  | _, _, i + 1, d, .cons _ t, e => by
    obtain ⟨u, h1, h2⟩ := RVs.get (i := i) (d := d) t (by simpa using e)
    exact ⟨u, by simpa using h1, h2⟩
theorem RVs.getV : ∀ {vs : List V} {ds : List LV} {i : Nat} {v : V}, RVs K H ι n vs ds → vs[i]? = some v → ∃ d, ds[i]? = some d ∧ RV K H ι n v d
  | _, _, _, _, .nil, e => by simp at e
  | _, _, 0, _, .cons r _, e => by
    simp at e
    subst e
    exact ⟨_, rfl, r⟩
  | _, _, i + 1, d, .cons _ t, e => by
    obtain ⟨u, h1, h2⟩ := RVs.getV (i := i) (v := d) t (by simpa using e)
    exact ⟨u, by simpa using h1, h2⟩
theorem RVs.set {v : V} {d : LV} (r : RV K H ι n v d) : ∀ {vs : List V} {ds : List LV} (i : Nat), RVs K H ι n vs ds → RVs K H ι n (vs.set i v) (ds.set i d)
  | _, _, _, .nil => .nil
  | _, _, 0, .cons _ t => .cons r t
  | _, _, i + 1, .cons q t => .cons q (RVs.set r i t)
theorem RVs.dropLast : ∀ {vs : List V} {ds : List LV}, RVs K H ι n vs ds → RVs K H ι n vs.dropLast ds.dropLast
  | _, _, .nil => .nil
  | _, _, .cons _ .nil => .nil
  | _, _, .cons r (.cons q t) => .cons r (RVs.dropLast (.cons q t))
theorem RVs.ints : ∀ (ns : List Int), RVs K H ι n (ns.map V.int) (ns.map LV.int)
  | [] => .nil
  | i :: r => .cons (.int i) (RVs.ints r)
theorem RVs.toInts : ∀ {ds : List LV} {vs : List V} {ns : List Int}, RVs K H ι n vs ds → intL ds = some ns → vs = ns.map V.int
  | [], _, _, h, e => by
    cases h
    cases e
    rfl
  | .int i :: ds, _, _, h, e => by
    cases h with
    | cons h1 h2 =>
      cases h1
      unfold intL at e
      obtain ⟨r, e1, e2⟩ := Option.map_eq_some_iff.mp e
      rw [← e2, RVs.toInts h2 e1]
      rfl
  | .non :: _, _, _, _, e => by cases e
  | .bl _ :: _, _, _, _, e => by cases e
  | .str _ :: _, _, _, _, e => by cases e
  | .tup _ :: _, _, _, _, e => by cases e
  | .ref _ :: _, _, _, _, e => by cases e
theorem RVs.toBls : ∀ {ds : List LV} {vs : List V} {ns : List Bool}, RVs K H ι n vs ds → blL ds = some ns → vs = ns.map V.bl
  | [], _, _, h, e => by
    cases h
    cases e
    rfl
  | .bl i :: ds, _, _, h, e => by
    cases h with
    | cons h1 h2 =>
      cases h1
      unfold blL at e
      obtain ⟨r, e1, e2⟩ := Option.map_eq_some_iff.mp e
      rw [← e2, RVs.toBls h2 e1]
      rfl
  | .non :: _, _, _, _, e => by cases e
  | .int _ :: _, _, _, _, e => by cases e
  | .str _ :: _, _, _, _, e => by cases e
  | .tup _ :: _, _, _, _, e => by cases e
  | .ref _ :: _, _, _, _, e => by cases e
end

/-- pairs of a dict -/
inductive RKV (K : PySem.W.Frag) (H : Hp) (ι : Nat → Addr) (n : Nat) : List (Key × V) → List (Key × LV) → Prop
  | nil : RKV K H ι n [] []
  | cons {k : Key} {v : V} {d : LV} {vs : List (Key × V)} {ds : List (Key × LV)} : RV K H ι n v d → RKV K H ι n vs ds → RKV K H ι n ((k, v) :: vs) ((k, d) :: ds)
/-- attributes -/
inductive RFS (K : PySem.W.Frag) (H : Hp) (ι : Nat → Addr) (n : Nat) : List (Str × V) → List (Str × LV) → Prop
  | nil : RFS K H ι n [] []
  | cons {k : Str} {v : V} {d : LV} {vs : List (Str × V)} {ds : List (Str × LV)} : RV K H ι n v d → RFS K H ι n vs ds → RFS K H ι n ((k, v) :: vs) ((k, d) :: ds)
/-- the class of a name of the module -/
def ClsOf (K : PySem.W.Frag) (c : Str) (C : Addr) : Prop := PySem.W.nsIn K mainGlobals c = some (some (.ref C))
/-- what the text says of every class whose instances are made -/
structure ClsF (K : PySem.W.Frag) (C : Addr) : Prop where
  cl : Cls K C
  ca : PySem.W.findIn K (.ref C) "__class__" = some (some (.builtin "object.__class__"))
  cn : PySem.W.specialIn K (.builtin "object.__class__") "__get__" = some (some (.builtin "getset_descriptor.__get__"))
  ct : PySem.W.takesIn K (.builtin "object.__class__") = some true
  cm : PySem.W.mroIn K C (.type "object") = some true
theorem ClsOf.uniq {K : PySem.W.Frag} {c : Str} {C D : Addr} (h : ClsOf K c C) (h' : ClsOf K c D) : C = D := by
  unfold ClsOf at h h'
  rw [h] at h'
  cases h'
  rfl
/-- the script's list: read, never written -/
def FrzAt (K : PySem.W.Frag) (H : Hp) (a : Addr) (xs : List V) : Prop := (∃ o, H a = some (.frz o (.lst xs))) ∨ SqL K (fun _ => none) a xs
def isMut : LO → Bool
  | .frz _ => false
  | _ => true
/-- the object at a is o -/
def RO (K : PySem.W.Frag) (H : Hp) (ι : Nat → Addr) (n : Nat) (a : Addr) : LO → Prop
  | .lst ds => ∃ xs, H a = some (.lst xs) ∧ RVs K H ι n xs ds
  | .frz ns => FrzAt K H a (ns.map V.int)
  | .dic ds => ∃ vs, H a = some (.dK vs) ∧ RKV K H ι n vs ds
  | .ins c fs => ∃ C dx vs, ClsOf K c C ∧ ClsF K C ∧ H a = some (.ins C dx vs) ∧ RFS K H ι n vs fs
/-- the heap H is L, object by object -/
structure Rep (K : PySem.W.Frag) (ι : Nat → Addr) (H : Hp) (L : LH) : Prop where
  ob : ∀ (k : Nat) (o : LO), L[k]? = some o → RO K H ι L.length (ι k) o
  inj : ∀ (j k : Nat) (x y : LO), L[j]? = some x → L[k]? = some y → isMut x = true → isMut y = true → ι j = ι k → j = k
/-- the names' values; what is none there may be anything -/
structure RS (K : PySem.W.Frag) (H : Hp) (ι : Nat → Addr) (n : Nat) (σV : L2.St) (σ : LSt) : Prop where
  len : σV.length = σ.length
  at_ : ∀ (i : Nat) (d : LV), σ[i]? = some (some d) → ∃ v, σV[i]? = some (some v) ∧ RV K H ι n v d

section
variable {K : PySem.W.Frag} {ι ι' : Nat → Addr} {H H' : Hp} {n n' : Nat} {L : LH} {a p : Addr}
theorem RKV.mono (ev : Ev K ι H n ι' H' n') : ∀ {vs : List (Key × V)} {ds : List (Key × LV)}, RKV K H ι n vs ds → RKV K H' ι' n' vs ds
  | _, _, .nil => .nil
  | _, _, .cons r t => .cons (r.mono ev) (RKV.mono ev t)
theorem RFS.mono (ev : Ev K ι H n ι' H' n') : ∀ {vs : List (Str × V)} {ds : List (Str × LV)}, RFS K H ι n vs ds → RFS K H' ι' n' vs ds
  | _, _, .nil => .nil
  | _, _, .cons r t => .cons (r.mono ev) (RFS.mono ev t)
theorem RFS.length : ∀ {vs : List (Str × V)} {ds : List (Str × LV)}, RFS K H ι n vs ds → vs.length = ds.length
  | _, _, .nil => rfl
  | _, _, .cons _ t => congrArg (· + 1) (RFS.length t)
theorem lookup_cons {α : Type} (f g : Str) (x : α) (r : List (Str × α)) : ((f, x) :: r).lookup g = if g = f then some x else r.lookup g := by
  by_cases h : g = f
  · subst h
    simp [List.lookup]
  · have hb : (g == f) = false := beq_eq_false_iff_ne.mpr h
    simp only [List.lookup, hb, if_neg h]
theorem RFS.get {f : Str} : ∀ {vs : List (Str × V)} {ds : List (Str × LV)} {d : LV}, RFS K H ι n vs ds → ds.lookup f = some d → ∃ v, vs.lookup f = some v ∧ RV K H ι n v d
  | _, _, _, .nil, e => by cases e
  | _, _, d, .cons (k := k) (v := v) r t, e => by
    rw [lookup_cons] at e ⊢
    by_cases h : f = k
    · rw [if_pos h] at e ⊢
      cases e
      exact ⟨v, rfl, r⟩
    · rw [if_neg h] at e ⊢
      exact RFS.get t e
theorem RFS.none {f : Str} : ∀ {vs : List (Str × V)} {ds : List (Str × LV)}, RFS K H ι n vs ds → ds.lookup f = Option.none → vs.lookup f = Option.none
  | _, _, .nil, _ => rfl
  | _, _, .cons (k := k) (v := v) r t, e => by
    rw [lookup_cons] at e ⊢
    by_cases h : f = k
    · rw [if_pos h] at e
      cases e
    · rw [if_neg h] at e ⊢
      exact RFS.none t e
theorem RFS.put {f : Str} {v : V} {d : LV} (q : RV K H ι n v d) : ∀ {vs : List (Str × V)} {ds : List (Str × LV)}, RFS K H ι n vs ds → RFS K H ι n (putF f v vs) (fput f d ds)
  | _, _, .nil => .cons q .nil
  | _, _, .cons (k := k) r t => by
    unfold putF fput
    by_cases h : k = f
    · rw [if_pos h, if_pos h]
      exact .cons q t
    · rw [if_neg h, if_neg h]
      exact .cons r (RFS.put q t)
theorem RKV.length : ∀ {vs : List (Key × V)} {ds : List (Key × LV)}, RKV K H ι n vs ds → vs.length = ds.length
  | _, _, .nil => rfl
  | _, _, .cons _ t => congrArg (· + 1) (RKV.length t)
theorem RKV.val {k : Key} : ∀ {vs : List (Key × V)} {ds : List (Key × LV)} {d : LV}, RKV K H ι n vs ds → dval ds k = some d → ∃ v, valV vs k = some v ∧ RV K H ι n v d
  | _, _, _, .nil, e => by cases e
  | _, _, d, .cons (k := k') (v := v) (d := d') r t, e => by
    by_cases h : k' = k
    · subst h
      have e' : dval ((k', d') :: _) k' = some d := e
      unfold dval at e'
      rw [List.find?_cons_of_pos (by simp)] at e'
      cases e'
      exact ⟨v, valV_pos rfl, r⟩
    · have e' : dval ((k', d') :: _) k = some d := e
      unfold dval at e'
      rw [List.find?_cons_of_neg (by simpa using h)] at e'
      obtain ⟨v', h1, h2⟩ := RKV.val (k := k) (d := d) t e'
      exact ⟨v', by rw [valV_neg h]; exact h1, h2⟩
theorem RKV.any {k : Key} : ∀ {vs : List (Key × V)} {ds : List (Key × LV)}, RKV K H ι n vs ds → (vs.any fun kv => decide (kv.1 = k)) = ds.any fun kv => decide (kv.1 = k)
  | _, _, .nil => rfl
  | _, _, .cons r t => by
    rw [List.any_cons, List.any_cons, RKV.any t]
theorem RKV.repl {k : Key} {v : V} {d : LV} (r : RV K H ι n v d) : ∀ {vs : List (Key × V)} {ds : List (Key × LV)}, RKV K H ι n vs ds →
    RKV K H ι n (vs.map fun kv => if kv.1 = k then (kv.1, v) else kv) (ds.map fun kv => if kv.1 = k then (kv.1, d) else kv)
  | _, _, .nil => .nil
  | _, _, .cons (k := k') q t => by
    rw [List.map_cons, List.map_cons]
    by_cases h : k' = k
    · rw [if_pos h, if_pos h]
      exact .cons r (RKV.repl r t)
    · rw [if_neg h, if_neg h]
      exact .cons q (RKV.repl r t)
theorem RKV.append : ∀ {vs ws : List (Key × V)} {ds es : List (Key × LV)}, RKV K H ι n vs ds → RKV K H ι n ws es → RKV K H ι n (vs ++ ws) (ds ++ es)
  | _, _, _, _, .nil, s => s
  | _, _, _, _, .cons r t, s => .cons r (RKV.append t s)
theorem RKV.put {k : Key} {v : V} {d : LV} {vs : List (Key × V)} {ds : List (Key × LV)} (r : RV K H ι n v d) (h : RKV K H ι n vs ds) : RKV K H ι n (putK vs k v) (dput ds k d) := by
  unfold putK dput
  rw [h.any]
  split
  · exact RKV.repl r h
  · exact RKV.append h (.cons r .nil)
theorem SqT.upd {xs zs : List V} {o : HO} (h : SqT K H a xs) (hp : ∀ u, H p = some u → (∀ ys, u ≠ .tup ys) ∧ ∀ q ys, u ≠ .frz q (.tup ys)) : SqT K (upd H p o) a xs := by
  rcases h with (h | ⟨q, h⟩) | h
  · refine .inl (.inl ?_)
    rw [upd_ne]
    · exact h
    · rintro rfl
      exact (hp _ h).1 xs rfl
  · refine .inl (.inr ⟨q, ?_⟩)
    rw [upd_ne]
    · exact h
    · rintro rfl
      exact (hp _ h).2 q xs rfl
  · exact .inr h
theorem noTup_none {H : Hp} {p : Addr} (h : H p = none) : ∀ u, H p = some u → (∀ ys, u ≠ .tup ys) ∧ ∀ q ys, u ≠ .frz q (.tup ys) := fun u e => by rw [h] at e; cases e
theorem Ev.fresh {o : HO} (hp : H p = none) : Ev K ι H n ι (upd H p o) n := ⟨fun _ _ => rfl, Nat.le_refl _, fun _ xs h => SqT.upd (zs := xs) h (noTup_none hp)⟩
/-- the place of the next number -/
def ext (ι : Nat → Addr) (n : Nat) (p : Addr) : Nat → Addr := fun k => if k = n then p else ι k
theorem ext_lt {k : Nat} (h : k < n) : ext ι n p k = ι k := if_neg (Nat.ne_of_lt h)
theorem ext_eq : ext ι n p n = p := if_pos rfl
theorem Ev.new {o : HO} (hp : H p = none) : Ev K ι H n (ext ι n p) (upd H p o) (n + 1) :=
  ⟨fun _ hk => ext_lt hk, Nat.le_succ _, fun _ xs h => SqT.upd (zs := xs) h (noTup_none hp)⟩
theorem RO.mono_ne {o : LO} {u : HO} (ev : Ev K ι H n ι' (upd H p u) n') (h : RO K H ι n a o) (ha : a ≠ p ∨ ∃ ns, o = .frz ns ∧ ¬ ∃ q xs, H p = some (.frz q (.lst xs))) : RO K (upd H p u) ι' n' a o := by
  cases o with
  | lst ds =>
    obtain ⟨xs, h1, h2⟩ := h
    rcases ha with ha | ⟨_, e, _⟩
    · exact ⟨xs, by rw [upd_ne ha]; exact h1, h2.mono ev⟩
    · cases e
  | dic ds =>
    obtain ⟨xs, h1, h2⟩ := h
    rcases ha with ha | ⟨_, e, _⟩
    · exact ⟨xs, by rw [upd_ne ha]; exact h1, h2.mono ev⟩
    · cases e
  | ins c fs =>
    obtain ⟨C, dx, vs, h0, hF, h1, h2⟩ := h
    rcases ha with ha | ⟨_, e, _⟩
    · exact ⟨C, dx, vs, h0, hF, by rw [upd_ne ha]; exact h1, h2.mono ev⟩
    · cases e
  | frz ns =>
    rcases h with ⟨q, h⟩ | h
    · refine .inl ⟨q, ?_⟩
      rw [upd_ne]
      · exact h
      · rintro rfl
        rcases ha with ha | ⟨_, _, ha⟩
        · exact ha rfl
        · exact ha ⟨_, _, h⟩
    · exact .inr h
theorem RO.some {o : LO} (h : RO K H ι n a o) (m : isMut o = true) : ∃ u, H a = some u ∧ Mut (some u) := by
  cases o with
  | lst ds => obtain ⟨xs, h1, _⟩ := h; exact ⟨_, h1, trivial⟩
  | dic ds => obtain ⟨xs, h1, _⟩ := h; exact ⟨_, h1, trivial⟩
  | ins c fs => obtain ⟨C, dx, vs, _, _, h1, _⟩ := h; exact ⟨_, h1, trivial⟩
  | frz ns => cases m
theorem get_lt {k : Nat} {o : LO} (h : L[k]? = some o) : k < L.length := (List.getElem?_eq_some_iff.mp h).1
/-- a new tuple, or any other thing that has no number -/
theorem Rep.free {u : HO} (R : Rep K ι H L) (hp : H p = none) : Rep K ι (upd H p u) L :=
  ⟨fun k o h => (R.ob k o h).mono_ne (Ev.fresh hp) (by
    by_cases m : isMut o = true
    · obtain ⟨u, e, _⟩ := (R.ob k o h).some m
      exact .inl (ne_of_none e hp)
    · cases o with
      | frz ns => exact .inr ⟨ns, rfl, fun ⟨_, _, z⟩ => by rw [hp] at z; cases z⟩
      | _ => exact absurd rfl m), R.inj⟩
/-- a new object -/
theorem Rep.new {u : HO} {o : LO} (R : Rep K ι H L) (hp : H p = none) (h : RO K (upd H p u) (ext ι L.length p) (L.length + 1) p o) : Rep K (ext ι L.length p) (upd H p u) (L ++ [o]) := by
  have old : ∀ k x, L[k]? = some x → isMut x = true → ι k ≠ p := fun k x e m => by
    obtain ⟨u, e', _⟩ := (R.ob k x e).some m
    exact ne_of_none e' hp
  refine ⟨fun k x e => ?_, fun j k x y ej ek mx my eq => ?_⟩
  · rw [List.length_append, List.length_singleton]
    by_cases hk : k < L.length
    · rw [List.getElem?_append_left hk] at e
      rw [ext_lt hk]
      refine (R.ob k x e).mono_ne (Ev.new hp) ?_
      by_cases m : isMut x = true
      · exact .inl (old k x e m)
      · cases x with
        | frz ns => exact .inr ⟨ns, rfl, fun ⟨_, _, z⟩ => by rw [hp] at z; cases z⟩
        | _ => exact absurd rfl m
    · have hl := get_lt e
      rw [List.length_append, List.length_singleton] at hl
      have hk' : k = L.length := by omega
      subst hk'
      rw [List.getElem?_append_right (Nat.le_refl _)] at e
      simp at e
      subst e
      rw [ext_eq]
      exact h
  · have cas : ∀ i z, (L ++ [o])[i]? = some z → (i < L.length ∧ L[i]? = some z) ∨ i = L.length := fun i z e => by
      by_cases hi : i < L.length
      · rw [List.getElem?_append_left hi] at e
        exact .inl ⟨hi, e⟩
      · have hl := get_lt e
        rw [List.length_append, List.length_singleton] at hl
        exact .inr (by omega)
    rcases cas j x ej with ⟨hj, ej'⟩ | hj
    · rcases cas k y ek with ⟨hk, ek'⟩ | hk
      · rw [ext_lt hj, ext_lt hk] at eq
        exact R.inj j k x y ej' ek' mx my eq
      · subst hk
        rw [ext_lt hj, ext_eq] at eq
        exact absurd eq (old j x ej' mx)
    · rcases cas k y ek with ⟨hk, ek'⟩ | hk
      · subst hj
        rw [ext_lt hk, ext_eq] at eq
        exact absurd eq.symm (old k y ek' my)
      · rw [hj, hk]
theorem noTup_mut {u : HO} (h : H p = some u) (m : Mut (some u)) : ∀ u, H p = some u → (∀ ys, u ≠ .tup ys) ∧ ∀ q ys, u ≠ .frz q (.tup ys) := fun u' e => by
  rw [h] at e
  cases e
  refine ⟨fun ys z => ?_, fun q ys z => ?_⟩ <;> (subst z; exact m)
theorem Ev.set {u o : HO} (h : H p = some u) (m : Mut (some u)) : Ev K ι H n ι (upd H p o) n := ⟨fun _ _ => rfl, Nat.le_refl _, fun _ xs q => SqT.upd (zs := xs) q (noTup_mut h m)⟩
/-- an object is changed -/
theorem Rep.set {k : Nat} {u : HO} {o o' : LO} (R : Rep K ι H L) (hk : L[k]? = some o) (m : isMut o = true) (m' : isMut o' = true) (h : RO K (upd H (ι k) u) ι L.length (ι k) o') :
    Rep K ι (upd H (ι k) u) (L.set k o') := by
  obtain ⟨w, hw, mw⟩ := (R.ob k o hk).some m
  have hl := get_lt hk
  refine ⟨fun j x e => ?_, fun i j x y ei ej mx my eq => ?_⟩
  · rw [List.length_set]
    by_cases hj : j = k
    · subst hj
      rw [List.getElem?_set_self hl] at e
      cases e
      exact h
    · rw [List.getElem?_set_ne (Ne.symm hj)] at e
      refine (R.ob j x e).mono_ne (Ev.set hw mw) ?_
      by_cases mx : isMut x = true
      · exact .inl fun z => hj (R.inj j k x o e hk mx m z)
      · cases x with
        | frz ns => exact .inr ⟨ns, rfl, fun ⟨_, _, z⟩ => by rw [hw] at z; cases z; exact mw⟩
        | _ => exact absurd rfl mx
  · have cas : ∀ i z, (L.set k o')[i]? = some z → ∃ z', L[i]? = some z' ∧ (isMut z = true → isMut z' = true) := fun i z e => by
      by_cases hi : i = k
      · subst hi
        exact ⟨o, hk, fun _ => m⟩
      · rw [List.getElem?_set_ne (Ne.symm hi)] at e
        exact ⟨z, e, fun q => q⟩
    obtain ⟨x', ex, mx'⟩ := cas i x ei
    obtain ⟨y', ey, my'⟩ := cas j y ej
    exact R.inj i j x' y' ex ey (mx' mx) (my' my) eq
theorem RS.mono {σV : L2.St} {σ : LSt} (ev : Ev K ι H n ι' H' n') (r : RS K H ι n σV σ) : RS K H' ι' n' σV σ :=
  ⟨r.len, fun i d e => let ⟨v, h1, h2⟩ := r.at_ i d e; ⟨v, h1, h2.mono ev⟩⟩
theorem RS.set {σV : L2.St} {σ : LSt} {v : V} {d : LV} (i : Nat) (q : RV K H ι n v d) (r : RS K H ι n σV σ) : RS K H ι n (σV.set i (some v)) (σ.set i (some d)) := by
  refine ⟨by rw [List.length_set, List.length_set]; exact r.len, fun j e h => ?_⟩
  by_cases hj : i = j
  · subst hj
    have hl : i < σ.length := by
      have z := (List.getElem?_eq_some_iff.mp h).1
      rwa [List.length_set] at z
    rw [List.getElem?_set_self hl] at h
    cases h
    exact ⟨v, List.getElem?_set_self (by rw [r.len]; exact hl), q⟩
  · rw [List.getElem?_set_ne hj] at h
    rw [List.getElem?_set_ne hj]
    exact r.at_ j e h
end

/-! ### what is wanted -/
/-- of an exception: its class's number, its fields, the heap; the names -/
abbrev XW := Str → List (Str × LV) → LH → (Nat → Addr) → Hp → L2.St → Prop
/-- a relation between what the layer has and the logical thing, over a heap -/
abbrev Rl (α β : Type) := Hp → (Nat → Addr) → Nat → β → α → Prop
section
variable {α β γ δ : Type}
def Po (K : PySem.W.Frag) (W : XW) (R : Rl α β) (σV : L2.St) (Q : β → Hp → Prop) (ι : Nat → Addr) (H : Hp) (n : Nat) : Out α → Prop
  | .ok d L' => ∀ ι' H' v, Ev K ι H n ι' H' L'.length → Rep K ι' H' L' → R H' ι' L'.length v d → Q v H'
  | .ex c fs L' => ∀ ι' H', Ev K ι H n ι' H' L'.length → Rep K ι' H' L' → W c fs L' ι' H' σV
/-- the evaluator stands at r, over L; Q is what is wanted of its end -/
structure At (K : PySem.W.Frag) (W : XW) (R : Rl α β) (σV : L2.St) (σ : LSt) (ι : Nat → Addr) (L : LH) (r : Option (Out α)) (Q : β → Hp → Prop) (H : Hp) : Prop where
  rep : Rep K ι H L
  rs : RS K H ι L.length σV σ
  go : ∃ o, r = some o ∧ Po K W R σV Q ι H L.length o
variable {K : PySem.W.Frag} {W : XW} {R : Rl α β} {R2 : Rl γ δ} {σV : L2.St} {σ : LSt} {ι : Nat → Addr} {L : LH} {H : Hp} {Q Q' : β → Hp → Prop} {Q2 : δ → Hp → Prop} {r : Option (Out α)}
theorem At.imp (h : At K W R σV σ ι L r Q H) (q : ∀ v H', Q v H' → Q' v H') : At K W R σV σ ι L r Q' H := by
  obtain ⟨a, b, o, e, p⟩ := h
  refine ⟨a, b, o, e, ?_⟩
  cases o with
  | ok d L' => exact fun ι' H' v e1 e2 e3 => q _ _ (p ι' H' v e1 e2 e3)
  | ex c fs L' => exact p
theorem At.bind {m : M α} {f : α → M γ} (h : At K W R2 σV σ ι L (M.bind m f L) Q2 H) :
    At K W R σV σ ι L (m L) (fun v H1 => ∃ d ι1 L1, R H1 ι1 L1.length v d ∧ Ev K ι H L.length ι1 H1 L1.length ∧ At K W R2 σV σ ι1 L1 (f d L1) Q2 H1) H := by
  obtain ⟨a, b, o, e, p⟩ := h
  unfold M.bind at e
  refine ⟨a, b, ?_⟩
  cases hm : m L with
  | none => rw [hm] at e; cases e
  | some om =>
    cases om with
    | ok d L1 =>
      rw [hm] at e
      have e : f d L1 = some o := e
      refine ⟨_, rfl, fun ι1 H1 v ev rp rv => ⟨d, ι1, L1, rv, ev, rp, b.mono ev, o, e, ?_⟩⟩
      cases o with
      | ok d2 L2 => exact fun ι2 H2 v2 ev2 rp2 rv2 => p ι2 H2 v2 (ev.trans ev2) rp2 rv2
      | ex c fs L2 => exact fun ι2 H2 ev2 rp2 => p ι2 H2 (ev.trans ev2) rp2
    | ex c fs L1 =>
      rw [hm] at e
      have e : some (Out.ex c fs L1) = some o := e
      cases e
      exact ⟨_, rfl, fun ι1 H1 ev rp => p ι1 H1 ev rp⟩
theorem At.bindE {m : M α} {f : α → M γ} (h : At K W R2 σV σ ι L (M.bind m f L) Q2 H) :
    At K W R σV σ ι L (m L) (fun v H1 => ∃ d ι1 L1, m L = some (.ok d L1) ∧ R H1 ι1 L1.length v d ∧ Ev K ι H L.length ι1 H1 L1.length ∧ At K W R2 σV σ ι1 L1 (f d L1) Q2 H1) H := by
  have h0 := h.bind (R := R)
  obtain ⟨a, b, o, e, p⟩ := h0
  refine ⟨a, b, o, e, ?_⟩
  obtain ⟨a2, b2, o2, e2, p2⟩ := h
  unfold M.bind at e2
  rw [e] at e2
  cases o with
  | ok d L' =>
    have e2 : f d L' = some o2 := e2
    refine fun ι1 H1 v ev rp rv => ⟨d, ι1, L', e, rv, ev, rp, b2.mono ev, o2, e2, ?_⟩
    cases o2 with
    | ok d2 L2 => exact fun ι2 H2 v2 ev2 rp2 rv2 => p2 ι2 H2 v2 (ev.trans ev2) rp2 rv2
    | ex c fs L2 => exact fun ι2 H2 ev2 rp2 => p2 ι2 H2 (ev.trans ev2) rp2
  | ex c fs L' => exact p
theorem At.ret {d : α} {v : β} (h : At K W R σV σ ι L (M.ret d L) Q H) (q : R H ι L.length v d) : Q v H := by
  obtain ⟨a, b, o, e, p⟩ := h
  have e : some (Out.ok d L) = some o := e
  cases e
  exact p ι H v Ev.refl a q
/-- .. where the heap got a thing that has no number -/
theorem At.retF {d : α} {v : β} {p : Addr} {u : HO} (h : At K W R σV σ ι L (M.ret d L) Q H) (hp : H p = none) (q : R (upd H p u) ι L.length v d) : Q v (upd H p u) := by
  obtain ⟨a, b, o, e, z⟩ := h
  have e : some (Out.ok d L) = some o := e
  cases e
  exact z ι _ v (Ev.fresh hp) (a.free hp) q
theorem At.no (h : At K W R σV σ ι L (M.no L) Q H) : False := by
  obtain ⟨_, _, o, e, _⟩ := h
  cases e
theorem At.chk {b : Bool} {m : M α} (h : At K W R σV σ ι L (M.chk b m L) Q H) : b = true ∧ At K W R σV σ ι L (m L) Q H := by
  cases b with
  | true => exact ⟨rfl, h⟩
  | false => exact (At.no h).elim
theorem At.ofO {o : Option γ} {f : γ → M α} (h : At K W R σV σ ι L (M.ofO o f L) Q H) : ∃ a, o = some a ∧ At K W R σV σ ι L (f a L) Q H := by
  cases o with
  | some a => exact ⟨a, rfl, h⟩
  | none => exact (At.no h).elim
theorem At.look {g : LH → Option γ} {f : γ → M α} (h : At K W R σV σ ι L (M.look g f L) Q H) : ∃ a, g L = some a ∧ At K W R σV σ ι L (f a L) Q H := by
  unfold M.look at h
  cases e : g L with
  | some a => rw [e] at h; exact ⟨a, rfl, h⟩
  | none => rw [e] at h; obtain ⟨_, _, o, z, _⟩ := h; cases z
theorem At.none (h : At K W R σV σ ι L (Option.none : Option (Out α)) Q H) : False := by
  obtain ⟨_, _, o, e, _⟩ := h
  cases e
end
abbrev RVr (K : PySem.W.Frag) : Rl LV V := fun H ι n v d => RV K H ι n v d
abbrev RVsr (K : PySem.W.Frag) : Rl (List LV) (List V) := fun H ι n v d => RVs K H ι n v d
/-- a value that is the same in both -/
abbrev Eqr {α : Type} : Rl α α := fun _ _ _ v d => v = d
section
variable {K : PySem.W.Frag} {W : XW} {σV : L2.St} {σ : LSt} {ι : Nat → Addr} {L : LH} {H : Hp} {Q : VK}
/-- a new object with a number -/
theorem At.new {o : LO} {u : HO} {p : Addr} (h : At K W (RVr K) σV σ ι L (new o L) Q H) (hp : H p = Option.none) (q : RO K (upd H p u) (ext ι L.length p) (L.length + 1) p o) : Q (.ref p) (upd H p u) := by
  obtain ⟨a, b, o', e, z⟩ := h
  have e : some (Out.ok (.ref L.length) (L ++ [o])) = some o' := e
  cases e
  refine z (ext ι L.length p) _ _ ?_ (a.new hp q) ?_
  · rw [List.length_append, List.length_singleton]
    exact Ev.new hp
  · have z : RV K (upd H p u) (ext ι L.length p) (L ++ [o]).length (.ref (ext ι L.length p L.length)) (.ref L.length) := .ref _ (by rw [List.length_append, List.length_singleton]; omega)
    rw [ext_eq] at z
    exact z
end

/-! ### readings -/
def tG {α β : Type} (K : PySem.W.Frag) (W : XW) (R : Rl α β) (m : LSt → M α) : L2.St → Hp → (β → Hp → Prop) → Prop := fun σV H Q => ∃ ι σ L, At K W R σV σ ι L (m σ L) Q H
abbrev tI (K : PySem.W.Frag) (W : XW) (m : LSt → M LV) : TE := tG K W (RVr K) m
abbrev tIs (K : PySem.W.Frag) (W : XW) (m : LSt → M (List LV)) : TA := tG K W (RVsr K) m
abbrev tIO (K : PySem.W.Frag) (W : XW) (m : LSt → M (Option Int)) : TO := tG K W Eqr m
theorem PE.imp {X : Cx} {e : Expr} {t t' : TE} (h : PE X e t) (q : ∀ σ H Q, t' σ H Q → t σ H Q) : PE X e t' := ⟨fun pins s σ H Q I w => h.run pins s σ H Q I (q σ H Q w)⟩
theorem PT.imp {X : Cx} {e : Expr} {t t' : TT} (h : PT X e t) (q : ∀ σ H Q, t' σ H Q → t σ H Q) : PT X e t' := ⟨fun pins s σ H Q I w => h.run pins s σ H Q I (q σ H Q w)⟩
theorem PA.imp {X : Cx} {e : List Expr} {t t' : TA} (h : PA X e t) (q : ∀ σ H Q, t' σ H Q → t σ H Q) : PA X e t' := ⟨fun pos pins s σ H Q I w => h.run pos pins s σ H Q I (q σ H Q w)⟩
theorem PO.imp {X : Cx} {e : Option Expr} {t t' : TO} (h : PO X e t) (q : ∀ σ H Q, t' σ H Q → t σ H Q) : PO X e t' := ⟨fun pins s σ H Q I w => h.run pins s σ H Q I (q σ H Q w)⟩
theorem PS.imp {X : Cx} {e : Stmt} {t t' : TS} (h : PS X e t) (q : ∀ D σ H, t' D σ H → t D σ H) : PS X e t' := ⟨fun pins s σ H D I w => h.run pins s σ H D I (q D σ H w)⟩
theorem PSs.imp {X : Cx} {e : List Stmt} {t t' : TS} (h : PSs X e t) (q : ∀ D σ H, t' D σ H → t D σ H) : PSs X e t' := ⟨fun pins s σ H D I w => h.run pins s σ H D I (q D σ H w)⟩
end Mv

/-! Mv3a: rules that the layer lacks: t * k for any k; t[::-1]. -/
namespace Mv
open PySem PySem.Spec PyProof.Rows L2

theorem tuple_mul_same (l : Addr) (items : Array Value) (n : Nat) (dd : Option Addr) (sl : Array (Option Value)) (x : Int) (u : Tok) (c0 : (decide (x < -(2 ^ 63)) || decide (x ≥ 2 ^ 63)) = false) (c1 : (items.isEmpty || x == 1) = true) :
    Meets (Builtin.«tuple.__mul__» ⟨[.ref l, .int x u], []⟩) (fun _ R s => s.heap.get? l = some { cls := .type "tuple", dict := dd, data := .seq items n, slots := sl } ∧
      R (.ok (.ret (Value.ref l))) s) :=
  .of_wp fun prog w A R s h => by
    obtain ⟨hp, g, d, tk, os⟩ := s
    obtain ⟨hl, h⟩ := h
    have f1 := AutoSeq1.idx_int
    wp_walk using wpAny_loadPart' hl
    repeat (first
      | (refine wpAny_ite_false (decide_eq_false (by rw [c0]; exact Bool.false_ne_true)) ?_; wp_walk using wpAny_loadPart' hl)
      | (refine wpAny_ite_true (decide_eq_true c1) ?_; wp_walk using wpAny_loadPart' hl))
    exact ⟨_, rfl, h⟩
theorem tuple_mul_none (l : Addr) (items : Array Value) (n : Nat) (dd : Option Addr) (sl : Array (Option Value)) (x : Int) (u : Tok) (c0 : (decide (x < -(2 ^ 63)) || decide (x ≥ 2 ^ 63)) = false) (c1 : (items.isEmpty || x == 1) = false) (c2 : (decide (x ≤ 0) || items.isEmpty) = true) :
    Meets (Builtin.«tuple.__mul__» ⟨[.ref l, .int x u], []⟩) (fun _ R s => s.heap.get? l = some { cls := .type "tuple", dict := dd, data := .seq items n, slots := sl } ∧
      R (.ok (.ret (Value.ref s.heap.objs.size))) { s with heap := s.heap.push { cls := Value.type "tuple", data := Data.seq #[] }, toks := s.toks }) :=
  .of_wp fun prog w A R s h => by
    obtain ⟨hp, g, d, tk, os⟩ := s
    obtain ⟨hl, h⟩ := h
    have f1 := AutoSeq1.idx_int
    wp_walk using wpAny_loadPart' hl
    repeat (first
      | (refine wpAny_ite_false (decide_eq_false (by rw [c0]; exact Bool.false_ne_true)) ?_; wp_walk using wpAny_loadPart' hl)
      | (refine wpAny_ite_false (decide_eq_false (by rw [c1]; exact Bool.false_ne_true)) ?_; wp_walk using wpAny_loadPart' hl)
      | (refine wpAny_ite_true (decide_eq_true c2) ?_; wp_walk using wpAny_loadPart' hl))
    exact ⟨_, rfl, h⟩
/-- t * k -/
def rMulT (K : PySem.W.Frag) : R2 := fun x y H Q => ∃ l k xs, x = .ref l ∧ y = .int k ∧ SqT K H l xs ∧ -(2 ^ 63) ≤ k ∧ k < 2 ^ 63 ∧ xs.length * k.toNat ≤ sizeLine ∧
  (xs = [] ∨ k = 1 → Q (.ref l) H) ∧ (¬ (xs = [] ∨ k = 1) → ∀ p, H p = none → Q (.ref p) (upd H p (.tup (List.replicate k.toNat xs).flatten)))
theorem tup_dict {X : Cx} {pins : List (Addr × Obj)} {σ : L2.St} {H : Hp} {s : Shared} {l : Addr} {xs : List V} (I : Inv X pins σ H s) (h : SqT X.K H l xs) :
    ∃ (its : List Value) (n : Nat) (dd : Option Addr) (sl : Array (Option Value)), Vals xs its ∧ s.heap.get? l = some { cls := .type "tuple", dict := dd, data := .seq its.toArray n, slots := sl } ∧ xs.length ≤ sizeLine := by
  obtain ⟨its, r, ⟨⟨cls, dd, data, sl⟩, ho, hc, n, hd⟩, hs⟩ := I.tuple h
  simp only at hc hd
  subst hc hd
  exact ⟨its, n, dd, sl, r, ho, hs⟩
section
variable {X : Cx}
theorem op_mulT : OpR X (binaryOp .Mult) (rMulT X.K) := by
  intro pins s σ H x y v u Q I rx ry h
  obtain ⟨l, k, xs, rfl, rfl, hT, h1, h2, hz, q1, q2⟩ := h
  cases rx
  obtain ⟨t, rfl⟩ := ry
  obtain ⟨its, n, dd, sl, r, ho, hs⟩ := tup_dict I hT
  have hle : its.length = xs.length := r.length.symm
  have c0 : (decide (k < -(2 ^ 63)) || decide (k ≥ 2 ^ 63)) = false := by
    rw [decide_eq_false (by omega), decide_eq_false (by omega)] <;> rfl
  refine wpAny_binaryOp_repeat_ref (T := "tuple") (U := "int") (by decide) ⟨_, ho, rfl⟩ (fun s' => typeIs_int s' k t) noFill_tuple_mul F.fills_int_mul F.slot_int_rmul repeat_tuple F.slot_int_index.lookup
    (call_meets F.slot_int_rmul (typeIs_int s k t) F.entry_int_rmul (F.args_int_rmul_2 _ _) (int_rmul_tuple k t l its.toArray n dd sl)
      ⟨ho, rfl, ⟨_, ho, rfl⟩, ?_⟩)
  have hemp : its.toArray.isEmpty = xs.isEmpty := by
    cases r <;> rfl
  by_cases hc : xs = [] ∨ k = 1
  · have c1 : (its.toArray.isEmpty || k == 1) = true := by
      rw [hemp]
      rcases hc with rfl | rfl <;> simp
    exact call_meets F.slot_tuple_mul ⟨_, ho, rfl⟩ F.entry_tuple_mul (F.args_tuple_mul_2 _ _) (tuple_mul_same l its.toArray n dd sl k t c0 c1) ⟨ho, .ref l, H, I, rfl, q1 hc⟩
  · have hx : xs ≠ [] := fun e => hc (.inl e)
    have hk : k ≠ 1 := fun e => hc (.inr e)
    have hxe : xs.isEmpty = false := by
      cases xs with
      | nil => exact absurd rfl hx
      | cons a b => rfl
    have c1 : (its.toArray.isEmpty || k == 1) = false := by
      rw [hemp, hxe, Bool.false_or]
      exact beq_eq_false_iff_ne.mpr hk
    have fin : ∀ ys : List Value, ys = (List.replicate k.toNat its).flatten → EP X pins σ Q (Value.ref s.heap.objs.size) { s with heap := s.heap.push { cls := Value.type "tuple", data := Data.seq ys.toArray }, toks := s.toks } := fun ys e => by
      subst e
      refine ⟨.ref s.heap.objs.size, _, I.laid (t' := s.toks) (o := .tup (List.replicate k.toNat xs).flatten) (fun b ob q => Heap.get?_push_of_some _ q) (Nat.le_refl _) ?_, rfl, q2 hc _ (I.hok.fresh (Nat.le_refl _))⟩
      exact ⟨by rw [PyProof.Rows.lm_len_rep_flat, Nat.mul_comm]; exact hz, _, r.rep k.toNat, IsTup.new _ _⟩
    by_cases h0 : k ≤ 0
    · have c2 : (decide (k ≤ 0) || its.toArray.isEmpty) = true := by rw [decide_eq_true h0]; rfl
      refine call_meets F.slot_tuple_mul ⟨_, ho, rfl⟩ F.entry_tuple_mul (F.args_tuple_mul_2 _ _) (tuple_mul_none l its.toArray n dd sl k t c0 c1 c2) ⟨ho, ?_⟩
      have e : k.toNat = 0 := by omega
      exact fin [] (by rw [e]; rfl)
    · have c2 : (decide (k ≤ 0) || its.toArray.isEmpty) = false := by
        rw [decide_eq_false h0, hemp, hxe]
        rfl
      have hsz0 : its.toArray.size = xs.length := by rw [List.size_toArray, hle]
      have hm : ((its.toArray.size : Nat) : Int) * k = ((xs.length * k.toNat : Nat) : Int) := by
        rw [hsz0, Int.natCast_mul, Int.toNat_of_nonneg (by omega)]
      have hline : sizeLine = 16777216 := sizeLine_eq
      have c4 : Builtin.Tuple.tupleTooMany (((its.toArray.size : Nat) : Int) * k) = false := by
        unfold Builtin.Tuple.tupleTooMany
        rw [hm]
        exact decide_eq_false (by omega)
      refine call_meets F.slot_tuple_mul ⟨_, ho, rfl⟩ F.entry_tuple_mul (F.args_tuple_mul_2 _ _) (tuple_mulW l its.toArray n dd sl k t c0 c1 c2 (by rw [hm]; omega) c4 (by rw [size_rep, List.size_toArray, PyProof.Rows.lm_len_rep_flat, hle, Nat.mul_comm]; exact hz)) ⟨ho, ?_⟩
      rw [size_rep]
      exact fin _ rfl
end

/-! ### x[::-1] of a list or a tuple -/
section
variable {prog : Program} {w : World} {A : Around} {E : Value → Shared → Prop} {s : Shared}
theorem adjust_back (n : Nat) : Builtin.Slice.sliceAdjust none none (-1) (n : Int) = ((n : Int) - 1, -1) := by
  unfold Builtin.Slice.sliceAdjust
  have h1 : ((-1 : Int) < 0) := by omega
  simp only [h1, if_true]
theorem places_back (n : Nat) : Builtin.Slice.slicePlaces ((n : Int) - 1) (-1) (-1) = n := by
  unfold Builtin.Slice.slicePlaces
  have h1 : ¬ ((-1 : Int) > 0) := by omega
  simp only [h1, if_false, Int.neg_neg, Int.ediv_one]
  split <;> omega
theorem fm_some {α β : Type} {f : α → Option β} {g : α → β} : ∀ {l : List α}, (∀ x, x ∈ l → f x = some (g x)) → l.filterMap f = l.map g
  | [], _ => rfl
  | a :: l, h => by
    rw [List.filterMap_cons_some (h a List.mem_cons_self), List.map_cons, fm_some fun x hx => h x (List.mem_cons_of_mem _ hx)]
theorem applied_back {sl : Addr} {vs : Value} {n : Nat} {Q : Int × Int × Nat → Shared → Prop} (hs : s.heap.IsSliceOf sl .none .none vs) (ps : IsPart vs (some (-1)))
    (h : Q ((n : Int) - 1, -1, n) s) : wpAny (model prog w) A (Builtin.Slice.sliceApplied (.ref sl) (pure (n : Int))) Q E s := by
  obtain ⟨os, hos, hcs, hds⟩ := id hs
  unfold Builtin.Slice.sliceApplied Builtin.Slice.sliceFields
  refine wpAny_bind (wpAny_bind (wpAny_field hos hds (x := .none) rfl (wpAny_bind (wpAny_field hos hds (x := .none) rfl (wpAny_bind (wpAny_field hos hds (x := vs) rfl (wpAny_pure ?_)))))))
  refine wpAny_bind (HT.slicePart_ ps ?_)
  show wpAny _ _ (if ((-1 : Int) == 0) = true then _ else _) _ _ s
  rw [if_neg (by decide)]
  refine wpAny_bind (HT.slicePart_ .none (wpAny_bind (HT.slicePart_ .none (wpAny_bind (wpAny_pure ?_)))))
  show wpAny _ _ (match Builtin.Slice.sliceAdjust none none (-1) (n : Int) with | (lo, hi) => pure (lo, (-1 : Int), Builtin.Slice.slicePlaces lo hi (-1))) _ _ s
  rw [adjust_back]
  show wpAny _ _ (pure ((n : Int) - 1, (-1 : Int), Builtin.Slice.slicePlaces ((n : Int) - 1) (-1) (-1))) _ _ s
  rw [places_back]
  exact wpAny_pure h
theorem pick_back (xs : Array Value) : ((List.range xs.size).filterMap fun (k : Nat) => xs[(((xs.size : Nat) : Int) - 1 + (k : Int) * (-1)).toNat]?).toArray = xs.toList.reverse.toArray := by
  congr 1
  apply List.ext_getElem?
  intro i
  have e : ((List.range xs.size).filterMap fun (k : Nat) => xs[(((xs.size : Nat) : Int) - 1 + (k : Int) * (-1)).toNat]?) = (List.range xs.size).map fun k => xs.toList.reverse.getD k Value.none := by
    apply fm_some
    intro k hk
    have hk := List.mem_range.mp hk
    have e1 : (((xs.size : Nat) : Int) - 1 + (k : Int) * (-1)).toNat = xs.size - 1 - k := by omega
    rw [e1]
    have hl : k < xs.toList.reverse.length := by simpa using hk
    simp only [Function.comp, List.getD_eq_getElem?_getD, List.getElem?_eq_getElem hl, Option.getD_some, List.getElem_reverse]
    rw [Array.getElem?_eq_getElem (by omega)]
    simp
  rw [e, List.getElem?_map]
  by_cases hi : i < xs.size
  · rw [List.getElem?_range hi]
    have hl : i < xs.toList.reverse.length := by simpa using hi
    simp only [Option.map_some, List.getD_eq_getElem?_getD, List.getElem?_eq_getElem hl, Option.getD_some]
  · rw [List.getElem?_eq_none (by simpa using hi), List.getElem?_eq_none (by simpa using hi)]
    rfl
theorem getItem_tuple_back {t sl : Addr} {items : Array Value} {vs : Value} {Q : Value → Shared → Prop} (ht : IsTup s.heap t items) (hs : s.heap.IsSliceOf sl .none .none vs) (ps : IsPart vs (some (-1)))
    (h : Q (.ref s.heap.objs.size) { s with heap := s.heap.push { cls := .type "tuple", data := .seq items.toList.reverse.toArray } })
    (hsz : items.size ≤ sizeLine) : wpAny (model prog w) A (getItem (.ref t) (.ref sl)) Q E s := by
  have htake : sizeOk (.seq items.toList.reverse.toArray) := by
    show items.toList.reverse.toArray.size ≤ sizeLine
    rw [List.size_toArray, List.length_reverse, Array.length_toList]
    exact hsz
  obtain ⟨os, hos, hcs, hds⟩ := id hs
  have hTs : s.TypeIs (.ref sl) "slice" := ⟨os, hos, hcs⟩
  unfold getItem
  try with_reducible refine wpAny_holding ?_
  first | refine wpAny_bind (wpAny_pure ?_) | skip
  refine wpAny_bind (wpAny_sequenceKey ht.typeIs (by decide) ?_)
  refine wpAny_bind (wpAny_callSpecial?_slot (name := Str.ofString "__getitem__") ht.typeIs PyProof.Rows.slot_tuple_getitem
    (wpAny_call_entry PyProof.Rows.slot_tuple_getitem ht.typeIs entry_tuple_getitem ?_ (args_tuple_getitem _ _)))
  show wpAny _ _ (Builtin.Tuple.tupleItemsOf (.ref t) >>= _) _ _ s
  refine wpAny_bind (tupleItemsOf_ ht ?_)
  refine wpAny_bind (wpAny_typeOf hTs ?_)
  rw [if_pos (by decide)]
  refine wpAny_bind (applied_back hs ps ?_)
  have hno : ¬ (((((items.size : Nat) : Int) - 1 == 0) && ((-1 : Int) == 1) && (items.size == items.size)) = true) := by
    intro q
    rw [Bool.and_eq_true, Bool.and_eq_true] at q
    exact absurd q.1.2 (by decide)
  show wpAny _ _ (if ((((items.size : Nat) : Int) - 1 == 0) && ((-1 : Int) == 1) && (items.size == items.size)) = true then _ else _) _ _ s
  rw [if_neg hno, pick_back]
  first
    | exact wpAny_bind (m := Builtin.Tuple.tupleExact _) (wpAny_newObj_type (wpAny_pure ⟨_, rfl, wpAny_pure h⟩) htake)
    | exact wpAny_bind (m := Builtin.Tuple.tupleExact _) (wpAny_newObj_type (wpAny_bind (wpAny_pure (wpAny_pure ⟨_, rfl, wpAny_pure h⟩))) htake)
    | exact wpAny_bind (wpAny_bind (m := Builtin.Tuple.tupleExact _) (wpAny_newObj_type (wpAny_pure (wpAny_pure ⟨_, rfl, wpAny_pure h⟩)) htake))
    | exact wpAny_bind (wpAny_bind (m := Builtin.Tuple.tupleExact _) (wpAny_newObj_type (wpAny_pure ⟨_, rfl, wpAny_pure h⟩) htake))
end
def rRev (K : PySem.W.Frag) (x : V) (H : Hp) (Q : VK) : Prop := ∃ a xs, x = .ref a ∧ ((SqL K H a xs ∧ ∀ p, H p = none → Q (.ref p) (upd H p (.lst xs.reverse))) ∨ (SqT K H a xs ∧ ∀ p, H p = none → Q (.ref p) (upd H p (.tup xs.reverse))))
theorem pe_back {X : Cx} {e : Expr} {te : TE} {k : Nat} {p1 p2 p3 pos : Pos} (he : PE X e te) :
    PE X (.Subscript e (.Slice none none (some (.UnaryOp .USub (.Constant (.int 1) k p1) p2)) p3) pos) (fun σ H Q => te σ H fun x H1 => rRev X.K x H1 Q) := by
  refine ⟨fun pins s σ H Q I h => ?_⟩
  refine Subscript_ (thn (he.run pins s σ H _ I h) fun v s1 ⟨x, H1, I1, r1, q1⟩ => ?_)
  obtain ⟨a, xs, ex, hx⟩ := q1
  subst ex
  cases r1
  have hst : PO X (some (.UnaryOp .USub (.Constant (.int 1) k p1) p2)) (tPart (tUn (rU fun i => .int (-i)) (tC (.int 1)))) := po_some (pe_un un_neg pe_int)
  refine wpAny_Slice ?_
  rw [evalPart_none]
  refine wpAny_pure ?_
  refine wpAny_pure ?_
  refine thn (hst.run pins s1 σ H1 (fun o H4 => o = some (-1) ∧ H4 = H1) I1 ⟨1, rfl, -1, rfl, rfl, rfl⟩) fun vs s4 ⟨o, H4, I4, ps, eo, e4⟩ => ?_
  subst eo e4
  have I5 : Inv X pins σ H4 { s4 with heap := s4.heap.push { cls := .type "slice", data := .fields #[.none, .none, vs] } } := I4.kept (t' := s4.toks) fun b ob q => Heap.get?_push_of_some _ q
  have hsl := Heap.IsSliceOf.new s4.heap .none .none vs
  show wpAny (model X.prog X.w) X.A (subscriptTail e (.Slice none none (some (.UnaryOp .USub (.Constant (.int 1) k p1) p2)) p3) (.ref a) (.ref s4.heap.objs.size)) (EP X pins σ Q) X.xe { s4 with heap := s4.heap.push { cls := .type "slice", data := .fields #[.none, .none, vs] } }
  rcases hx with ⟨hx, q⟩ | ⟨hx, q⟩
  · obtain ⟨its, r, ht, hz⟩ := I5.list hx
    have hlen := r.length
    refine tail_any (ops := [.ref a, .ref s4.heap.objs.size]) ht.isList.typeIs (PySem.slot_list_getitem.lookup) ?_ (by with_unfolding_all rfl)
    refine wpAny_getItem_list_slice ht.isList hsl .none .none ps (by decide) ?_ (by rw [List.size_toArray]; omega)
    rw [PySem.W.krv_pick]
    refine ⟨.ref _, _, I5.laid (t' := s4.toks) (o := .lst xs.reverse) (fun b ob q => Heap.get?_push_of_some _ q) (Nat.le_refl _) ?_, rfl, q _ (I5.hok.fresh (Nat.le_refl _))⟩
    exact ⟨by rw [List.length_reverse]; exact hz, _, 0, r.reverse, Heap.get?_push_size _ rfl⟩
  · obtain ⟨its, r, ht, hz⟩ := I5.tuple hx
    have hlen := r.length
    refine tail_any (ops := [.ref a, .ref s4.heap.objs.size]) ht.typeIs PyProof.Rows.slot_tuple_getitem.lookup ?_ (by with_unfolding_all rfl)
    refine getItem_tuple_back ht hsl ps ?_ (by rw [List.size_toArray]; omega)
    refine ⟨.ref _, _, I5.laid (t' := s4.toks) (o := .tup xs.reverse) (fun b ob q => Heap.get?_push_of_some _ q) (Nat.le_refl _) ?_, rfl, q _ (I5.hok.fresh (Nat.le_refl _))⟩
    exact ⟨by rw [List.length_reverse]; exact hz, _, r.reverse, IsTup.new _ _⟩
end Mv

/-! Mv3: each operation of the evaluator is the layer's. -/
namespace Mv
open PySem PySem.Spec PyProof.Rows L2

/-- what must be so where code runs -/
structure Good (X : Cx) : Prop where
  calm : X.calm = true
  hg : X.A.guards = some []
  hu : X.A.units + 150 < cLine
  nd : X.N.Nodup
  dg : X.base.NoDigits

section
variable {K : PySem.W.Frag} {H : Hp} {ι : Nat → Addr} {n : Nat} {L : LH}
theorem FrzAt.seq {a : Addr} {xs : List V} (h : FrzAt K H a xs) : SqL K H a xs := by
  rcases h with ⟨o, h⟩ | h
  · exact .inl (.inr ⟨o, h⟩)
  · rcases h with (h | ⟨o, h⟩) | h
    · cases h
    · cases h
    · exact .inr h
/-- the list that is read -/
theorem Rep.listOf (R : Rep K ι H L) {k : Nat} {ds : List LV} (h : itemsL L (.ref k) = some ds) : ∃ xs, SqL K H (ι k) xs ∧ RVs K H ι L.length xs ds := by
  dsimp only [itemsL] at h
  cases e : L[k]? with
  | none => rw [e] at h; cases h
  | some o =>
    rw [e] at h
    cases o with
    | lst ys =>
      cases h
      obtain ⟨xs, h1, h2⟩ := R.ob k _ e
      exact ⟨xs, .inl (.inl h1), h2⟩
    | frz ns =>
      cases h
      exact ⟨_, (show FrzAt K H (ι k) (ns.map V.int) from R.ob k _ e).seq, RVs.ints ns⟩
    | dic _ => cases h
    | ins _ _ => cases h
/-- what is read: a list or a tuple -/
theorem Rep.seq (R : Rep K ι H L) {d : LV} {v : V} {ds : List LV} (r : RV K H ι L.length v d) (h : Mv.items L d = some ds) : ∃ a xs, v = .ref a ∧ (SqL K H a xs ∨ SqT K H a xs) ∧ RVs K H ι L.length xs ds := by
  cases d with
  | tup ys =>
    cases h
    cases r with
    | tup hs hr => exact ⟨_, _, rfl, .inr hs, hr⟩
  | ref k =>
    cases r
    obtain ⟨xs, h1, h2⟩ := R.listOf h
    exact ⟨_, xs, rfl, .inl h1, h2⟩
  | non => cases h
  | bl _ => cases h
  | int _ => cases h
  | str _ => cases h
theorem dpAll_of {f : LV → Option PyData} (hf : ∀ d v pd, f d = some pd → RV K H ι n v d → Dp K H v pd) : ∀ {ds : List LV} {vs : List V} {pds : List PyData}, optAll f ds = some pds → RVs K H ι n vs ds → DpAll K H vs pds
  | [], _, _, e, r => by
    cases r
    cases e
    exact .nil
  | d :: ds, _, _, e, r => by
    cases r with
    | cons r1 r2 =>
      unfold optAll at e
      cases e1 : f d with
      | none => rw [e1] at e; cases e
      | some pd =>
        cases e2 : optAll f ds with
        | none => rw [e1, e2] at e; cases e
        | some pds =>
          rw [e1, e2] at e
          cases e
          exact .cons (hf d _ pd e1 r1) (dpAll_of hf e2 r2)
theorem dpAll_ints : ∀ ns : List Int, DpAll K H (ns.map V.int) (ns.map PyData.int)
  | [] => .nil
  | i :: r => .cons (.int i) (dpAll_ints r)
theorem dp_of (R : Rep K ι H L) : ∀ (k : Nat) (d : LV) (v : V) (pd : PyData), toD L k d = some pd → RV K H ι L.length v d → Dp K H v pd
  | 0, _, _, _, e, _ => by cases e
  | k + 1, d, v, pd, e, r => by
    cases d with
    | non => cases r; cases e; exact .non
    | bl b => cases r; cases e; exact .bl b
    | int i => cases r; cases e; exact .int i
    | str x => cases r; cases e; exact .str x
    | tup ds =>
      cases r with
      | tup hs hr =>
        obtain ⟨pds, e1, e2⟩ := Option.map_eq_some_iff.mp e
        subst e2
        exact .tup hs (dpAll_of (dp_of R k) e1 hr)
    | ref j =>
      cases r
      have e : (match L[j]? with
        | some (.lst xs) => (optAll (toD L k) xs).map .list
        | some (.frz ns) => some (.list (ns.map .int))
        | _ => none) = some pd := e
      cases hl : L[j]? with
      | none => rw [hl] at e; cases e
      | some o =>
        rw [hl] at e
        cases o with
        | lst xs =>
          obtain ⟨pds, e1, e2⟩ := Option.map_eq_some_iff.mp e
          subst e2
          obtain ⟨ys, h1, h2⟩ := R.ob j _ hl
          exact .lst (.inl (.inl h1)) (dpAll_of (dp_of R k) e1 h2)
        | frz ns =>
          cases e
          exact .lst (show FrzAt K H (ι j) (ns.map V.int) from R.ob j _ hl).seq (dpAll_ints ns)
        | dic _ => cases e
        | ins _ _ => cases e
theorem drs_of {n k : Nat} (ih : ∀ (d : LV) (v : V) (pd : PyData), toRD L k d = some pd → RV K H ι n v d → DR K H v pd) : ∀ {ds : List LV} {vs : List V} {pds : List PyData}, optAll (toRD L k) ds = some pds → RVs K H ι n vs ds → DRs K H vs pds
  | [], _, _, e, r => by cases r; cases e; exact .nil
  | d :: ds, _, _, e, r => by
    cases r with
    | cons r1 r2 =>
      unfold optAll at e
      cases e1 : toRD L k d with
      | none => rw [e1] at e; cases e
      | some p =>
        cases e2 : optAll (toRD L k) ds with
        | none => rw [e1, e2] at e; cases e
        | some ps =>
          rw [e1, e2] at e
          cases e
          exact .cons (ih d _ p e1 r1) (drs_of ih e2 r2)
theorem drs_ints : ∀ ns : List Int, DRs K H (ns.map V.int) (ns.map PyData.int)
  | [] => .nil
  | i :: r => .cons (.int i) (drs_ints r)
theorem RKV.vals {n : Nat} : ∀ {vs : List (Key × V)} {ds : List (Key × LV)}, RKV K H ι n vs ds → RVs K H ι n (vs.map (·.2)) (ds.map (·.2)) ∧ vs.map (fun kv => keyD kv.1) = ds.map (fun kv => keyD kv.1)
  | _, _, .nil => ⟨.nil, rfl⟩
  | _, _, .cons r t => by
    obtain ⟨h1, h2⟩ := RKV.vals t
    exact ⟨.cons r h1, by rw [List.map_cons, List.map_cons, h2]⟩
theorem dr_of (R : Rep K ι H L) : ∀ (k : Nat) (d : LV) (v : V) (pd : PyData), toRD L k d = some pd → RV K H ι L.length v d → DR K H v pd
  | 0, _, _, _, e, _ => by cases e
  | k + 1, d, v, pd, e, r => by
    cases d with
    | non => cases r; cases e; exact .non
    | bl b => cases r; cases e; exact .bl b
    | int i => cases r; cases e; exact .int i
    | str x => cases r; cases e; exact .str x
    | tup ds =>
      cases r with
      | tup hs hr =>
        obtain ⟨pds, e1, e2⟩ := Option.map_eq_some_iff.mp e
        subst e2
        exact .tup hs (drs_of (dr_of R k) e1 hr)
    | ref j =>
      cases r
      have e : (match L[j]? with
        | some (.lst xs) => (optAll (toRD L k) xs).map .list
        | some (.frz ns) => some (.list (ns.map .int))
        | some (.dic kvs) => (optAll (toRD L k) (kvs.map (·.2))).map fun ds => .dict ((kvs.map fun kv => keyD kv.1).zip ds)
        | _ => none) = some pd := e
      cases hl : L[j]? with
      | none => rw [hl] at e; cases e
      | some o =>
        rw [hl] at e
        cases o with
        | lst xs =>
          obtain ⟨pds, e1, e2⟩ := Option.map_eq_some_iff.mp e
          subst e2
          obtain ⟨ys, h1, h2⟩ := R.ob j _ hl
          exact .lst (.inl (.inl h1)) (drs_of (dr_of R k) e1 h2)
        | frz ns =>
          cases e
          exact .lst (show FrzAt K H (ι j) (ns.map V.int) from R.ob j _ hl).seq (drs_ints ns)
        | dic kvs =>
          obtain ⟨pds, e1, e2⟩ := Option.map_eq_some_iff.mp e
          subst e2
          obtain ⟨ys, h1, h2⟩ := R.ob j _ hl
          obtain ⟨r1, r2⟩ := h2.vals
          rw [← r2]
          exact .dic h1 (drs_of (dr_of R k) e1 r1)
        | ins _ _ => cases e
theorem flat_rel {v : V} {d : LV} (r : RV K H ι n v d) (h : flat d = true) : flatV v = true := by
  cases d <;> first | (cases r; rfl) | cases h
theorem flat_all : ∀ {ds : List LV} {vs : List V}, RVs K H ι n vs ds → ds.all flat = true → vs.all flatV = true
  | [], _, r, _ => by cases r; rfl
  | d :: ds, _, r, h => by
    cases r with
    | cons r1 r2 =>
      rw [List.all_cons, Bool.and_eq_true] at h ⊢
      exact ⟨flat_rel r1 h.1, flat_all r2 h.2⟩
theorem flatEq_rel {v u : V} {d e : LV} (r : RV K H ι n v d) (q : RV K H ι n u e) (hd : flat d = true) (he : flat e = true) : L2.eqV v u = flatEq d e := by
  cases d <;> first | (cases hd; done) | (cases r; cases e <;> first | (cases he; done) | (cases q; rfl))
theorem inV_rel {x : V} {d : LV} (r : RV K H ι n x d) (hd : flat d = true) : ∀ {ds : List LV} {vs : List V}, RVs K H ι n vs ds → ds.all flat = true → inV x vs = inSeq d ds
  | [], _, q, _ => by cases q; rfl
  | e :: ds, _, q, h => by
    cases q with
    | cons q1 q2 =>
      rw [List.all_cons, Bool.and_eq_true] at h
      unfold inV inSeq
      rw [List.any_cons, List.any_cons, flatEq_rel q1 r h.1 hd]
      have ih := inV_rel r hd q2 h.2
      unfold inV inSeq at ih
      rw [ih]
theorem line_of {k : Nat} (h : small k = true) : k ≤ sizeLine := of_decide_eq_true h
end

/-! ### operators -/
def opOf : BOp → Operator
  | .add => .Add
  | .sub => .Sub
  | .mul => .Mult
  | .fdiv => .FloorDiv
  | .mod => .Mod
  | .pow => .Pow
def rB (K : PySem.W.Frag) : BOp → R2
  | .add => fun x y H Q => rI0 (fun i j => .int (i + j)) x y H Q ∨ (∃ i j, x = .str i ∧ y = .str j ∧ i.length + j.length ≤ sizeLine ∧ Q (.str (i ++ j)) H) ∨ rCatA K x y H Q ∨ rCat x y H Q
  | .sub => rI0 fun i j => .int (i - j)
  | .mul => fun x y H Q => rI CMul (fun i j => .int (i * j)) x y H Q ∨ rI CMulW (fun i j => .int (i * j)) x y H Q ∨ rRep x y H Q ∨ rMulT K x y H Q
  | .fdiv => rI CDivW fun i j => .int (i / j)
  | .mod => rI (fun _ j => 0 < j) fun i j => .int (i % j)
  | .pow => rI CPow fun i j => .int (i ^ j.toNat)
theorem rB_ok {X : Cx} : ∀ op : BOp, OpR X (binaryOp (opOf op)) (rB X.K op)
  | .add => op_add.or (op_add_str.or (op_catA.or op_cat))
  | .sub => op_sub
  | .mul => op_mul.or (op_mulW.or (op_rep.or op_mulT))
  | .fdiv => op_fdivW
  | .mod => op_mod
  | .pow => op_pow
section
variable {K : PySem.W.Frag} {W : XW} {σV : L2.St} {σ : LSt} {ι : Nat → Addr} {L : LH} {H : Hp} {Q : VK}
theorem mul_ok {i j : Int} (h : mulOk i j = true) : CMul i j ∨ CMulW i j := by
  have h := of_decide_eq_true h
  rcases h with h | h | h
  · exact .inl (.inl h)
  · exact .inl (.inr h)
  · exact .inr h
theorem div_ok {i j : Int} (h : divOk j = true) : CDivW i j := of_decide_eq_true (p := 0 < j ∧ j.natAbs.log2 < 9000) h
theorem pow_ok {i j : Int} (h : decide (0 ≤ j ∧ j ≤ 1000000 ∧ i.natAbs < 2 ^ 64) = true) : CPow i j := of_decide_eq_true (p := 0 ≤ j ∧ j ≤ 1000000 ∧ i.natAbs < 2 ^ 64) h
theorem RVs.nil_of {xs : List V} {n : Nat} (h : RVs K H ι n xs []) : xs = [] := by cases h; rfl
theorem RVs.nil_iff {xs : List V} {ds : List LV} {n : Nat} (h : RVs K H ι n xs ds) : xs = [] ↔ ds = [] := by
  cases h <;> simp
theorem RV.intV {v : V} {i : Int} {n : Nat} (h : RV K H ι n v (.int i)) : v = .int i := by cases h; rfl
theorem RV.strV {v : V} {i : Str} {n : Nat} (h : RV K H ι n v (.str i)) : v = .str i := by cases h; rfl
theorem RV.blV {v : V} {i : Bool} {n : Nat} (h : RV K H ι n v (.bl i)) : v = .bl i := by cases h; rfl
theorem RV.tupV {v : V} {i : List LV} {n : Nat} (h : RV K H ι n v (.tup i)) : ∃ a xs, v = .ref a ∧ SqT K H a xs ∧ RVs K H ι n xs i := by cases h; exact ⟨_, _, rfl, by assumption, by assumption⟩
theorem RV.refV {v : V} {i : Nat} {n : Nat} (h : RV K H ι n v (.ref i)) : v = .ref (ι i) := by cases h; rfl
/-- a new tuple as a value -/
theorem tup_new {p : Addr} {xs : List V} {ds : List LV} {n : Nat} (hp : H p = none) (r : RVs K H ι n xs ds) : RV K (upd H p (.tup xs)) ι n (.ref p) (.tup ds) :=
  .tup (.inl (.inl upd_same)) (r.mono (Ev.fresh hp))
/-- a new list -/
theorem lst_new {p : Addr} {xs : List V} {ds : List LV} (hp : H p = none) (r : RVs K H ι L.length xs ds) : RO K (upd H p (.lst xs)) (ext ι L.length p) (L.length + 1) p (.lst ds) :=
  ⟨xs, upd_same, r.mono (Ev.new hp)⟩
theorem none_at {f : LH → Option (Out LV)} (h : At K W (RVr K) σV σ ι L (f L) Q H) (e : f L = none) : False := by
  rw [e] at h
  exact h.none
theorem bin_at {d e : LV} {x y : V} (op : BOp) (h : At K W (RVr K) σV σ ι L (binV op d e L) Q H) (rx : RV K H ι L.length x d) (ry : RV K H ι L.length y e) : rB K op x y H Q := by
  cases op with
  | sub =>
    cases d <;> cases e <;> first
      | exact h.no.elim
      | (cases rx; cases ry; exact ⟨_, _, rfl, rfl, h.ret (.int _)⟩)
  | fdiv =>
    cases d <;> cases e <;> first
      | exact h.no.elim
      | (obtain ⟨c, h⟩ := h.chk; cases rx; cases ry; exact ⟨_, _, rfl, rfl, div_ok c, h.ret (.int _)⟩)
  | mod =>
    cases d <;> cases e <;> first
      | exact h.no.elim
      | (obtain ⟨c, h⟩ := h.chk; cases rx; cases ry; exact ⟨_, _, rfl, rfl, of_decide_eq_true c, h.ret (.int _)⟩)
  | pow =>
    cases d <;> cases e <;> first
      | exact h.no.elim
      | (obtain ⟨c, h⟩ := h.chk; cases rx; cases ry; exact ⟨_, _, rfl, rfl, pow_ok c, h.ret (.int _)⟩)
  | add =>
    cases d with
    | int i =>
      cases e with
      | int j => cases rx; cases ry; exact .inl ⟨_, _, rfl, rfl, h.ret (.int _)⟩
      | _ => exact h.no.elim
    | str i =>
      cases e with
      | str j =>
        obtain ⟨c, h⟩ := h.chk
        cases rx
        cases ry
        exact .inr (.inl ⟨_, _, rfl, rfl, line_of c, h.ret (.str _)⟩)
      | _ => exact h.no.elim
    | tup as =>
      cases e with
      | tup bs =>
        obtain ⟨c, h⟩ := h.chk
        obtain ⟨a, xs, rfl, ha, ra⟩ := rx.tupV
        obtain ⟨b, ys, rfl, hb, rb⟩ := ry.tupV
        refine .inr (.inr (.inl ⟨a, b, xs, ys, rfl, rfl, ha, hb, by rw [ra.length, rb.length]; exact line_of c, fun e => ?_, fun e1 e2 => ?_, fun e1 e2 p hp => ?_⟩))
        · rw [ra.nil_iff.mp e] at h
          exact h.ret (.tup hb rb)
        · rw [rb.nil_iff.mp e2, List.append_nil] at h
          exact h.ret (.tup ha ra)
        · exact h.retF hp (tup_new hp (ra.append rb))
      | _ => exact h.no.elim
    | ref a =>
      cases e with
      | ref b =>
        have h : At K W (RVr K) σV σ ι L (catR L[a]? L[b]? L) Q H := h
        generalize e1 : L[a]? = o1 at h
        generalize e2 : L[b]? = o2 at h
        unfold catR at h
        split at h
        · rename_i xs ys
          obtain ⟨c, h⟩ := h.chk
          obtain rfl := rx.refV
          obtain rfl := ry.refV
          obtain ⟨us, h1, r1⟩ := h.rep.ob a _ e1
          obtain ⟨ws, h2, r2⟩ := h.rep.ob b _ e2
          refine .inr (.inr (.inr ⟨_, _, us, ws, rfl, rfl, h1, h2, by rw [r1.length, r2.length]; exact line_of c, fun p hp => ?_⟩))
          exact h.new hp (lst_new hp (r1.append r2))
        · exact h.no.elim
      | _ => exact h.no.elim
    | non => exact h.no.elim
    | bl _ => exact h.no.elim
  | mul =>
    cases d with
    | int i =>
      cases e with
      | int j =>
        obtain ⟨c, h⟩ := h.chk
        cases rx
        cases ry
        rcases mul_ok c with c | c
        · exact .inl ⟨_, _, rfl, rfl, c, h.ret (.int _)⟩
        · exact .inr (.inl ⟨_, _, rfl, rfl, c, h.ret (.int _)⟩)
      | _ => exact h.no.elim
    | tup as =>
      cases e with
      | int k =>
        obtain ⟨c, h⟩ := h.chk
        rw [Bool.and_eq_true] at c
        obtain ⟨a, xs, rfl, ha, ra⟩ := rx.tupV
        obtain rfl := ry.intV
        have c1 := of_decide_eq_true c.1
        refine .inr (.inr (.inr ⟨a, k, xs, rfl, rfl, ha, c1.1, c1.2, by rw [ra.length]; exact line_of c.2, fun e => ?_, fun e p hp => ?_⟩))
        · have e' : reps as k = as := by
            unfold reps
            rcases e with e | e
            · rw [ra.nil_iff.mp e]
              simp
            · subst e
              simp
          rw [e'] at h
          exact h.ret (.tup ha ra)
        · exact h.retF hp (tup_new hp (ra.flat k.toNat))
      | _ => exact h.no.elim
    | ref a =>
      cases e with
      | int k =>
        have h : At K W (RVr K) σV σ ι L (repR k L[a]? L) Q H := h
        generalize e1 : L[a]? = o1 at h
        unfold repR at h
        split at h
        · rename_i xs
          obtain ⟨c, h⟩ := h.chk
          rw [Bool.and_eq_true] at c
          have c1 := of_decide_eq_true c.1
          obtain rfl := rx.refV
          obtain rfl := ry.intV
          obtain ⟨us, h1, r1⟩ := h.rep.ob a _ e1
          refine .inr (.inr (.inl ⟨_, k, us, rfl, rfl, h1, c1.1, c1.2, by rw [r1.length]; exact line_of c.2, fun p hp => ?_⟩))
          exact h.new hp (lst_new hp (r1.flat k.toNat))
        · exact h.no.elim
      | _ => exact h.no.elim
    | non => exact h.no.elim
    | bl _ => exact h.no.elim
    | str _ => exact h.no.elim
end
end Mv

/-! Mv4: comparisons, subscripts, stores, built-ins, methods. -/
namespace Mv
open PySem PySem.Spec PyProof.Rows L2

/-! ### comparisons -/
def copOf : COp → CmpOp
  | .eq => .Eq
  | .ne => .NotEq
  | .lt => .Lt
  | .le => .LtE
  | .gt => .Gt
  | .ge => .GtE
  | .inn => .In
  | .nin => .NotIn
  | .iss => .Is
  | .isn => .IsNot
def rC (K : PySem.W.Frag) : COp → R2
  | .eq => fun x y H Q => (rEqD K x y H Q ∨ rEq x y H Q) ∨ rEmp K false x y H Q
  | .ne => fun x y H Q => (rNeD K x y H Q ∨ rNe x y H Q) ∨ rEmp K true x y H Q
  | .lt => fun x y H Q => rI0 (fun i j => .bl (decide (i < j))) x y H Q ∨ rLtT K x y H Q
  | .le => rI0 fun i j => .bl (decide (i ≤ j))
  | .gt => rI0 fun i j => .bl (decide (j < i))
  | .ge => rI0 fun i j => .bl (decide (j ≤ i))
  | .inn => rIn K false
  | .nin => rIn K true
  | .iss => fun x y H Q => (∃ a b, x = .bl a ∧ y = .bl b ∧ Q (.bl (decide (a = b))) H) ∨ (y = .non ∧ Q (.bl (decide (x = .non))) H)
  | .isn => fun x y H Q => (∃ a b, x = .bl a ∧ y = .bl b ∧ Q (.bl (!decide (a = b))) H) ∨ (y = .non ∧ Q (.bl (!decide (x = .non))) H)
theorem rC_ok {X : Cx} (G : Good X) : ∀ op : COp, OpR X (compareOp (copOf op)) (rC X.K op)
  | .eq => ((op_eqD (by have := G.hu; omega)).or op_eq).or (op_eqEmp (by have := G.hu; omega))
  | .ne => ((op_neD (by have := G.hu; omega)).or op_ne).or (op_neEmp (by have := G.hu; omega))
  | .lt => op_lt.or (op_ltT (by have := G.hu; omega))
  | .le => op_le
  | .gt => op_gt
  | .ge => op_ge
  | .inn => op_in_seq
  | .nin => op_notIn_seq
  | .iss => op_is_bl.or op_isN
  | .isn => op_isnot_bl.or op_notN
section
variable {K : PySem.W.Frag} {W : XW} {σV : L2.St} {σ : LSt} {ι : Nat → Addr} {L : LH} {H : Hp} {Q : VK}
theorem eqV_of (R : Rep K ι H L) {d e : LV} {x y : V} {b : Bool} (h : Mv.eqVd L d e = some b) (rx : RV K H ι L.length x d) (ry : RV K H ι L.length y e) :
    ∃ pd pe, Dp K H x pd ∧ Dp K H y pe ∧ SeqAt.shaped pd = true ∧ SeqAt.shaped pe = true ∧ PyData.eqv pd pe = b := by
  unfold Mv.eqVd at h
  split at h
  · rename_i pd pe e1 e2
    split at h
    · rename_i hs
      rw [Bool.and_eq_true] at hs
      exact ⟨pd, pe, dp_of R _ _ _ _ e1 rx, dp_of R _ _ _ _ e2 ry, hs.1, hs.2, Option.some.inj h⟩
    · cases h
  · cases h
theorem emp_of (R : Rep K ι H L) {d e : LV} {x y : V} {b : Bool} (h : empPair L d e = some b) (rx : RV K H ι L.length x d) (ry : RV K H ι L.length y e) :
    ∃ a c xs, x = .ref a ∧ y = .ref c ∧ ((SqT K H a xs ∧ SqT K H c []) ∨ (SqL K H a xs ∧ SqL K H c [])) ∧ xs.isEmpty = b := by
  have emp : ∀ {vs : List V} {ds : List LV}, RVs K H ι L.length vs ds → vs.isEmpty = ds.isEmpty := fun r => by cases r <;> rfl
  unfold empPair at h
  split at h
  · cases h
    obtain ⟨a, xs, rfl, ha, ra⟩ := rx.tupV
    obtain ⟨c, ys, rfl, hc, rc⟩ := ry.tupV
    cases rc
    exact ⟨a, c, xs, rfl, rfl, .inl ⟨ha, hc⟩, emp ra⟩
  · rename_i i j
    obtain rfl := rx.refV
    obtain rfl := ry.refV
    split at h
    · rename_i xs ea ec
      cases h
      obtain ⟨us, h1, r1⟩ := R.ob _ _ ea
      obtain ⟨vs, h2, r2⟩ := R.ob _ _ ec
      cases r2
      exact ⟨_, _, us, rfl, rfl, .inr ⟨.inl (.inl h1), .inl (.inl h2)⟩, emp r1⟩
    · cases h
  · cases h
theorem eqV_cas (R : Rep K ι H L) {d e : LV} {x y : V} {b : Bool} (h : Mv.eqV L d e = some b) (rx : RV K H ι L.length x d) (ry : RV K H ι L.length y e) : (Mv.eqVd L d e = some b ∨ ∃ s t : Str, x = .str s ∧ y = .str t ∧ b = decide (s = t)) ∨
    ∃ a c xs, x = .ref a ∧ y = .ref c ∧ ((SqT K H a xs ∧ SqT K H c []) ∨ (SqL K H a xs ∧ SqL K H c [])) ∧ xs.isEmpty = b := by
  unfold Mv.eqV at h
  cases e1 : strPair d e with
  | none =>
    rw [e1] at h
    dsimp only at h
    cases e2 : empPair L d e with
    | none => rw [e2] at h; exact .inl (.inl h)
    | some c =>
      rw [e2] at h
      cases h
      exact .inr (emp_of R e2 rx ry)
  | some c =>
    rw [e1] at h
    cases h
    unfold strPair at e1
    split at e1
    · cases e1
      cases rx
      cases ry
      exact .inl (.inr ⟨_, _, rfl, rfl, rfl⟩)
    · cases e1
theorem cmp_at {d e : LV} {x y : V} (op : COp) (h : At K W (RVr K) σV σ ι L (cmpV op d e L) Q H) (rx : RV K H ι L.length x d) (ry : RV K H ι L.length y e) : rC K op x y H Q := by
  cases op with
  | eq =>
    obtain ⟨b, hb, h⟩ := At.look (g := fun L => Mv.eqV L d e) h
    rcases eqV_cas h.rep hb rx ry with (hb | ⟨s, t, rfl, rfl, rfl⟩) | ⟨a, c, xs, rfl, rfl, h1, h2⟩
    · obtain ⟨pd, pe, h1, h2, h3, h4, h5⟩ := eqV_of h.rep hb rx ry
      exact .inl (.inl ⟨pd, pe, h1, h2, h3, h4, by rw [h5]; exact h.ret (.bl _)⟩)
    rotate_left
    · exact .inr ⟨a, c, xs, rfl, rfl, h1, by rw [if_neg Bool.false_ne_true, h2]; exact h.ret (.bl _)⟩
    · refine .inl (.inr ⟨rfl, ?_⟩)
      have e : decide (V.str s = V.str t) = decide (s = t) := by simp
      rw [e]
      exact h.ret (.bl _)
  | ne =>
    obtain ⟨b, hb, h⟩ := At.look (g := fun L => Mv.eqV L d e) h
    rcases eqV_cas h.rep hb rx ry with (hb | ⟨s, t, rfl, rfl, rfl⟩) | ⟨a, c, xs, rfl, rfl, h1, h2⟩
    · obtain ⟨pd, pe, h1, h2, h3, h4, h5⟩ := eqV_of h.rep hb rx ry
      exact .inl (.inl ⟨pd, pe, h1, h2, h3, h4, by rw [h5]; exact h.ret (.bl _)⟩)
    rotate_left
    · exact .inr ⟨a, c, xs, rfl, rfl, h1, by rw [if_pos rfl, h2]; exact h.ret (.bl _)⟩
    · refine .inl (.inr ⟨rfl, ?_⟩)
      have e : (!decide (V.str s = V.str t)) = !decide (s = t) := by simp
      first
        | (rw [e]; exact h.ret (.bl _))
        | (have e2 : decide (V.str s ≠ V.str t) = !decide (s = t) := by simp
           rw [e2]
           exact h.ret (.bl _))
  | lt =>
    cases d with
    | int i =>
      cases e with
      | int j => cases rx; cases ry; exact .inl ⟨_, _, rfl, rfl, h.ret (.bl _)⟩
      | _ => exact h.no.elim
    | tup as =>
      cases e with
      | tup bs =>
        obtain ⟨m, e1, h⟩ := h.ofO
        obtain ⟨n, e2, h⟩ := h.ofO
        obtain ⟨a, xs, rfl, ha, ra⟩ := rx.tupV
        obtain ⟨b, ys, rfl, hb, rb⟩ := ry.tupV
        rw [ra.toInts e1] at ha
        rw [rb.toInts e2] at hb
        exact .inr ⟨a, b, m, n, rfl, rfl, ha, hb, h.ret (.bl _)⟩
      | _ => exact h.no.elim
    | _ => cases e <;> exact h.no.elim
  | le =>
    cases d <;> cases e <;> first
      | exact h.no.elim
      | (cases rx; cases ry; exact ⟨_, _, rfl, rfl, h.ret (.bl _)⟩)
  | gt =>
    cases d <;> cases e <;> first
      | exact h.no.elim
      | (cases rx; cases ry; exact ⟨_, _, rfl, rfl, h.ret (.bl _)⟩)
  | ge =>
    cases d <;> cases e <;> first
      | exact h.no.elim
      | (cases rx; cases ry; exact ⟨_, _, rfl, rfl, h.ret (.bl _)⟩)
  | iss =>
    have fin : ∀ {z : V}, RV K H ι L.length z d → decide (z = V.non) = isNon d := fun r => by
      cases r <;> first | rfl | simp [isNon]
    cases e with
    | non => cases ry; exact .inr ⟨rfl, by rw [fin rx]; cases d <;> exact h.ret (.bl _)⟩
    | bl b =>
      cases d with
      | bl a => cases rx; cases ry; exact .inl ⟨_, _, rfl, rfl, h.ret (.bl _)⟩
      | _ => exact h.no.elim
    | _ => cases d <;> exact h.no.elim
  | isn =>
    have fin : ∀ {z : V}, RV K H ι L.length z d → decide (z = V.non) = isNon d := fun r => by
      cases r <;> first | rfl | simp [isNon]
    cases e with
    | non => cases ry; exact .inr ⟨rfl, by rw [fin rx]; cases d <;> exact h.ret (.bl _)⟩
    | bl b =>
      cases d with
      | bl a => cases rx; cases ry; exact .inl ⟨_, _, rfl, rfl, h.ret (.bl _)⟩
      | _ => exact h.no.elim
    | _ => cases d <;> exact h.no.elim
  | inn =>
    obtain ⟨ys, hy, h⟩ := At.look (g := fun L => Mv.items L e) h
    obtain ⟨c, h⟩ := h.chk
    rw [Bool.and_eq_true] at c
    obtain ⟨a, xs, rfl, hs, hr⟩ := h.rep.seq ry hy
    refine ⟨a, xs, rfl, hs, flat_rel rx c.1, flat_all hr c.2, ?_⟩
    rw [inV_rel rx c.1 hr c.2]
    exact h.ret (.bl _)
  | nin =>
    obtain ⟨ys, hy, h⟩ := At.look (g := fun L => Mv.items L e) h
    obtain ⟨c, h⟩ := h.chk
    rw [Bool.and_eq_true] at c
    obtain ⟨a, xs, rfl, hs, hr⟩ := h.rep.seq ry hy
    refine ⟨a, xs, rfl, hs, flat_rel rx c.1, flat_all hr c.2, ?_⟩
    rw [inV_rel rx c.1 hr c.2]
    exact h.ret (.bl _)

/-! ### subscripts -/
def rIxD : R2 := fun x y H Q => ∃ a v, x = .ref a ∧ DGet H a y (some v) ∧ Q v H
def rIxA (K : PySem.W.Frag) : R2 := fun x y H Q => rIx K x y H Q ∨ rIxD x y H Q
end
theorem ix_dict {X : Cx} (hu : X.A.units + 1 < cLine) : IxR X rIxD := by
  intro value slice pins s σ H x y v u Q I rx ry h hs
  obtain ⟨a, z, rfl, g, q⟩ := h
  cases rx
  exact tail_any (dict_typeIs I g) PySem.F.slot_dict_getitem.lookup (d_getItem hu I g ry fun w' s3 I3 rw' => ⟨z, H, I3, rw', q⟩) hs
theorem ix_any {X : Cx} (G : Good X) : IxR X (rIxA X.K) := ix_seq.or (ix_dict (by have := G.hu; omega))
theorem atI_rel {K : PySem.W.Frag} {H : Hp} {ι : Nat → Addr} {n : Nat} {xs : List V} {ds : List LV} {i : Int} {d : LV} (r : RVs K H ι n xs ds) (h : atI ds i = some d) : ∃ v, atI xs i = some v ∧ RV K H ι n v d := by
  unfold atI at h ⊢
  rw [r.length]
  cases e : ixN ds.length i with
  | none => rw [e] at h; cases h
  | some j =>
    rw [e] at h
    exact r.get h
theorem atI_map {α β : Type} (f : α → β) (xs : List α) (i : Int) : atI (xs.map f) i = (atI xs i).map f := by
  unfold atI
  rw [List.length_map]
  cases ixN xs.length i with
  | none => rfl
  | some j => exact List.getElem?_map
theorem keyOf_rel {K : PySem.W.Frag} {H : Hp} {ι : Nat → Addr} {n : Nat} {d : LV} {x : V} {k : Key} (h : keyOf d = some k) (r : RV K H ι n x d) : x = kV k := by
  cases d <;> first | (cases h; done) | (cases r; cases h; rfl)
section
variable {K : PySem.W.Frag} {W : XW} {σV : L2.St} {σ : LSt} {ι : Nat → Addr} {L : LH} {H : Hp} {Q : VK}
theorem ix_at {d e : LV} {x y : V} (h : At K W (RVr K) σV σ ι L (ixV d e L) Q H) (rx : RV K H ι L.length x d) (ry : RV K H ι L.length y e) : rIxA K x y H Q := by
  cases d with
  | tup as =>
    cases e with
    | int i =>
      obtain ⟨d, e, h⟩ := h.ofO
      obtain ⟨a, xs, rfl, ha, ra⟩ := rx.tupV
      obtain rfl := ry.intV
      obtain ⟨v, hv, rv⟩ := atI_rel ra e
      exact .inl (.inr (.inl ⟨a, xs, i, v, rfl, rfl, ha, hv, h.ret rv⟩))
    | _ => exact h.no.elim
  | str s =>
    cases e with
    | int i =>
      obtain ⟨c, h⟩ := h.chk
      obtain ⟨d, e, h⟩ := h.ofO
      obtain rfl := rx.strV
      obtain rfl := ry.intV
      exact .inl (.inr (.inr ⟨s, i, d, rfl, rfl, line_of c, e, h.ret (.str _)⟩))
    | _ => exact h.no.elim
  | ref a =>
    obtain rfl := rx.refV
    have h : At K W (RVr K) σV σ ι L (ixR L[a]? e L) Q H := h
    generalize e1 : L[a]? = o1 at h
    cases o1 with
    | none => exact h.no.elim
    | some o1 =>
      cases o1 with
      | lst xs =>
        cases e with
        | int i =>
          obtain ⟨d, e, h⟩ := h.ofO
          obtain rfl := ry.intV
          obtain ⟨ys, h1, r1⟩ := h.rep.ob a _ e1
          obtain ⟨v, hv, rv⟩ := atI_rel r1 e
          exact .inl (.inl ⟨_, ys, i, v, rfl, rfl, .inl (.inl h1), hv, h.ret rv⟩)
        | _ => exact h.no.elim
      | frz ns =>
        cases e with
        | int i =>
          obtain ⟨d, e, h⟩ := h.ofO
          obtain rfl := ry.intV
          have h1 := (show FrzAt K H (ι a) (ns.map V.int) from h.rep.ob a _ e1).seq
          exact .inl (.inl ⟨_, _, i, .int d, rfl, rfl, h1, by rw [atI_map, e]; rfl, h.ret (.int _)⟩)
        | _ => exact h.no.elim
      | dic kvs =>
        obtain ⟨d, e2, h⟩ := At.ofO (o := (keyOf e).bind (dval kvs)) h
        obtain ⟨ys, h1, r1⟩ := h.rep.ob a _ e1
        cases ek : keyOf e with
        | none => rw [ek] at e2; cases e2
        | some k =>
          rw [ek] at e2
          obtain ⟨v, hv, rv⟩ := r1.val (k := k) (d := d) e2
          refine .inr ⟨_, v, rfl, ?_, h.ret rv⟩
          rw [keyOf_rel ek ry, ← hv]
          exact DGet.k h1
      | ins _ _ => cases e <;> exact h.no.elim
  | _ => exact h.no.elim
end
end Mv

/-! Mv5: slices, stores, built-ins, isinstance, methods, what is walked. -/
namespace Mv
open PySem PySem.Spec PyProof.Rows L2

section
variable {α β : Type} {K : PySem.W.Frag} {W : XW} {R : Rl α β} {σV : L2.St} {σ : LSt} {ι : Nat → Addr} {L : LH} {H : Hp} {Q : β → Hp → Prop}
/-- an object is changed, then on -/
theorem At.put {f : Unit → M α} {k : Nat} {o o' : LO} {u : HO} (h : At K W R σV σ ι L (M.bind (setO k o') f L) Q H) (hk : L[k]? = some o) (m : isMut o = true) (m' : isMut o' = true) (q : RO K (upd H (ι k) u) ι L.length (ι k) o') :
    At K W R σV σ ι (L.set k o') (f () (L.set k o')) Q (upd H (ι k) u) := by
  obtain ⟨a, b, o1, e, p⟩ := h
  obtain ⟨w, hw, mw⟩ := (a.ob k o hk).some m
  have ev : Ev K ι H L.length ι (upd H (ι k) u) (L.set k o').length := by
    rw [List.length_set]
    exact Ev.set hw mw
  have e : f () (L.set k o') = some o1 := e
  refine ⟨a.set hk m m' q, b.mono ev, o1, e, ?_⟩
  cases o1 with
  | ok d L' => exact fun ι2 H2 v2 ev2 rp2 rv2 => p ι2 H2 v2 (ev.trans ev2) rp2 rv2
  | ex c fs L' => exact fun ι2 H2 ev2 rp2 => p ι2 H2 (ev.trans ev2) rp2
theorem At.put0 {k : Nat} {o o' : LO} {u : HO} {Q : Unit → Hp → Prop} (h : At K W Eqr σV σ ι L (setO k o' L) Q H) (hk : L[k]? = some o) (m : isMut o = true) (m' : isMut o' = true) (q : RO K (upd H (ι k) u) ι L.length (ι k) o') :
    Q () (upd H (ι k) u) := by
  obtain ⟨a, b, o1, e, p⟩ := h
  obtain ⟨w, hw, mw⟩ := (a.ob k o hk).some m
  have ev : Ev K ι H L.length ι (upd H (ι k) u) (L.set k o').length := by
    rw [List.length_set]
    exact Ev.set hw mw
  have e : some (Out.ok () (L.set k o')) = some o1 := e
  cases e
  exact p ι _ () ev (a.set hk m m' q) rfl
end

section
variable {K : PySem.W.Frag} {W : XW} {σV : L2.St} {σ : LSt} {ι : Nat → Addr} {L : LH} {H : Hp} {Q : VK}
/-! ### slices -/
def rSl (K : PySem.W.Frag) : V → Option Int → Option Int → Hp → VK → Prop := fun x lo hi H Q => rSlL K x lo hi H Q ∨ rSlA K x lo hi H Q
theorem rSl_ok {X : Cx} : SlR X (rSl X.K) := sl_list.or sl_tupA
theorem cut_rel {xs : List V} {ds : List LV} {n : Nat} {lo hi : Option Int} (r : RVs K H ι n xs ds) : RVs K H ι n (cutV xs lo hi) (cut ds lo hi) := by
  unfold cutV cut
  rw [r.length]
  exact (r.drop _).take _
theorem sl_at {d : LV} {x : V} {lo hi : Option Int} (h : At K W (RVr K) σV σ ι L (slV d lo hi L) Q H) (rx : RV K H ι L.length x d) : rSl K x lo hi H Q := by
  cases d with
  | tup as =>
    obtain ⟨a, xs, rfl, ha, ra⟩ := rx.tupV
    refine .inr ⟨a, xs, rfl, ha, fun e => ?_, fun _ p hp => ?_⟩
    · have e' : cut as lo hi = as := by
        unfold cut
        rw [← ra.length, e.1, e.2, ra.length]
        simp
      have h : At K W (RVr K) σV σ ι L (M.ret (.tup (cut as lo hi)) L) Q H := h
      rw [e'] at h
      exact h.ret (.tup ha ra)
    · exact h.retF hp (tup_new hp (cut_rel ra))
  | ref a =>
    obtain rfl := rx.refV
    obtain ⟨ds, e, h⟩ := At.look (g := fun L => itemsL L (.ref a)) h
    obtain ⟨xs, hx, rx⟩ := h.rep.listOf e
    exact .inl ⟨_, xs, rfl, hx, fun p hp => h.new hp (lst_new hp (cut_rel rx))⟩
  | _ => exact h.no.elim
theorem rev_at {d : LV} {x : V} (h : At K W (RVr K) σV σ ι L (revV d L) Q H) (rx : RV K H ι L.length x d) : rRev K x H Q := by
  cases d with
  | tup as =>
    obtain ⟨a, xs, rfl, ha, ra⟩ := rx.tupV
    exact ⟨a, xs, rfl, .inr ⟨ha, fun p hp => h.retF hp (tup_new hp ra.reverse)⟩⟩
  | ref a =>
    obtain rfl := rx.refV
    obtain ⟨ds, e, h⟩ := At.look (g := fun L => itemsL L (.ref a)) h
    obtain ⟨xs, hx, rx⟩ := h.rep.listOf e
    exact ⟨_, xs, rfl, .inl ⟨hx, fun p hp => h.new hp (lst_new hp rx.reverse)⟩⟩
  | _ => exact h.no.elim

/-! ### o[i] = v -/
def rSetD : V → V → V → Hp → (Hp → Prop) → Prop := fun o i v H Q => ∃ a H', o = .ref a ∧ DPut H a i v H' ∧ Q H'
def rSet : V → V → V → Hp → (Hp → Prop) → Prop := fun o i v H Q => rSetL o i v H Q ∨ rSetD o i v H Q
theorem set_any {X : Cx} (hu : X.A.units + 1 < cLine) : PSet X rSet := by
  intro pins s σ H o i v ov iv u Q I ro ri rv h
  rcases h with h | ⟨a, H', rfl, g, q⟩
  · exact set_list pins s σ H o i v ov iv u Q I ro ri rv h
  · cases ro
    exact d_setItem hu I g ri rv fun s4 I4 => ⟨H', I4, q⟩
theorem set_at {d e f : LV} {o i v : V} {Q : Unit → Hp → Prop} (h : At K W Eqr σV σ ι L (setV d e f L) Q H) (ro : RV K H ι L.length o d) (ri : RV K H ι L.length i e) (rv : RV K H ι L.length v f) : rSet o i v H (Q ()) := by
  cases d with
  | ref a =>
    obtain rfl := ro.refV
    have h : At K W Eqr σV σ ι L (setR a f L[a]? e L) Q H := h
    generalize e1 : L[a]? = o1 at h
    cases o1 with
    | none => exact h.no.elim
    | some o1 =>
      cases o1 with
      | lst xs =>
        cases e with
        | int k =>
          obtain ⟨j, ej, h⟩ := h.ofO
          obtain rfl := ri.intV
          obtain ⟨ys, h1, r1⟩ := h.rep.ob a _ e1
          refine .inl ⟨_, ys, k, j, rfl, rfl, h1, by rw [r1.length]; exact ej, h.put0 e1 rfl rfl ⟨_, upd_same, ?_⟩⟩
          exact (RVs.set rv j r1).mono (Ev.set h1 trivial)
        | _ => exact h.no.elim
      | dic kvs =>
        obtain ⟨k, ek, h⟩ := At.ofO (o := keyOf e) h
        obtain ⟨c, h⟩ := h.chk
        obtain ⟨ys, h1, r1⟩ := h.rep.ob a _ e1
        refine .inr ⟨_, upd H (ι a) (.dK (putK ys k v)), rfl, ?_, h.put0 e1 rfl rfl ⟨_, upd_same, ?_⟩⟩
        · rw [keyOf_rel ek ri]
          exact DPut.k h1 (by rw [r1.length]; exact of_decide_eq_true c)
        · exact (RKV.put rv r1).mono (Ev.set h1 trivial)
      | frz _ => cases e <;> exact h.no.elim
      | ins _ _ => cases e <;> exact h.no.elim
  | _ => exact h.no.elim

/-! ### built-ins -/
def biVal : Bi → Value
  | .len => .builtin "len"
  | .int => .type "int"
  | .str => .type "str"
  | .strB => .type "str"
  | .reprB => .builtin "repr"
  | .repr => .builtin "repr"
  | .list => .type "list"
  | .tuple => .type "tuple"
  | .abs => .builtin "abs"
  | .max => .builtin "max"
  | .min => .builtin "min"
  | .sum => .builtin "sum"
  | .all => .builtin "all"
  | .any => .builtin "any"
  | .dict => .type "dict"
def biName : Bi → Str
  | .len => "len"
  | .int => "int"
  | .str => "str"
  | .strB => "str"
  | .reprB => "repr"
  | .repr => "repr"
  | .list => "list"
  | .tuple => "tuple"
  | .abs => "abs"
  | .max => "max"
  | .min => "min"
  | .sum => "sum"
  | .all => "all"
  | .any => "any"
  | .dict => "dict"
theorem bi_boot : ∀ b : Bi, bootBuiltins (biName b) = some (biVal b)
  | .len => boot_len
  | .int => by decide +kernel
  | .str => by decide +kernel
  | .strB => by decide +kernel
  | .reprB => by decide +kernel
  | .repr => by decide +kernel
  | .list => by decide +kernel
  | .tuple => by decide +kernel
  | .abs => by decide +kernel
  | .max => by decide +kernel
  | .min => by decide +kernel
  | .sum => by decide +kernel
  | .all => by decide +kernel
  | .any => by decide +kernel
  | .dict => by decide +kernel
def rLen (K : PySem.W.Frag) : List V → Hp → VK → Prop := fun xs H Q => (∃ x n, xs = [x] ∧ LenV K x H n ∧ Q (.int n) H) ∨ ∃ a kvs, xs = [V.ref a] ∧ Rd H a (.dK kvs) ∧ Q (.int (kvs.length : Nat)) H
theorem len_any {X : Cx} : CallR X (.builtin "len") (rLen X.K) := by
  intro pins s σ H xs us Q I r h
  rcases h with h | ⟨a, kvs, rfl, e, q⟩
  · exact call_len pins s σ H xs us Q I r h
  · obtain ⟨u, rfl, ru⟩ := vals1 r
    cases ru
    exact d_len I e fun t s' I' => ⟨.int (kvs.length : Nat), H, I', ⟨_, rfl⟩, q⟩
mutual
theorem dp_noDict : ∀ {d : PyData} {v : V}, Dp K H v d → d.hasDict = false
  | .none, _, _ => by simp only [PyData.hasDict]
  | .bool _, _, _ => by simp only [PyData.hasDict]
  | .int _, _, _ => by simp only [PyData.hasDict]
  | .str _, _, _ => by simp only [PyData.hasDict]
  | .list ds, _, h => by
    cases h with
    | lst _ ha => simp only [PyData.hasDict]; exact dpAll_noDict ha
  | .tuple ds, _, h => by
    cases h with
    | tup _ ha => simp only [PyData.hasDict]; exact dpAll_noDict ha
  | .dict _, _, h => by cases h
theorem dpAll_noDict : ∀ {ds : List PyData} {vs : List V}, DpAll K H vs ds → PyData.hasDictAll ds = false
  | [], _, _ => by simp only [PyData.hasDictAll]
  | d :: ds, _, h => by
    cases h with
    | cons h1 h2 => simp only [PyData.hasDictAll, dp_noDict h1, dpAll_noDict h2, Bool.or_self]
end
theorem callR_or {X : Cx} {f : Value} {r r' : List V → Hp → VK → Prop} (a : CallR X f r) (b : CallR X f r') : CallR X f (fun xs H Q => r xs H Q ∨ r' xs H Q) :=
  fun pins s σ H xs us Q I v h => h.elim (a pins s σ H xs us Q I v) (b pins s σ H xs us Q I v)
theorem optAll_cons {α β : Type} {f : α → Option β} {x : α} {r : List α} {ys : List β} (h : optAll f (x :: r) = some ys) : ∃ y zs, f x = some y ∧ optAll f r = some zs ∧ ys = y :: zs := by
  unfold optAll at h
  cases e1 : f x with
  | none => rw [e1] at h; cases h
  | some y =>
    cases e2 : optAll f r with
    | none => rw [e1, e2] at h; cases h
    | some zs =>
      rw [e1, e2] at h
      cases h
      exact ⟨y, zs, rfl, rfl, rfl⟩
theorem pairs_of {K : PySem.W.Frag} {H : Hp} {ι : Nat → Addr} {n : Nat} : ∀ {ys : List LV} {xs : List V} {kvs : List (Key × LV)}, RVs K H ι n xs ys → pairL ys = some kvs →
    ∃ (ps : List Addr) (us : List (Key × V)), xs = ps.map V.ref ∧ Paired (fun p kv => SqT K H p [kV kv.1, kv.2]) ps us ∧ RKV K H ι n us kvs
  | [], _, _, r, e => by
    cases r
    cases e
    exact ⟨[], [], rfl, .nil, .nil⟩
  | y :: ys, _, kvs, r, e => by
    cases r with
    | cons r1 r2 =>
      unfold pairL at e
      split at e
      · rename_i e0
        cases e0
      · rename_i k v ys' e0
        cases e0
        cases ek : keyOf k with
        | none => rw [ek] at e; cases e
        | some k' =>
          cases ep : pairL ys with
          | none => rw [ek, ep] at e; cases e
          | some kvs' =>
            rw [ek, ep] at e
            cases e
            obtain ⟨ps, us, rfl, h1, h2⟩ := pairs_of r2 ep
            obtain ⟨a, zs, rfl, ha, ra⟩ := r1.tupV
            cases ra with
            | cons q1 q2 =>
              cases q2 with
              | cons q2 q3 =>
                cases q3
                rw [keyOf_rel ek q1] at ha
                exact ⟨a :: ps, (k', _) :: us, rfl, .cons ha h1, .cons q2 h2⟩
      · cases e
theorem merge_rkv {K : PySem.W.Frag} {H : Hp} {ι : Nat → Addr} {n : Nat} : ∀ {us : List (Key × V)} {kvs : List (Key × LV)} {as : List (Key × V)} {bs : List (Key × LV)}, RKV K H ι n us kvs → RKV K H ι n as bs → RKV K H ι n (mergeK as us) (dmerge bs kvs)
  | _, _, _, _, .nil, q => q
  | (k, v) :: us, (_, d) :: kvs, _, _, .cons r1 r2, q => by
    show RKV K H ι n (mergeK (putK _ k v) us) (dmerge (dput _ k d) kvs)
    exact merge_rkv r2 (RKV.put r1 q)
theorem call_str_intB {X : Cx} (hn : X.base.NoDigits) : CallR X (.type "str") (fun xs H Q => ∃ i, xs = [.int i] ∧ i.natAbs < digLim ∧ Q (.str (toString i)) H) := by
  intro pins s σ H xs us Q I r h
  obtain ⟨i, rfl, hz, q⟩ := h
  obtain ⟨u, rfl, t, rfl⟩ := vals1 r
  exact str_intB (hn.keeps I.bk) hz ⟨.str _, H, I.tok _, ⟨_, rfl⟩, q⟩
def rBi (K : PySem.W.Frag) : Bi → List V → Hp → VK → Prop
  | .len => rLen K
  | .int => fun xs H Q => (∃ i, xs = [.int i] ∧ Q (.int i) H) ∨ ∃ k, xs = [.bl k] ∧ Q (.int (if k then 1 else 0)) H
  | .str => fun xs H Q => ∃ i, xs = [.int i] ∧ i.natAbs.log2 < 1920 ∧ Q (.str (toString i)) H
  | .repr => rReprR K
  | .strB => fun xs H Q => ∃ i, xs = [.int i] ∧ i.natAbs < digLim ∧ Q (.str (toString i)) H
  | .reprB => rReprR K
  | .dict => fun xs H Q => ∃ (a : Addr) (ps : List Addr) (kvs : List (Key × V)), xs = [.ref a] ∧ SqL K H a (ps.map V.ref) ∧ Paired (fun p kv => SqT K H p [kV kv.1, kv.2]) ps kvs ∧ ∀ p, H p = none → Q (.ref p) (upd H p (.dK (mergeK [] kvs)))
  | .list => fun xs H Q => ∃ p ys, xs = [.ref p] ∧ (SqL K H p ys ∨ SqT K H p ys) ∧ ∀ l, H l = none → Q (.ref l) (upd H l (.lst ys))
  | .tuple => fun xs H Q => ∃ p ys, xs = [.ref p] ∧ ((SqL K H p ys ∧ ∀ l, H l = none → Q (.ref l) (upd H l (.tup ys))) ∨ (SqT K H p ys ∧ Q (.ref p) H))
  | .abs => fun xs H Q => ∃ i, xs = [.int i] ∧ Q (.int (if i < 0 then -i else i)) H
  | .max => fun xs H Q => ∃ i j, xs = [.int i, .int j] ∧ Q (.int (if j > i then j else i)) H
  | .min => fun xs H Q => ∃ i j, xs = [.int i, .int j] ∧ Q (.int (if j < i then j else i)) H
  | .sum => rSum K
  | .all => rAll K
  | .any => rAny K
theorem rBi_ok {X : Cx} (G : Good X) : ∀ b : Bi, CallR X (biVal b) (rBi X.K b)
  | .len => len_any
  | .int => call_int1
  | .str => call_str_int
  | .repr => repr_dr G.dg G.hg G.hu
  | .strB => call_str_intB G.dg
  | .reprB => repr_dr G.dg G.hg G.hu
  | .dict => call_dictP G.calm
  | .list => call_list_of
  | .tuple => call_tuple_of
  | .abs => call_abs
  | .max => call_max2 G.calm
  | .min => call_min2 G.calm
  | .sum => cr_sum G.calm
  | .all => cr_all G.calm
  | .any => cr_any G.calm
theorem RVs.one {xs : List V} {d : LV} {n : Nat} (h : RVs K H ι n xs [d]) : ∃ x, xs = [x] ∧ RV K H ι n x d := by
  cases h with
  | cons a b => cases b; exact ⟨_, rfl, a⟩
theorem RVs.two {xs : List V} {d e : LV} {n : Nat} (h : RVs K H ι n xs [d, e]) : ∃ x y, xs = [x, y] ∧ RV K H ι n x d ∧ RV K H ι n y e := by
  cases h with
  | cons a b =>
    obtain ⟨y, rfl, r⟩ := b.one
    exact ⟨_, y, rfl, a, r⟩
theorem bi_at {b : Bi} {ds : List LV} {xs : List V} (h : At K W (RVr K) σV σ ι L (biV b ds L) Q H) (rx : RVs K H ι L.length xs ds) : rBi K b xs H Q := by
  cases ds with
  | nil => cases b <;> exact h.no.elim
  | cons d ds =>
    cases ds with
    | nil =>
      obtain ⟨x, ex, r1⟩ := rx.one
      subst ex
      clear rx
      have rx := r1
      clear r1
      cases b with
      | len =>
        obtain ⟨n, e, h⟩ := At.look (g := fun L => lenV L d) h
        have e : lenV L d = some n := e
        cases d with
        | str s =>
          dsimp only [lenV] at e
          split at e
          · rename_i c
            cases e
            cases rx
            exact .inl ⟨.str s, _, rfl, ⟨line_of c, rfl⟩, h.ret (.int _)⟩
          · cases e
        | tup as =>
          cases e
          obtain ⟨a, xs, rfl, ha, ra⟩ := rx.tupV
          exact .inl ⟨.ref a, _, rfl, .inr ⟨xs, ha, ra.length.symm⟩, h.ret (.int _)⟩
        | ref a =>
          obtain rfl := rx.refV
          dsimp only [lenV] at e
          cases e1 : L[a]? with
          | none => rw [e1] at e; cases e
          | some o =>
            rw [e1] at e
            have ro := h.rep.ob a _ e1
            cases o with
            | lst ys =>
              cases e
              obtain ⟨zs, h1, r1⟩ := ro
              exact .inl ⟨.ref (ι a), _, rfl, .inl ⟨zs, .inl (.inl h1), r1.length.symm⟩, h.ret (.int _)⟩
            | frz ns =>
              cases e
              exact .inl ⟨.ref (ι a), _, rfl, .inl ⟨_, (show FrzAt K H (ι a) (ns.map V.int) from ro).seq, (List.length_map _).symm⟩, h.ret (.int _)⟩
            | dic kvs =>
              cases e
              obtain ⟨zs, h1, r1⟩ := ro
              refine .inr ⟨_, zs, rfl, .inl h1, ?_⟩
              rw [r1.length]
              exact h.ret (.int _)
            | ins _ _ => cases e
        | _ => cases e
      | int =>
        cases d with
        | int i => cases rx; exact .inl ⟨_, rfl, h.ret (.int _)⟩
        | _ => exact h.no.elim
      | str =>
        cases d with
        | int i => obtain ⟨c, h⟩ := h.chk; cases rx; exact ⟨_, rfl, of_decide_eq_true c, h.ret (.str _)⟩
        | _ => exact h.no.elim
      | repr =>
        obtain ⟨pd, e, h⟩ := At.look (g := fun L => toR L d) h
        obtain ⟨c, h⟩ := h.chk
        rw [Bool.and_eq_true, Bool.and_eq_true] at c
        exact ⟨x, pd, rfl, dr_of h.rep _ _ _ _ e rx, showB_of _ c.1.1, line_of c.1.2, of_decide_eq_true c.2, h.ret (.str _)⟩
      | reprB =>
        obtain ⟨pd, e, h⟩ := At.look (g := fun L => toR L d) h
        obtain ⟨c, h⟩ := h.chk
        rw [Bool.and_eq_true, Bool.and_eq_true] at c
        exact ⟨x, pd, rfl, dr_of h.rep _ _ _ _ e rx, c.1.1, line_of c.1.2, of_decide_eq_true c.2, h.ret (.str _)⟩
      | strB =>
        cases d with
        | int i => obtain ⟨c, h⟩ := h.chk; cases rx; exact ⟨_, rfl, of_decide_eq_true c, h.ret (.str _)⟩
        | _ => exact h.no.elim
      | dict =>
        obtain ⟨kvs, e, h9⟩ := At.look (g := fun L => (itemsL L d).bind pairL) h
        cases d with
        | ref a =>
          obtain rfl := rx.refV
          obtain ⟨ys, e1, e2⟩ := Option.bind_eq_some_iff.mp e
          obtain ⟨xs, hx, hr⟩ := h9.rep.listOf e1
          obtain ⟨ps, us, rfl, h1, h2⟩ := pairs_of hr e2
          refine ⟨_, ps, us, rfl, hx, h1, fun p hp => ?_⟩
          have q : RO K (upd H p (.dK (mergeK [] us))) (ext ι L.length p) (L.length + 1) p (.dic (dmerge [] kvs)) := ⟨_, upd_same, (merge_rkv h2 .nil).mono (Ev.new hp)⟩
          exact h9.new hp q
        | _ => cases e
      | list =>
        obtain ⟨ys, e, h⟩ := At.look (g := fun L => Mv.items L d) h
        obtain ⟨a, xs, rfl, hs, hr⟩ := h.rep.seq rx e
        exact ⟨a, xs, rfl, hs, fun l hl => h.new hl (lst_new hl hr)⟩
      | tuple =>
        obtain ⟨ys, e, h⟩ := At.look (g := fun L => Mv.items L d) h
        obtain ⟨a, xs, rfl, hs, hr⟩ := h.rep.seq rx e
        refine ⟨a, xs, rfl, ?_⟩
        rcases hs with hs | hs
        · exact .inl ⟨hs, fun l hl => h.retF hl (tup_new hl hr)⟩
        · exact .inr ⟨hs, h.ret (.tup hs hr)⟩
      | abs =>
        cases d with
        | int i => cases rx; exact ⟨_, rfl, h.ret (.int _)⟩
        | _ => exact h.no.elim
      | sum =>
        obtain ⟨ns, e, h9⟩ := At.look (g := fun L => (itemsL L d).bind intL) h
        cases d with
        | ref a =>
          obtain rfl := rx.refV
          obtain ⟨ys, e1, e2⟩ := Option.bind_eq_some_iff.mp e
          obtain ⟨xs, hx, hr⟩ := h9.rep.listOf e1
          rw [hr.toInts e2] at hx
          exact ⟨_, ns, rfl, hx, h9.ret (.int _)⟩
        | _ => cases e
      | all =>
        obtain ⟨ns, e, h9⟩ := At.look (g := fun L => (itemsL L d).bind blL) h
        cases d with
        | ref a =>
          obtain rfl := rx.refV
          obtain ⟨ys, e1, e2⟩ := Option.bind_eq_some_iff.mp e
          obtain ⟨xs, hx, hr⟩ := h9.rep.listOf e1
          rw [hr.toBls e2] at hx
          exact ⟨_, ns, rfl, hx, h9.ret (.bl _)⟩
        | _ => cases e
      | any =>
        obtain ⟨ns, e, h9⟩ := At.look (g := fun L => (itemsL L d).bind blL) h
        cases d with
        | ref a =>
          obtain rfl := rx.refV
          obtain ⟨ys, e1, e2⟩ := Option.bind_eq_some_iff.mp e
          obtain ⟨xs, hx, hr⟩ := h9.rep.listOf e1
          rw [hr.toBls e2] at hx
          exact ⟨_, ns, rfl, hx, h9.ret (.bl _)⟩
        | _ => cases e
      | max => cases d <;> exact h.no.elim
      | min => cases d <;> exact h.no.elim
    | cons e ds =>
      cases ds with
      | nil =>
        obtain ⟨x, y, ex, r1, ry⟩ := rx.two
        subst ex
        clear rx
        have rx := r1
        clear r1
        cases b with
        | max =>
          cases d <;> cases e <;> first
            | exact h.no.elim
            | (cases rx; cases ry; exact ⟨_, _, rfl, h.ret (.int _)⟩)
        | min =>
          cases d <;> cases e <;> first
            | exact h.no.elim
            | (cases rx; cases ry; exact ⟨_, _, rfl, h.ret (.int _)⟩)
        | _ => cases d <;> exact h.no.elim
      | cons _ _ => cases b <;> first | exact h.no.elim | (cases d <;> first | exact h.no.elim | (cases e <;> exact h.no.elim))
end
end Mv

/-! Mv6: isinstance, methods, what is walked. -/
namespace Mv
open PySem PySem.Spec PyProof.Rows L2

/-! ### isinstance -/
inductive Tyx (K : PySem.W.Frag) (H : Hp) : V → String → Prop where
  | non : Tyx K H .non "NoneType"
  | bl (b : Bool) : Tyx K H (.bl b) "bool"
  | int (i : Int) : Tyx K H (.int i) "int"
  | str (s : Str) : Tyx K H (.str s) "str"
  | lst {a : Addr} {xs : List V} : SqL K H a xs → Tyx K H (.ref a) "list"
  | tup {a : Addr} {xs : List V} : SqT K H a xs → Tyx K H (.ref a) "tuple"
  | dic {a : Addr} {kvs : List (Key × V)} : H a = some (.dK kvs) → Tyx K H (.ref a) "dict"
def rIsi (K : PySem.W.Frag) : List V → Hp → VK → Prop := fun xs H Q => ∃ x T t b, xs = [x, .ty T] ∧ Tyx K H x t ∧ kitB t T = some b ∧ Q (.bl b) H
theorem isi_any {X : Cx} : CallR X (.builtin "isinstance") (rIsi X.K) := by
  intro pins s σ H xs us Q I r h
  obtain ⟨x, T, t, b, rfl, ty, e, q⟩ := h
  obtain ⟨u, c, rfl, ru, rc⟩ := vals2 r
  cases rc
  have e := kit_ty (K := X.K) e
  have fin : ∀ tk, EP X pins σ Q (.bool b) { s with toks := tk } := fun tk => ⟨.bl b, H, I.tok tk, rfl, q⟩
  cases ty with
  | non => cases ru; exact PySem.W.kia_one PySem.W.kitx_none I.kIn True.intro e (fun z => nomatch z) fin
  | bl y => cases ru; exact PySem.W.kia_one PySem.W.kitx_bool I.kIn True.intro e (fun z => nomatch z) fin
  | int i => obtain ⟨t, rfl⟩ := ru; exact PySem.W.kia_one PySem.W.kitx_int I.kIn True.intro e (fun z => nomatch z) fin
  | str y => obtain ⟨t, rfl⟩ := ru; exact PySem.W.kia_one PySem.W.kitx_str I.kIn True.intro e (fun z => nomatch z) fin
  | lst hs =>
    cases ru
    obtain ⟨its, rv, ⟨o, n, h1, h2, _, _⟩, _⟩ := I.list hs
    exact PySem.W.kia_one PySem.W.kitx_list I.kIn ⟨o, h1, h2⟩ e (fun z => nomatch z) fin
  | tup hs =>
    cases ru
    obtain ⟨its, rv, ⟨o, h1, h2, _⟩, _⟩ := I.tuple hs
    exact PySem.W.kia_one PySem.W.kitx_tuple I.kIn ⟨o, h1, h2⟩ e (fun z => nomatch z) fin
  | dic hs =>
    cases ru
    obtain ⟨_, _, vs, _, o, es, ep, h1, h2, _⟩ := I.hok _ _ hs
    exact PySem.W.kia_one PySem.W.kitx_dict I.kIn ⟨o, h1, h2.1⟩ e (fun z => nomatch z) fin
def tyName : Ty → String
  | .int => "int"
  | .bool => "bool"
  | .str => "str"
  | .tuple => "tuple"
  | .list => "list"
  | .dict => "dict"
theorem ty_boot : ∀ t : Ty, bootBuiltins (Str.ofString (tyName t)) = some (.type (tyName t))
  | .int => by decide +kernel
  | .bool => by decide +kernel
  | .str => by decide +kernel
  | .tuple => by decide +kernel
  | .list => by decide +kernel
  | .dict => by decide +kernel
theorem kit_non : ∀ t : Ty, kitB "NoneType" (tyName t) = some (decide (t ∈ ([] : List Ty)))
  | .int => by decide +kernel
  | .bool => by decide +kernel
  | .str => by decide +kernel
  | .tuple => by decide +kernel
  | .list => by decide +kernel
  | .dict => by decide +kernel
theorem kit_bl : ∀ t : Ty, kitB "bool" (tyName t) = some (decide (t ∈ ([.bool, .int] : List Ty)))
  | .int => by decide +kernel
  | .bool => by decide +kernel
  | .str => by decide +kernel
  | .tuple => by decide +kernel
  | .list => by decide +kernel
  | .dict => by decide +kernel
theorem kit_int : ∀ t : Ty, kitB "int" (tyName t) = some (decide (t ∈ ([.int] : List Ty)))
  | .int => by decide +kernel
  | .bool => by decide +kernel
  | .str => by decide +kernel
  | .tuple => by decide +kernel
  | .list => by decide +kernel
  | .dict => by decide +kernel
theorem kit_str : ∀ t : Ty, kitB "str" (tyName t) = some (decide (t ∈ ([.str] : List Ty)))
  | .int => by decide +kernel
  | .bool => by decide +kernel
  | .str => by decide +kernel
  | .tuple => by decide +kernel
  | .list => by decide +kernel
  | .dict => by decide +kernel
theorem kit_tup : ∀ t : Ty, kitB "tuple" (tyName t) = some (decide (t ∈ ([.tuple] : List Ty)))
  | .int => by decide +kernel
  | .bool => by decide +kernel
  | .str => by decide +kernel
  | .tuple => by decide +kernel
  | .list => by decide +kernel
  | .dict => by decide +kernel
theorem kit_lst : ∀ t : Ty, kitB "list" (tyName t) = some (decide (t ∈ ([.list] : List Ty)))
  | .int => by decide +kernel
  | .bool => by decide +kernel
  | .str => by decide +kernel
  | .tuple => by decide +kernel
  | .list => by decide +kernel
  | .dict => by decide +kernel
theorem kit_dic : ∀ t : Ty, kitB "dict" (tyName t) = some (decide (t ∈ ([.dict] : List Ty)))
  | .int => by decide +kernel
  | .bool => by decide +kernel
  | .str => by decide +kernel
  | .tuple => by decide +kernel
  | .list => by decide +kernel
  | .dict => by decide +kernel
section
variable {K : PySem.W.Frag} {W : XW} {σV : L2.St} {σ : LSt} {ι : Nat → Addr} {L : LH} {H : Hp} {Q : VK}
theorem isi_at {d : LV} {x : V} {t : Ty} (h : At K W (RVr K) σV σ ι L (isiV d t L) Q H) (rx : RV K H ι L.length x d) : rIsi K [x, .ty (tyName t)] H Q := by
  cases d with
  | non =>
    cases rx
    obtain ⟨ts, e, h⟩ := At.look (g := fun L => tyOf L .non) h
    cases e
    exact ⟨_, _, _, _, rfl, .non, kit_non t, h.ret (.bl _)⟩
  | bl b =>
    cases rx
    obtain ⟨ts, e, h⟩ := At.look (g := fun L => tyOf L (.bl b)) h
    cases e
    exact ⟨_, _, _, _, rfl, .bl b, kit_bl t, h.ret (.bl _)⟩
  | int i =>
    cases rx
    obtain ⟨ts, e, h⟩ := At.look (g := fun L => tyOf L (.int i)) h
    cases e
    exact ⟨_, _, _, _, rfl, .int i, kit_int t, h.ret (.bl _)⟩
  | str s =>
    cases rx
    obtain ⟨ts, e, h⟩ := At.look (g := fun L => tyOf L (.str s)) h
    cases e
    exact ⟨_, _, _, _, rfl, .str s, kit_str t, h.ret (.bl _)⟩
  | tup ds =>
    obtain ⟨ts, e, h⟩ := At.look (g := fun L => tyOf L (.tup ds)) h
    cases e
    obtain ⟨a, xs, rfl, ha, ra⟩ := rx.tupV
    exact ⟨_, _, _, _, rfl, .tup ha, kit_tup t, h.ret (.bl _)⟩
  | ref k =>
    obtain ⟨ts, e, h⟩ := At.look (g := fun L => tyOf L (.ref k)) h
    obtain rfl := rx.refV
    dsimp only [tyOf] at e
    cases e1 : L[k]? with
    | none => rw [e1] at e; cases e
    | some o =>
      rw [e1] at e
      have ro := h.rep.ob k _ e1
      cases o with
      | lst ys =>
        cases e
        obtain ⟨zs, h1, r1⟩ := ro
        exact ⟨_, _, _, _, rfl, .lst (.inl (.inl h1)), kit_lst t, h.ret (.bl _)⟩
      | frz ns => cases e
      | dic kvs =>
        cases e
        obtain ⟨zs, h1, r1⟩ := ro
        exact ⟨_, _, _, _, rfl, .dic h1, kit_dic t, h.ret (.bl _)⟩
      | ins _ _ => cases e

/-! ### methods -/
def mtName : Mth → Str
  | .append => "append"
  | .pop => "pop"
  | .extend => "extend"
  | .index => "index"
  | .count => "count"
def mtId : Mth → String
  | .append => "list.append"
  | .pop => "list.pop"
  | .extend => "list.extend"
  | .index => "list.index"
  | .count => "list.count"
/-- x.count(y), flat items -/
def rCount (K : PySem.W.Frag) : V → List V → Hp → VK → Prop := fun x xs H Q => ∃ (a : Addr) (ys : List V) (y : V), x = V.ref a ∧ xs = [y] ∧ SqL K H a ys ∧ flatV y = true ∧ ys.all flatV = true ∧ Q (.int ((ys.countP fun z => L2.eqV z y : Nat) : Int)) H
theorem countP_eqU {y : V} : ∀ {ys : List V} {us : List Value}, Vals ys us → ys.all flatV = true → us.countP (eqU y) = ys.countP fun z => L2.eqV z y
  | _, _, .nil, _ => rfl
  | x :: xs, u :: us, .cons r t, f => by
    rw [List.all_cons, Bool.and_eq_true] at f
    rw [List.countP_cons, List.countP_cons, eqU_of r f.1, countP_eqU t f.2]
theorem mt_count {X : Cx} : MtR X "list.count" (rCount X.K) := by
  intro pins s σ H x xs v us Q I rx rxs h
  obtain ⟨a, ys, y, rfl, rfl, hs, fy, fys, q⟩ := h
  cases rx
  cases rxs with
  | cons ry rt =>
    rename_i uy ut
    cases rt
    obtain ⟨its, rv, ⟨⟨cls, dd, data, sl⟩, n, ho, hc, hdn, hd⟩, hlen⟩ := I.list hs
    simp only at hc hd
    subst hc hd
    refine call_meets PySem.F.slot_list_count ⟨_, ho, rfl⟩ PySem.F.entry_list_count (PySem.F.args_list_count_2 _ _)
      (SeqAt.list_countAt a its.toArray n dd sl uy (eqU y)) ⟨ho, fun u' hu' => mem_eqAt ry fy rv fys u' (by simpa using hu'), ?_⟩
    have e : its.toArray.toList.countP (eqU y) = ys.countP fun z => L2.eqV z y := countP_eqU rv fys
    rw [e]
    exact ⟨.int _, H, I.tok _, ⟨_, rfl⟩, q⟩
def rMt (K : PySem.W.Frag) : Mth → V → List V → Hp → VK → Prop
  | .append => rAppend
  | .pop => rPop
  | .extend => rExtend
  | .index => rIndex K
  | .count => rCount K
theorem rMt_ok {X : Cx} : ∀ m : Mth, MtR X (mtId m) (rMt X.K m)
  | .append => mt_append
  | .pop => mt_pop
  | .extend => mt_extend
  | .index => mt_index
  | .count => mt_count
theorem count_rel {n : Nat} {x : V} {d : LV} (r : RV K H ι n x d) (hd : flat d = true) : ∀ {ds : List LV} {vs : List V}, RVs K H ι n vs ds → ds.all flat = true → (vs.countP fun z => L2.eqV z x) = ds.countP fun e => flatEq e d
  | [], _, q, _ => by cases q; rfl
  | e :: ds, _, q, h => by
    cases q with
    | cons q1 q2 =>
      rw [List.all_cons, Bool.and_eq_true] at h
      rw [List.countP_cons, List.countP_cons, flatEq_rel q1 r h.1 hd, count_rel r hd q2 h.2]
theorem mth_at {m : Mth} {d : LV} {x : V} {ds : List LV} {xs : List V} (h : At K W (RVr K) σV σ ι L (mthV m d ds L) Q H) (rx : RV K H ι L.length x d) (rs : RVs K H ι L.length xs ds) :
    tyV K "list" x H ∧ rMt K m x xs H Q := by
  cases d with
  | ref a =>
    obtain rfl := rx.refV
    have h : At K W (RVr K) σV σ ι L (mthR a m L[a]? ds L) Q H := h
    generalize e1 : L[a]? = o1 at h
    cases o1 with
    | none => cases m <;> exact h.no.elim
    | some o1 =>
      cases o1 with
      | lst ys =>
        have ro := h.rep.ob a _ e1
        obtain ⟨zs, h1, r1⟩ := ro
        refine ⟨.inl ⟨rfl, zs, .inl (.inl h1)⟩, ?_⟩
        cases m with
        | append =>
          cases ds with
          | nil => exact h.no.elim
          | cons d ds =>
            cases ds with
            | cons _ _ => exact h.no.elim
            | nil =>
              obtain ⟨c, h⟩ := At.chk h
              obtain ⟨y, ey, ry⟩ := rs.one
              subst ey
              refine ⟨_, zs, y, rfl, rfl, h1, by rw [r1.length]; exact of_decide_eq_true c, ?_⟩
              refine (h.put (u := .lst (zs ++ [y])) e1 rfl rfl ⟨_, upd_same, ?_⟩).ret .non
              exact (r1.append (.cons ry .nil)).mono (Ev.set h1 trivial)
        | pop =>
          cases ds with
          | cons _ _ => exact h.no.elim
          | nil =>
            cases rs
            obtain ⟨d, e, h⟩ := At.ofO h
            obtain ⟨y, ey, ry⟩ := r1.get e
            refine ⟨_, zs, y, rfl, rfl, h1, by rw [r1.length]; exact ey, ?_⟩
            have ev : Ev K ι H L.length ι (upd H (ι a) (.lst zs.dropLast)) L.length := Ev.set h1 trivial
            refine (h.put (u := .lst zs.dropLast) e1 rfl rfl ⟨_, upd_same, r1.dropLast.mono ev⟩).ret ?_
            rw [List.length_set]
            exact ry.mono ev
        | extend => exact h.no.elim
        | count =>
          cases ds with
          | nil => exact h.no.elim
          | cons d ds =>
            cases ds with
            | cons _ _ => exact h.no.elim
            | nil =>
              obtain ⟨c, h⟩ := At.chk h
              rw [Bool.and_eq_true] at c
              obtain ⟨y, ey, ry⟩ := rs.one
              subst ey
              refine ⟨_, zs, y, rfl, rfl, .inl (.inl h1), flat_rel ry c.1, flat_all r1 c.2, ?_⟩
              rw [count_rel ry c.1 r1 c.2]
              exact h.ret (.int _)
        | index =>
          cases ds with
          | nil => exact h.no.elim
          | cons d ds =>
            cases ds with
            | cons _ _ => exact h.no.elim
            | nil =>
              obtain ⟨c, h⟩ := At.chk h
              rw [Bool.and_eq_true] at c
              obtain ⟨y, ey, ry⟩ := rs.one
              subst ey
              obtain ⟨j, ej, h⟩ := At.ofO h
              obtain ⟨hj, hj2, hj3⟩ := List.findIdx?_eq_some_iff_getElem.mp ej
              obtain ⟨z, ez, rz⟩ := r1.get (List.getElem?_eq_getElem hj)
              have fl : ∀ {k : Nat} (hk : k < ys.length), flat ys[k] = true := fun hk => List.all_eq_true.mp c.2 _ (List.getElem_mem hk)
              refine ⟨_, zs, y, j, z, rfl, rfl, .inl (.inl h1), flat_rel ry c.1, flat_all r1 c.2, ez, ?_, fun m z' hm e => ?_, h.ret (.int _)⟩
              · rw [flatEq_rel rz ry (fl hj) c.1]
                exact hj2
              · have hm2 : m < ys.length := Nat.lt_trans hm hj
                obtain ⟨z2, e2, r2⟩ := r1.get (List.getElem?_eq_getElem hm2)
                rw [e] at e2
                cases e2
                rw [flatEq_rel r2 ry (fl hm2) c.1]
                simpa using hj3 m hm
      | frz _ => cases m <;> exact h.no.elim
      | dic _ => cases m <;> exact h.no.elim
      | ins _ _ => cases m <;> exact h.no.elim
  | _ => exact h.no.elim

theorem lst_ty {d : LV} {x : V} (R : Rep K ι H L) (h : lstAt L d = some ()) (rx : RV K H ι L.length x d) : tyV K "list" x H := by
  cases d with
  | ref a =>
    obtain rfl := rx.refV
    dsimp only [lstAt] at h
    cases e1 : L[a]? with
    | none => rw [e1] at h; cases h
    | some o =>
      rw [e1] at h
      cases o with
      | lst ys =>
        obtain ⟨zs, h1, r1⟩ := R.ob a _ e1
        exact .inl ⟨rfl, zs, .inl (.inl h1)⟩
      | _ => cases h
  | _ => cases h

/-! ### what is walked -/
def SrcR (K : PySem.W.Frag) : Rl Src It := fun H ι n J s => ∀ H' ι' L', Ev K ι H n ι' H' (List.length L') → Rep K ι' H' L' →
  (∀ i d, s.at i L' = some d → J.go i H' ∧ ∀ x H2, J.yld i H' x H2 → Ev K ι' H' L'.length ι' H2 L'.length ∧ Rep K ι' H2 L' ∧ RV K H2 ι' L'.length x d) ∧ (s.fin L' = true → J.stop s.len H')
theorem srcR_tup {n : Nat} {a : Addr} {xs : List V} {ds : List LV} (hs : SqT K H a xs) (r : RVs K H ι n xs ds) : SrcR K H ι n (Itt K a) (.fixed ds) := by
  intro H' ι' L' ev rp
  have hs' := ev.tp _ _ hs
  have r' := r.mono ev
  refine ⟨fun i d e => ?_, fun _ => ⟨xs, hs', Nat.le_of_eq r.length⟩⟩
  obtain ⟨v, hv, rv⟩ := r'.get e
  refine ⟨⟨xs, v, hs', hv⟩, fun x H2 y => ?_⟩
  obtain ⟨rfl, y⟩ := y
  have z := y xs hs'
  rw [hv] at z
  cases z
  exact ⟨Ev.refl, rp, rv⟩
theorem srcR_live {k len : Nat} (hk : k < L.length) : SrcR K H ι L.length (Itl K (ι k)) (.live k len) := by
  intro H' ι' L' ev rp
  have ek : ι' k = ι k := ev.pl k hk
  refine ⟨fun i d e => ?_, fun e => ?_⟩
  · have e : (itemsL L' (.ref k)).bind (fun xs => xs[i]?) = some d := e
    obtain ⟨ys, e1, e2⟩ := Option.bind_eq_some_iff.mp e
    obtain ⟨zs, h1, r1⟩ := rp.listOf e1
    rw [ek] at h1
    obtain ⟨v, hv, rv⟩ := r1.get e2
    refine ⟨⟨zs, v, h1, hv⟩, fun x H2 y => ?_⟩
    obtain ⟨rfl, y⟩ := y
    have z := y zs h1
    rw [hv] at z
    cases z
    exact ⟨Ev.refl, rp, rv⟩
  · dsimp only [Src.fin] at e
    cases e1 : itemsL L' (.ref k) with
    | none => rw [e1] at e; cases e
    | some ys =>
      rw [e1] at e
      obtain ⟨zs, h1, r1⟩ := rp.listOf e1
      rw [ek] at h1
      exact ⟨zs, h1, by rw [r1.length]; exact of_decide_eq_true e⟩
theorem srcR_str {n : Nat} (s : Str) : SrcR K H ι n (Its s) (.fixed (s.cps.toList.map fun c => .str ⟨#[c]⟩)) := by
  intro H' ι' L' ev rp
  refine ⟨fun i d e => ?_, fun _ => ?_⟩
  · have e : (s.cps.toList.map fun c => LV.str ⟨#[c]⟩)[i]? = some d := e
    rw [List.getElem?_map] at e
    obtain ⟨c, e1, e2⟩ := Option.map_eq_some_iff.mp e
    subst e2
    have e3 : s.cps[i]? = some c := by rw [← e1]; simp
    have hi : i < s.cps.size := (Array.getElem?_eq_some_iff.mp e3).1
    refine ⟨hi, fun x H2 y => ?_⟩
    obtain ⟨rfl, c', h1, rfl⟩ := y
    rw [e3] at h1
    cases h1
    exact ⟨Ev.refl, rp, .str _⟩
  · show s.cps.size ≤ (s.cps.toList.map _).length
    rw [List.length_map, Array.length_toList]
    exact Nat.le_refl _
theorem srcR_rng {n : Nat} (lo : Int) (k : Nat) : SrcR K H ι n (Itr lo k) (rngV lo k) := by
  intro H' ι' L' ev rp
  refine ⟨fun i d e => ?_, fun _ => ?_⟩
  · have e : ((List.range k).map fun (j : Nat) => LV.int (lo + (j : Int)))[i]? = some d := e
    rw [List.getElem?_map] at e
    obtain ⟨j, e1, e2⟩ := Option.map_eq_some_iff.mp e
    subst e2
    have hi := (List.getElem?_eq_some_iff.mp e1).1
    rw [List.length_range] at hi
    rw [List.getElem?_range hi] at e1
    cases e1
    refine ⟨hi, fun x H2 y => ?_⟩
    obtain ⟨rfl, rfl⟩ := y
    exact ⟨Ev.refl, rp, .int _⟩
  · show k ≤ ((List.range k).map _).length
    rw [List.length_map, List.length_range]
    exact Nat.le_refl _
end
end Mv

/-! Mv7: each form of expression, read by the evaluator. -/
namespace Mv
open PySem PySem.Spec PyProof.Rows L2

/-- a test's reading -/
abbrev tT (K : PySem.W.Frag) (W : XW) (m : LSt → M LV) : TT := fun σ H Q => tI K W m σ H fun x H1 => ∃ c, x = .bl c ∧ Q c H1
theorem PW.imp {X : Cx} {e : Expr} {t t' : TT} (h : PW X e t) (q : ∀ σ H Q, t' σ H Q → t σ H Q) : PW X e t' := ⟨fun wh pins s σ H Q I w => h.run wh pins s σ H Q I (q σ H Q w)⟩

section
variable {K : PySem.W.Frag} {W : XW} {ma mb mc : LSt → M LV} {ms : LSt → M (List LV)}
theorem tG_bind {α β γ δ : Type} {R : Rl α β} {R2 : Rl γ δ} {m : LSt → M α} {f : α → LSt → M γ} {σV : L2.St} {H : Hp} {Q : δ → Hp → Prop} (h : tG K W R2 (fun σ => M.bind (m σ) fun d => f d σ) σV H Q) :
    tG K W R m σV H fun v H1 => ∃ d ι1 L1 σ, R H1 ι1 L1.length v d ∧ At K W R2 σV σ ι1 L1 (f d σ L1) Q H1 := by
  obtain ⟨ι, σ, L, h⟩ := h
  exact ⟨ι, σ, L, h.bind.imp fun v H1 ⟨d, ι1, L1, r, ev, h⟩ => ⟨d, ι1, L1, σ, r, h⟩⟩
/-- two values, then an operation -/
theorem two {f : LV → LV → M LV} {r : R2} {σV : L2.St} {H : Hp} {Q : VK} (hr : ∀ {σ : LSt} {ι : Nat → Addr} {L : LH} {H : Hp} {Q : VK} {d e : LV} {x y : V}, At K W (RVr K) σV σ ι L (f d e L) Q H → RV K H ι L.length x d → RV K H ι L.length y e → r x y H Q)
    (h : tI K W (fun σ => M.bind (ma σ) fun x => M.bind (mb σ) fun y => f x y) σV H Q) : tOp r (tI K W ma) (tI K W mb) σV H Q := by
  obtain ⟨ι, σ, L, h⟩ := h
  refine ⟨ι, σ, L, (h.bind (R := RVr K)).imp fun x H1 ⟨d, ι1, L1, r1, ev, h⟩ => ?_⟩
  refine ⟨ι1, σ, L1, (h.bind (R := RVr K)).imp fun y H2 ⟨e, ι2, L2, r2, ev2, h⟩ => ?_⟩
  exact hr h (r1.mono ev2) r2
theorem one {f : LV → M LV} {r : V → Hp → VK → Prop} {σV : L2.St} {H : Hp} {Q : VK} (hr : ∀ {σ : LSt} {ι : Nat → Addr} {L : LH} {H : Hp} {Q : VK} {d : LV} {x : V}, At K W (RVr K) σV σ ι L (f d L) Q H → RV K H ι L.length x d → r x H Q)
    (h : tI K W (fun σ => M.bind (ma σ) f) σV H Q) : tI K W ma σV H fun x H1 => r x H1 Q := by
  obtain ⟨ι, σ, L, h⟩ := h
  exact ⟨ι, σ, L, (h.bind (R := RVr K)).imp fun x H1 ⟨d, ι1, L1, r1, ev, h⟩ => hr h r1⟩
end

section
variable {X : Cx} {W : XW} {a b c : Expr} {ma mb mc : LSt → M LV} {pos : Pos}
theorem e_bin (op : BOp) (ha : PE X a (tI X.K W ma)) (hb : PE X b (tI X.K W mb)) :
    PE X (.BinOp a (opOf op) b pos) (tI X.K W fun σ => M.bind (ma σ) fun x => M.bind (mb σ) fun y => binV op x y) :=
  PE.imp (pe_op (rB_ok op) ha hb) fun σ H Q h => two (fun h r1 r2 => bin_at op h r1 r2) h
theorem e_neg (ha : PE X a (tI X.K W ma)) : PE X (.UnaryOp .USub a pos) (tI X.K W fun σ => M.bind (ma σ) fun x => match x with
    | .int i => M.ret (.int (-i))
    | _ => M.no) :=
  PE.imp (pe_un un_neg ha) fun σ H Q h => one (r := rU fun i => .int (-i)) (fun {σ ι L H Q d x} h r => by
    cases d with
    | int i => cases r; exact ⟨_, rfl, h.ret (.int _)⟩
    | _ => exact h.no.elim) h
theorem e_cmp (G : Good X) (op : COp) (ha : PE X a (tI X.K W ma)) (hb : PE X b (tI X.K W mb)) (hm : behindInMarks (copOf op) b = false) :
    PE X (.Compare a [copOf op] [b] pos) (tI X.K W fun σ => M.bind (ma σ) fun x => M.bind (mb σ) fun y => cmpV op x y) :=
  PE.imp (pe_cmpR (rC_ok G op) ha hb hm) fun σ H Q h => two (fun h r1 r2 => cmp_at op h r1 r2) h
theorem t_cmp (G : Good X) (op : COp) (ha : PE X a (tI X.K W ma)) (hb : PE X b (tI X.K W mb)) (hm : behindInMarks (copOf op) b = false) :
    PT X (.Compare a [copOf op] [b] pos) (tT X.K W fun σ => M.bind (ma σ) fun x => M.bind (mb σ) fun y => cmpV op x y) :=
  PT.imp (pt_cmpR (rC_ok G op) ha hb hm) fun σ H Q h => two (fun h r1 r2 => cmp_at op h r1 r2) h
def chain (op op' : COp) (ma mb mc : LSt → M LV) : LSt → M LV := fun σ => M.bind (ma σ) fun x => M.bind (mb σ) fun y => M.bind (cmpV op x y) fun r => match r with
    | .bl true => M.bind (mc σ) fun z => cmpV op' y z
    | .bl false => M.ret (.bl false)
    | _ => M.no
theorem chain_at {K : PySem.W.Frag} {op op' : COp} {σV : L2.St} {H : Hp} {Q : VK} (h : tI K W (chain op op' ma mb mc) σV H Q) : tChain (rC K op) (rC K op') (tI K W ma) (tI K W mb) (tI K W mc) σV H Q := by
  obtain ⟨ι, σ, L, h⟩ := h
  refine ⟨ι, σ, L, (h.bind (R := RVr K)).imp fun x H1 ⟨d, ι1, L1, r1, ev, h⟩ => ?_⟩
  refine ⟨ι1, σ, L1, (h.bind (R := RVr K)).imp fun y H2 ⟨e, ι2, L2, r2, ev2, h⟩ => ?_⟩
  have r1' := r1.mono ev2
  refine cmp_at op ((h.bind (R := RVr K)).imp fun z H3 ⟨f, ι3, L3, r3, ev3, h⟩ => ?_) r1' r2
  cases f with
  | bl k =>
    cases r3
    refine ⟨k, rfl, ?_⟩
    cases k with
    | false => rw [if_neg Bool.false_ne_true]; exact h.ret (.bl _)
    | true =>
      rw [if_pos rfl]
      refine ⟨ι3, σ, L3, (h.bind (R := RVr K)).imp fun w H4 ⟨g, ι4, L4, r4, ev4, h⟩ => ?_⟩
      exact cmp_at op' h ((r2.mono ev3).mono ev4) r4
  | _ => exact h.no.elim
theorem e_chain (G : Good X) (op op' : COp) (ha : PE X a (tI X.K W ma)) (hb : PE X b (tI X.K W mb)) (hc : PE X c (tI X.K W mc)) (hm : lastMarks [copOf op, copOf op'] [b, c] = false) :
    PE X (.Compare a [copOf op, copOf op'] [b, c] pos) (tI X.K W (chain op op' ma mb mc)) :=
  PE.imp (pe_chain (rC_ok G op) (rC_ok G op') ha hb hc hm) fun σ H Q h => chain_at h
theorem t_chain (G : Good X) (op op' : COp) (ha : PE X a (tI X.K W ma)) (hb : PE X b (tI X.K W mb)) (hc : PE X c (tI X.K W mc)) (hm : lastMarks [copOf op, copOf op'] [b, c] = false) :
    PT X (.Compare a [copOf op, copOf op'] [b, c] pos) (tT X.K W (chain op op' ma mb mc)) :=
  PT.imp (pt_chain (rC_ok G op) (rC_ok G op') ha hb hc hm) fun σ H Q h => chain_at h

/-! ### and, or, not, if -/
def andM (ma mb : LSt → M LV) : LSt → M LV := fun σ => M.bind (ma σ) fun x => match x with
    | .bl true => mb σ
    | .bl false => M.ret (.bl false)
    | _ => M.no
def orM (ma mb : LSt → M LV) : LSt → M LV := fun σ => M.bind (ma σ) fun x => match x with
    | .bl true => M.ret (.bl true)
    | .bl false => mb σ
    | _ => M.no
def notM (ma : LSt → M LV) : LSt → M LV := fun σ => M.bind (ma σ) fun x => match x with
    | .bl b => M.ret (.bl (!b))
    | _ => M.no
def iteM (mc ma mb : LSt → M LV) : LSt → M LV := fun σ => M.bind (mc σ) fun x => match x with
    | .bl true => ma σ
    | .bl false => mb σ
    | _ => M.no
variable {rest : List Expr}
theorem and_at {K : PySem.W.Frag} {σV : L2.St} {H : Hp} {Q : VK} (h : tI K W (andM ma mb) σV H Q) : tI K W ma σV H fun x H1 => ∃ c, x = .bl c ∧ if c = true then tI K W mb σV H1 Q else Q (.bl false) H1 := by
  obtain ⟨ι, σ, L, h⟩ := h
  refine ⟨ι, σ, L, (h.bind (R := RVr K)).imp fun x H1 ⟨d, ι1, L1, r1, ev, h⟩ => ?_⟩
  cases d with
  | bl k =>
    cases r1
    refine ⟨k, rfl, ?_⟩
    cases k with
    | false => rw [if_neg Bool.false_ne_true]; exact h.ret (.bl _)
    | true => rw [if_pos rfl]; exact ⟨ι1, σ, L1, h⟩
  | _ => exact h.no.elim
theorem or_at {K : PySem.W.Frag} {σV : L2.St} {H : Hp} {Q : VK} (h : tI K W (orM ma mb) σV H Q) : tI K W ma σV H fun x H1 => ∃ c, x = .bl c ∧ if c = true then Q (.bl true) H1 else tI K W mb σV H1 Q := by
  obtain ⟨ι, σ, L, h⟩ := h
  refine ⟨ι, σ, L, (h.bind (R := RVr K)).imp fun x H1 ⟨d, ι1, L1, r1, ev, h⟩ => ?_⟩
  cases d with
  | bl k =>
    cases r1
    refine ⟨k, rfl, ?_⟩
    cases k with
    | true => rw [if_pos rfl]; exact h.ret (.bl _)
    | false => rw [if_neg Bool.false_ne_true]; exact ⟨ι1, σ, L1, h⟩
  | _ => exact h.no.elim
theorem not_at {K : PySem.W.Frag} {σV : L2.St} {H : Hp} {Q : VK} (h : tI K W (notM ma) σV H Q) : tI K W ma σV H fun x H1 => ∃ c, x = .bl c ∧ Q (.bl (!c)) H1 := by
  obtain ⟨ι, σ, L, h⟩ := h
  refine ⟨ι, σ, L, (h.bind (R := RVr K)).imp fun x H1 ⟨d, ι1, L1, r1, ev, h⟩ => ?_⟩
  cases d with
  | bl k => cases r1; exact ⟨k, rfl, h.ret (.bl _)⟩
  | _ => exact h.no.elim
theorem ite_at {K : PySem.W.Frag} {σV : L2.St} {H : Hp} {Q : VK} (h : tI K W (iteM mc ma mb) σV H Q) : tT K W mc σV H fun c H1 => if c = true then tI K W ma σV H1 Q else tI K W mb σV H1 Q := by
  obtain ⟨ι, σ, L, h⟩ := h
  refine ⟨ι, σ, L, (h.bind (R := RVr K)).imp fun x H1 ⟨d, ι1, L1, r1, ev, h⟩ => ?_⟩
  cases d with
  | bl k =>
    cases r1
    refine ⟨k, rfl, ?_⟩
    cases k with
    | true => rw [if_pos rfl]; exact ⟨ι1, σ, L1, h⟩
    | false => rw [if_neg Bool.false_ne_true]; exact ⟨ι1, σ, L1, h⟩
  | _ => exact h.no.elim
theorem e_and (ha : PE X a (tI X.K W ma)) (hb : PE X (.BoolOp .And (b :: rest) pos) (tI X.K W mb)) : PE X (.BoolOp .And (a :: b :: rest) pos) (tI X.K W (andM ma mb)) :=
  PE.imp (pe_and ha hb) fun σ H Q h => and_at h
theorem e_or (ha : PE X a (tI X.K W ma)) (hb : PE X (.BoolOp .Or (b :: rest) pos) (tI X.K W mb)) : PE X (.BoolOp .Or (a :: b :: rest) pos) (tI X.K W (orM ma mb)) :=
  PE.imp (pe_or ha hb) fun σ H Q h => or_at h
theorem tI_imp {K : PySem.W.Frag} {m : LSt → M LV} {σV : L2.St} {H : Hp} {Q Q' : VK} (h : tI K W m σV H Q) (q : ∀ v H', Q v H' → Q' v H') : tI K W m σV H Q' :=
  let ⟨ι, σ, L, h⟩ := h
  ⟨ι, σ, L, h.imp q⟩
theorem w_and (ha : PT X a (tT X.K W ma)) (hb : PW X (.BoolOp .And (b :: rest) pos) (tT X.K W mb)) : PW X (.BoolOp .And (a :: b :: rest) pos) (tT X.K W (andM ma mb)) :=
  PW.imp (pw_and ha hb) fun σ H Q h => tI_imp (and_at h) fun x H1 ⟨c, e, z⟩ => ⟨c, e, by
    cases c with
    | true => rw [if_pos rfl] at z ⊢; exact z
    | false =>
      rw [if_neg Bool.false_ne_true] at z ⊢
      obtain ⟨c', e', z⟩ := z
      cases e'
      exact z⟩
theorem w_or (ha : PT X a (tT X.K W ma)) (hb : PW X (.BoolOp .Or (b :: rest) pos) (tT X.K W mb)) : PW X (.BoolOp .Or (a :: b :: rest) pos) (tT X.K W (orM ma mb)) :=
  PW.imp (pw_or ha hb) fun σ H Q h => tI_imp (or_at h) fun x H1 ⟨c, e, z⟩ => ⟨c, e, by
    cases c with
    | false => rw [if_neg Bool.false_ne_true] at z ⊢; exact z
    | true =>
      rw [if_pos rfl] at z ⊢
      obtain ⟨c', e', z⟩ := z
      cases e'
      exact z⟩
theorem e_not (ha : PE X a (tI X.K W ma)) : PE X (.UnaryOp .Not a pos) (tI X.K W (notM ma)) := PE.imp (pe_not ha) fun σ H Q h => not_at h
theorem t_not (ha : PT X a (tT X.K W ma)) : PT X (.UnaryOp .Not a pos) (tT X.K W (notM ma)) :=
  PT.imp (pt_not ha) fun σ H Q h => tI_imp (not_at h) fun x H1 ⟨c, e, z⟩ => ⟨c, e, by
    obtain ⟨c', e', z⟩ := z
    cases e'
    exact z⟩
theorem e_ite (hc : PT X c (tT X.K W mc)) (ha : PE X a (tI X.K W ma)) (hb : PE X b (tI X.K W mb)) : PE X (.IfExp c a b pos) (tI X.K W (iteM mc ma mb)) :=
  PE.imp (pe_ifExp hc ha hb) fun σ H Q h => ite_at h

/-! ### names, constants -/
theorem e_var {i : Nat} {x : Str} (hN : X.N[i]? = some x) (hv : Vis X.env.scope x) (hd : (x == ("__debug__" : Str)) = false) (hcd : (x == ("__classdict__" : Str)) = false) : PE X (.Name x pos) (tI X.K W fun σ => getV σ i) :=
  PE.imp (pe_var hN hv hd hcd) fun σV H Q h => by
    obtain ⟨ι, σ, L, h⟩ := h
    have h : At X.K W (RVr X.K) σV σ ι L (getR σ[i]? L) Q H := h
    generalize e : σ[i]? = o at h
    cases o with
    | none => exact h.no.elim
    | some o =>
      cases o with
      | none => exact h.no.elim
      | some d =>
        obtain ⟨v, e1, r⟩ := h.rs.at_ i d e
        exact ⟨v, e1, h.ret r⟩
theorem e_int {i : Int} {j : Nat} : PE X (.Constant (.int i) j pos) (tI X.K W fun _ => M.ret (.int i)) := PE.imp pe_int fun σV H Q ⟨ι, σ, L, h⟩ => h.ret (.int i)
theorem e_str {s : Str} {j : Nat} : PE X (.Constant (.str s) j pos) (tI X.K W fun _ => M.ret (.str s)) := PE.imp pe_str fun σV H Q ⟨ι, σ, L, h⟩ => h.ret (.str s)
theorem e_bl {b : Bool} {j : Nat} : PE X (.Constant (.bool b) j pos) (tI X.K W fun _ => M.ret (.bl b)) := PE.imp pe_bl fun σV H Q ⟨ι, σ, L, h⟩ => h.ret (.bl b)
theorem e_non {j : Nat} : PE X (.Constant .none j pos) (tI X.K W fun _ => M.ret .non) := PE.imp pe_non fun σV H Q ⟨ι, σ, L, h⟩ => h.ret .non
/-- a module's constant -/
def RelC : LV → Value → Prop
  | .non, u => u = Value.none
  | .bl b, u => u = Value.bool b
  | .int i, u => ∃ t, u = Value.int i t
  | .str s, u => ∃ t, u = Value.str s t
  | _, _ => False
theorem e_glo {x : Str} {v : LV} {u : Value} (hg : Gl X x) (hm : X.mg x = some u) (r : RelC v u) (hd : (x == ("__debug__" : Str)) = false) : PE X (.Name x pos) (tI X.K W fun _ => M.ret v) := by
  cases v with
  | non => exact PE.imp (pe_glob (v := .non) hg hm r hd) fun σV H Q ⟨ι, σ, L, h⟩ => h.ret .non
  | bl b => exact PE.imp (pe_glob (v := .bl b) hg hm r hd) fun σV H Q ⟨ι, σ, L, h⟩ => h.ret (.bl b)
  | int b => exact PE.imp (pe_glob (v := .int b) hg hm r hd) fun σV H Q ⟨ι, σ, L, h⟩ => h.ret (.int b)
  | str b => exact PE.imp (pe_glob (v := .str b) hg hm r hd) fun σV H Q ⟨ι, σ, L, h⟩ => h.ret (.str b)
  | tup _ => exact False.elim r
  | ref _ => exact False.elim r

/-! ### lists of expressions -/
variable {ms : LSt → M (List LV)} {es : List Expr}
theorem a_nil : PA X [] (tIs X.K W fun _ => M.ret []) := PA.imp pa_nil fun σV H Q ⟨ι, σ, L, h⟩ => h.ret .nil
def consM (ma : LSt → M LV) (ms : LSt → M (List LV)) : LSt → M (List LV) := fun σ => M.bind (ma σ) fun x => M.bind (ms σ) fun xs => M.ret (x :: xs)
theorem a_cons (ha : PE X a (tI X.K W ma)) (hs : PA X es (tIs X.K W ms)) (he : starEach (a :: es) X.env = (false, eval a X.env) :: starEach es X.env) : PA X (a :: es) (tIs X.K W (consM ma ms)) :=
  PA.imp (pa_cons ha hs he) fun σV H Q h => by
    obtain ⟨ι, σ, L, h⟩ := h
    refine ⟨ι, σ, L, (h.bind (R := RVr X.K)).imp fun x H1 ⟨d, ι1, L1, r1, ev, h⟩ => ?_⟩
    refine ⟨ι1, σ, L1, (h.bind (R := RVsr X.K)).imp fun xs H2 ⟨ds, ι2, L2, r2, ev2, h⟩ => ?_⟩
    exact h.ret (.cons (r1.mono ev2) r2)
theorem e_tup {k : Nat} (hs : PA X es (tIs X.K W ms)) : PE X (.Tuple es k pos) (tI X.K W fun σ => M.bind (ms σ) fun xs => M.chk (small xs.length) (M.ret (.tup xs))) :=
  PE.imp (pe_tup hs) fun σV H Q h => by
    obtain ⟨ι, σ, L, h⟩ := h
    refine ⟨ι, σ, L, (h.bind (R := RVsr X.K)).imp fun xs H1 ⟨ds, ι1, L1, r1, ev, h⟩ => ?_⟩
    obtain ⟨c, h⟩ := h.chk
    exact ⟨by rw [r1.length]; exact line_of c, fun p hp => h.retF hp (tup_new hp r1)⟩
theorem e_lst (hs : PA X es (tIs X.K W ms)) : PE X (.List es pos) (tI X.K W fun σ => M.bind (ms σ) fun xs => M.chk (small xs.length) (new (.lst xs))) :=
  PE.imp (pe_lst hs) fun σV H Q h => by
    obtain ⟨ι, σ, L, h⟩ := h
    refine ⟨ι, σ, L, (h.bind (R := RVsr X.K)).imp fun xs H1 ⟨ds, ι1, L1, r1, ev, h⟩ => ?_⟩
    obtain ⟨c, h⟩ := h.chk
    exact ⟨by rw [r1.length]; exact line_of c, fun p hp => h.new hp (lst_new hp r1)⟩

/-! ### subscripts -/
theorem e_ix (G : Good X) (ha : PE X a (tI X.K W ma)) (hb : PE X b (tI X.K W mb)) (hs : PlainIx b) :
    PE X (.Subscript a b pos) (tI X.K W fun σ => M.bind (ma σ) fun x => M.bind (mb σ) fun y => ixV x y) :=
  PE.imp (pe_ix (ix_any G) ha hb hs) fun σ H Q h => two (fun h r1 r2 => ix_at h r1 r2) h
variable {lo hi : Option Expr} {ml mh : LSt → M (Option Int)} {p2 : Pos}
theorem o_none : PO X none (tIO X.K W fun _ => M.ret none) := PO.imp po_none fun σV H Q ⟨ι, σ, L, h⟩ => h.ret rfl
def partM (ma : LSt → M LV) : LSt → M (Option Int) := fun σ => M.bind (ma σ) fun x => match x with
    | .int i => M.ret (some i)
    | _ => M.no
theorem o_some (ha : PE X a (tI X.K W ma)) : PO X (some a) (tIO X.K W (partM ma)) :=
  PO.imp (po_some ha) fun σV H Q h => by
    obtain ⟨ι, σ, L, h⟩ := h
    refine ⟨ι, σ, L, (h.bind (R := RVr X.K)).imp fun x H1 ⟨d, ι1, L1, r1, ev, h⟩ => ?_⟩
    cases d with
    | int i => cases r1; exact ⟨i, rfl, h.ret rfl⟩
    | _ => exact h.no.elim
theorem e_slc (ha : PE X a (tI X.K W ma)) (hl : PO X lo (tIO X.K W ml)) (hh : PO X hi (tIO X.K W mh)) :
    PE X (.Subscript a (.Slice lo hi none p2) pos) (tI X.K W fun σ => M.bind (ma σ) fun x => M.bind (ml σ) fun l => M.bind (mh σ) fun h => slV x l h) :=
  PE.imp (pe_slice rSl_ok ha hl hh) fun σV H Q h => by
    obtain ⟨ι, σ, L, h⟩ := h
    refine ⟨ι, σ, L, (h.bind (R := RVr X.K)).imp fun x H1 ⟨d, ι1, L1, r1, ev, h⟩ => ?_⟩
    refine ⟨ι1, σ, L1, (h.bind (R := Eqr)).imp fun l H2 ⟨l', ι2, L2, r2, ev2, h⟩ => ?_⟩
    refine ⟨ι2, σ, L2, (h.bind (R := Eqr)).imp fun l3 H3 ⟨h', ι3, L3, r3, ev3, h⟩ => ?_⟩
    cases r2
    cases r3
    exact sl_at h ((r1.mono ev2).mono ev3)
theorem e_rev {k : Nat} {p1 p2 p3 : Pos} (ha : PE X a (tI X.K W ma)) : PE X (.Subscript a (.Slice none none (some (.UnaryOp .USub (.Constant (.int 1) k p1) p2)) p3) pos) (tI X.K W fun σ => M.bind (ma σ) revV) :=
  PE.imp (pe_back ha) fun σ H Q h => one (r := rRev X.K) (fun h r => rev_at h r) h

/-! ### built-ins, methods -/
theorem isTy_bi : ∀ b : Bi, (∃ id, biVal b = .builtin id) ∨ ∃ T, biVal b = .type T
  | .len | .repr | .reprB | .abs | .max | .min | .sum | .all | .any => .inl ⟨_, rfl⟩
  | .int | .str | .strB | .list | .tuple | .dict => .inr ⟨_, rfl⟩
theorem bi_name : ∀ b : Bi, biName b ≠ "__name__" ∧ (biName b == ("__debug__" : Str)) = false
  | .len | .repr | .reprB | .abs | .max | .min | .sum | .all | .any | .int | .str | .strB | .list | .tuple | .dict => by decide +kernel
theorem e_bi {p : Pos} (G : Good X) (bi : Bi) (hg : Gl X (biName bi)) (hm : X.mg (biName bi) = none) (hs : PA X (a :: es) (tIs X.K W ms)) (he : starEach (a :: es) X.env = (false, eval a X.env) :: starEach es X.env) (hpl : (backTo pos (starEach es X.env)).any (·.1) = false) :
    PE X (.Call (.Name (biName bi) p) (a :: es) [] pos) (tI X.K W fun σ => M.bind (ms σ) fun xs => biV bi xs) := by
  have go : ∀ σV H Q, tI X.K W (fun σ => M.bind (ms σ) fun xs => biV bi xs) σV H Q → tCB (rBi X.K bi) (tIs X.K W ms) σV H Q := fun σV H Q h => by
    obtain ⟨ι, σ, L, h⟩ := h
    exact ⟨ι, σ, L, (h.bind (R := RVsr X.K)).imp fun xs H1 ⟨ds, ι1, L1, r1, ev, h⟩ => bi_at h r1⟩
  have ok := rBi_ok G bi
  have hv := bi_boot bi
  obtain ⟨n1, n2⟩ := bi_name bi
  rcases isTy_bi bi with ⟨id, e⟩ | ⟨T, e⟩
  · rw [e] at ok hv
    exact PE.imp (pe_callB ok hg hm hv hs n1 n2 he hpl) go
  · rw [e] at ok hv
    exact PE.imp (pe_callTy ok hg hm hv hs n1 n2 he hpl) go
theorem ty_name : ∀ t : Ty, Str.ofString (tyName t) ≠ "__name__" ∧ (Str.ofString (tyName t) == ("__debug__" : Str)) = false
  | .int | .bool | .str | .tuple | .list | .dict => by decide +kernel
theorem boot_isi : bootBuiltins "isinstance" = some (.builtin "isinstance") := by decide +kernel
theorem e_isi {p p' : Pos} (t : Ty) (hg : Gl X "isinstance") (hm : X.mg "isinstance" = none) (hg' : Gl X (Str.ofString (tyName t))) (hm' : X.mg (Str.ofString (tyName t)) = none) (ha : PE X a (tI X.K W ma))
    (he : starEach [a, .Name (Str.ofString (tyName t)) p'] X.env = (false, eval a X.env) :: starEach [.Name (Str.ofString (tyName t)) p'] X.env) :
    PE X (.Call (.Name "isinstance" p) [a, .Name (Str.ofString (tyName t)) p'] [] pos) (tI X.K W fun σ => M.bind (ma σ) fun x => isiV x t) := by
  obtain ⟨n1, n2⟩ := ty_name t
  have hT : PE X (.Name (Str.ofString (tyName t)) p') (tC (.ty (tyName t))) := pe_bltn (v := .ty (tyName t)) hg' hm' (ty_boot t) rfl n1 n2
  refine PE.imp (pe_callB isi_any hg hm boot_isi (pa_cons ha (pa_cons hT pa_nil) he) (by decide) (by decide) he rfl) fun σV H Q h => ?_
  obtain ⟨ι, σ, L, h⟩ := h
  exact ⟨ι, σ, L, (h.bind (R := RVr X.K)).imp fun x H1 ⟨d, ι1, L1, r1, ev, h⟩ => isi_at h r1⟩
theorem slot_mt : ∀ m : Mth, PySem.Slot "list" (mtName m) (mtId m) ∧ typeOf (.builtin (mtId m)) = pure (.type "method_descriptor")
  | .append => ⟨PySem.F.slot_list_append, PySem.F.type_list_append⟩
  | .pop => ⟨PySem.F.slot_list_pop, PySem.F.type_list_pop⟩
  | .extend => ⟨PySem.F.slot_list_extend, PySem.F.type_list_extend⟩
  | .index => ⟨PySem.F.slot_list_index, PySem.F.type_list_index⟩
  | .count => ⟨PySem.F.slot_list_count, PySem.F.type_list_count⟩
def mthM (m : Mth) (mo : LSt → M LV) (ms : LSt → M (List LV)) : LSt → M LV := fun σ => M.bind (mo σ) fun x => M.look (fun L => lstAt L x) fun _ => M.bind (ms σ) fun xs => mthV m x xs
theorem e_mth {o : Expr} {mo : LSt → M LV} {apos cpos : Pos} (m : Mth) (ho : PE X o (tI X.K W mo)) (hs : PA X (a :: es) (tIs X.K W ms)) (hbase : attributeBase o (mtName m) X.env (eval o X.env) = eval o X.env)
    (hfew : ((backTo cpos (starEach (a :: es) X.env)).all (fun x => !x.1) && (backToKw cpos (keywordEach [] X.env)).all (fun x => x.1.isSome)
      && decide ((a :: es).length + ([] : List Keyword).length + (if ([] : List Keyword).isEmpty then 0 else 1) < 30)) = true)
    (hline : (apos.endLine == cpos.line) = true) (he : starEach (a :: es) X.env = (false, eval a X.env) :: starEach es X.env) (hpl : (backTo cpos (starEach es X.env)).any (·.1) = false) :
    PE X (.Call (.Attribute o (mtName m) apos) (a :: es) [] cpos) (tI X.K W (mthM m mo ms)) := by
  obtain ⟨s1, s2⟩ := slot_mt m
  refine PE.imp (pe_bm PySem.F.plainAttrs_list s1 s2 (rMt_ok m) ho hs hbase hfew hline he hpl) fun σV H Q h => ?_
  obtain ⟨ι, σ, L, h⟩ := h
  refine ⟨ι, σ, L, (h.bind (R := RVr X.K)).imp fun x H1 ⟨d, ι1, L1, r1, ev, h⟩ => ?_⟩
  obtain ⟨u, e, h⟩ := At.look (g := fun L => lstAt L d) h
  exact ⟨lst_ty h.rep e r1, ι1, σ, L1, (h.bind (R := RVsr X.K)).imp fun xs H2 ⟨ds, ι2, L2, r2, ev2, h⟩ => (mth_at h (r1.mono ev2) r2).2⟩
theorem e_mth0 {o : Expr} {mo : LSt → M LV} {apos cpos : Pos} (m : Mth) (ho : PE X o (tI X.K W mo)) (hbase : attributeBase o (mtName m) X.env (eval o X.env) = eval o X.env) (hline : (apos.endLine == cpos.line) = true) :
    PE X (.Call (.Attribute o (mtName m) apos) [] [] cpos) (tI X.K W (mthM m mo fun _ => M.ret [])) := by
  obtain ⟨s1, s2⟩ := slot_mt m
  refine PE.imp (pe_bm0 PySem.F.plainAttrs_list s1 s2 (rMt_ok m) ho hbase hline) fun σV H Q h => ?_
  obtain ⟨ι, σ, L, h⟩ := h
  refine ⟨ι, σ, L, (h.bind (R := RVr X.K)).imp fun x H1 ⟨d, ι1, L1, r1, ev, h⟩ => ?_⟩
  obtain ⟨u, e, h⟩ := At.look (g := fun L => lstAt L d) h
  exact mth_at h r1 .nil
end
end Mv

/-! Mv7b: len(set(x)), list(range(..)), x in range(..). -/
namespace Mv
open PySem PySem.Spec PyProof.Rows L2
section
variable {X : Cx} {W : XW} {a b c : Expr} {ma mb mc : LSt → M LV} {pos p p2 q : Pos}
theorem e_lset (G : Good X) (hg : Gl X "len") (hm : X.mg "len" = none) (hg2 : Gl X "set") (hm2 : X.mg "set" = none) (ha : PE X a (tI X.K W ma)) (na : starEach [a] X.env = (false, eval a X.env) :: starEach [] X.env) :
    PE X (.Call (.Name "len" p) [.Call (.Name "set" p2) [a] [] q] [] pos) (tI X.K W fun σ => M.bind (ma σ) lsetV) :=
  PE.imp (pe_lenSet' hg hm hg2 hm2 ha G.calm na) fun σV H Q h => by
    obtain ⟨ι, σ, L, h⟩ := h
    refine ⟨ι, σ, L, (h.bind (R := RVr X.K)).imp fun x H1 ⟨d, ι1, L1, r1, ev, h⟩ => ?_⟩
    obtain ⟨ns, e, h⟩ := At.look (g := fun L => (Mv.items L d).bind intL) h
    obtain ⟨c, h⟩ := At.chk h
    obtain ⟨ys, e1, e2⟩ := Option.bind_eq_some_iff.mp e
    obtain ⟨l, xs, rfl, hs, hr⟩ := h.rep.seq r1 e1
    rw [hr.toInts e2] at hs
    exact ⟨l, ns, rfl, hs, of_decide_eq_true c, h.ret (.int _)⟩
theorem rg_rel {K : PySem.W.Frag} {H : Hp} {ι : Nat → Addr} {n : Nat} (a b : Int) : RVs K H ι n (rgV a b) ((List.range (b - a).toNat).map fun (i : Nat) => LV.int (a + (i : Int))) := by
  unfold rgV
  generalize List.range (b - a).toNat = l
  induction l with
  | nil => exact .nil
  | cons x l ih => exact .cons (.int _) ih
theorem rgl_at {K : PySem.W.Frag} {σV : L2.St} {σ : LSt} {ι : Nat → Addr} {L : LH} {H : Hp} {Q : VK} {t : Bool} {i j : Int} (h : At K W (RVr K) σV σ ι L (rglV t i j L) Q H) :
    RgOk i j ∧ ∀ q, H q = none → Q (.ref q) (upd H q (if t then .tup (rgV i j) else .lst (rgV i j))) := by
  obtain ⟨c, h⟩ := At.chk h
  have c' := of_decide_eq_true c
  refine ⟨⟨c'.1, c'.2.1, c'.2.2.1, c'.2.2.2.1, c'.2.2.2.2⟩, fun q hq => ?_⟩
  cases t with
  | true =>
    rw [if_pos rfl] at h ⊢
    exact h.retF hq (tup_new hq (rg_rel i j))
  | false =>
    rw [if_neg Bool.false_ne_true] at h ⊢
    exact h.new hq (lst_new hq (rg_rel i j))
theorem e_rgl1 (G : Good X) (t : Bool) (hg : Gl X (if t then "tuple" else "list")) (hm : X.mg (if t then "tuple" else "list") = none) (hg2 : Gl X "range") (hm2 : X.mg "range" = none) (ha : PE X a (tI X.K W ma)) (na : starEach [a] X.env = (false, eval a X.env) :: starEach [] X.env)
    (nb : starEach [.Call (.Name "range" p2) [a] [] q] X.env = (false, eval (.Call (.Name "range" p2) [a] [] q) X.env) :: starEach [] X.env) :
    PE X (.Call (.Name (if t then "tuple" else "list") p) [.Call (.Name "range" p2) [a] [] q] [] pos) (tI X.K W fun σ => M.bind (ma σ) (rgl1K t)) := by
  have go : ∀ σV H Q, tI X.K W (fun σ => M.bind (ma σ) (rgl1K t)) σV H Q → tRg1 (tI X.K W ma) σV H fun a b H1 => RgOk a b ∧ ∀ q, H1 q = none → Q (.ref q) (upd H1 q (if t then .tup (rgV a b) else .lst (rgV a b))) := fun σV H Q h => by
    obtain ⟨ι, σ, L, h⟩ := h
    refine ⟨ι, σ, L, (h.bind (R := RVr X.K)).imp fun x H1 ⟨d, ι1, L1, r1, ev, h⟩ => ?_⟩
    cases d with
    | int n => cases r1; exact ⟨n, rfl, rgl_at h⟩
    | _ => exact h.no.elim
  cases t with
  | true => exact PE.imp (pe_tupRg G.calm hg hm (prg_1 hg2 hm2 ha na) nb) go
  | false => exact PE.imp (pe_listRg G.calm hg hm (prg_1 hg2 hm2 ha na) nb) go
theorem e_rgl2 (G : Good X) (t : Bool) (hg : Gl X (if t then "tuple" else "list")) (hm : X.mg (if t then "tuple" else "list") = none) (hg2 : Gl X "range") (hm2 : X.mg "range" = none) (ha : PE X a (tI X.K W ma)) (hb : PE X b (tI X.K W mb)) (na : starEach [a, b] X.env = (false, eval a X.env) :: starEach [b] X.env)
    (nb : starEach [.Call (.Name "range" p2) [a, b] [] q] X.env = (false, eval (.Call (.Name "range" p2) [a, b] [] q) X.env) :: starEach [] X.env)
    (nc : starEach [b] X.env = (false, eval b X.env) :: starEach [] X.env) (hpl : (backTo q (starEach [b] X.env)).any (·.1) = false) : PE X (.Call (.Name (if t then "tuple" else "list") p) [.Call (.Name "range" p2) [a, b] [] q] [] pos) (tI X.K W fun σ => M.bind (ma σ) fun x => M.bind (mb σ) fun y => rgl2K t x y) := by
  have go : ∀ σV H Q, tI X.K W (fun σ => M.bind (ma σ) fun x => M.bind (mb σ) fun y => rgl2K t x y) σV H Q → tRg2 (tI X.K W ma) (tI X.K W mb) σV H fun a b H1 => RgOk a b ∧ ∀ q, H1 q = none → Q (.ref q) (upd H1 q (if t then .tup (rgV a b) else .lst (rgV a b))) := fun σV H Q h => by
    obtain ⟨ι, σ, L, h⟩ := h
    refine ⟨ι, σ, L, (h.bind (R := RVr X.K)).imp fun x H1 ⟨d, ι1, L1, r1, ev, h⟩ => ?_⟩
    refine ⟨ι1, σ, L1, (h.bind (R := RVr X.K)).imp fun y H2 ⟨e, ι2, L2, r2, ev2, h⟩ => ?_⟩
    cases d with
    | int n =>
      cases e with
      | int m => cases r1; cases r2; exact ⟨n, m, rfl, rfl, rgl_at h⟩
      | _ => exact h.no.elim
    | _ => exact h.no.elim
  cases t with
  | true => exact PE.imp (pe_tupRg G.calm hg hm (prg_2 hg2 hm2 ha hb na nc hpl) nb) go
  | false => exact PE.imp (pe_listRg G.calm hg hm (prg_2 hg2 hm2 ha hb na nc hpl) nb) go
def inrM (ma mb mc : LSt → M LV) : LSt → M LV := fun σ => M.bind (ma σ) fun u => M.bind (mb σ) fun v => M.bind (mc σ) fun w => inrV u v w
abbrev rInR : R2 := fun x y H Q => ∃ i a lo hi, x = V.int i ∧ y = V.ref a ∧ H a = some (.rng lo hi) ∧ Q (.bl (decide (lo ≤ i ∧ i < hi))) H
abbrev rRng2 : List V → Hp → VK → Prop := fun vs H Q => ∃ i j, vs = [V.int i, V.int j] ∧ ∀ p, H p = none → Q (.ref p) (upd H p (.rng i j))
theorem inr_at {σV : L2.St} {H : Hp} {Q : VK} {K : PySem.W.Frag} (h : tI K W (inrM ma mb mc) σV H Q) : tOp rInR (tI K W ma) (tCB rRng2 (tCons (tI K W mb) (tCons (tI K W mc) tNil))) σV H Q := by
  obtain ⟨ι, σ, L, h⟩ := h
  refine ⟨ι, σ, L, (h.bind (R := RVr K)).imp fun x H1 ⟨d, ι1, L1, r1, ev, h⟩ => ?_⟩
  refine ⟨ι1, σ, L1, (h.bind (R := RVr K)).imp fun y H2 ⟨e, ι2, L2, r2, ev2, h⟩ => ?_⟩
  refine ⟨ι2, σ, L2, (h.bind (R := RVr K)).imp fun z H3 ⟨f, ι3, L3, r3, ev3, h⟩ => ?_⟩
  cases d with
  | int i =>
    cases e with
    | int j =>
      cases f with
      | int k =>
        cases r1
        cases r2
        cases r3
        exact ⟨j, k, rfl, fun p hp => ⟨i, p, j, k, rfl, rfl, upd_same, h.retF hp (.bl _)⟩⟩
      | _ => exact h.no.elim
    | _ => exact h.no.elim
  | _ => exact h.no.elim
theorem pe_rng2 (hg : Gl X "range") (hm : X.mg "range" = none) (hb : PE X b (tI X.K W mb)) (hc : PE X c (tI X.K W mc)) (na : starEach [b, c] X.env = (false, eval b X.env) :: starEach [c] X.env) (nc : starEach [c] X.env = (false, eval c X.env) :: starEach [] X.env) (hpl : (backTo q (starEach [c] X.env)).any (·.1) = false) :
    PE X (.Call (.Name "range" p) [b, c] [] q) (tCB rRng2 (tCons (tI X.K W mb) (tCons (tI X.K W mc) tNil))) :=
  pe_callTy cr_range2 hg hm (by decide +kernel) (pa_cons hb (pa_cons hc pa_nil nc) na) (by decide) (by decide) na hpl
theorem e_inr (ha : PE X a (tI X.K W ma)) (hg : Gl X "range") (hm : X.mg "range" = none) (hb : PE X b (tI X.K W mb)) (hc : PE X c (tI X.K W mc)) (na : starEach [b, c] X.env = (false, eval b X.env) :: starEach [c] X.env) (nc : starEach [c] X.env = (false, eval c X.env) :: starEach [] X.env) (hpl : (backTo q (starEach [c] X.env)).any (·.1) = false)
    (hmk : behindInMarks .In (.Call (.Name "range" p) [b, c] [] q) = false) : PE X (.Compare a [.In] [.Call (.Name "range" p) [b, c] [] q] pos) (tI X.K W (inrM ma mb mc)) :=
  PE.imp (pe_cmpR op_in_rng ha (pe_rng2 hg hm hb hc na nc hpl) hmk) fun σV H Q h => inr_at h
theorem t_inr (ha : PE X a (tI X.K W ma)) (hg : Gl X "range") (hm : X.mg "range" = none) (hb : PE X b (tI X.K W mb)) (hc : PE X c (tI X.K W mc)) (na : starEach [b, c] X.env = (false, eval b X.env) :: starEach [c] X.env) (nc : starEach [c] X.env = (false, eval c X.env) :: starEach [] X.env) (hpl : (backTo q (starEach [c] X.env)).any (·.1) = false)
    (hmk : behindInMarks .In (.Call (.Name "range" p) [b, c] [] q) = false) : PT X (.Compare a [.In] [.Call (.Name "range" p) [b, c] [] q] pos) (tT X.K W (inrM ma mb mc)) :=
  PT.imp (pt_cmpR op_in_rng ha (pe_rng2 hg hm hb hc na nc hpl) hmk) fun σV H Q h => inr_at h

/-! a range with a step -/
theorem srcR_rngC {n : Nat} {K : PySem.W.Frag} {H : Hp} {ι : Nat → Addr} (lo c : Int) (k : Nat) : SrcR K H ι n (Itc lo c k) (rngC lo c k) := by
  intro H' ι' L' ev rp
  refine ⟨fun i d e => ?_, fun _ => ?_⟩
  · have e : ((List.range k).map fun (j : Nat) => LV.int (lo + (j : Int) * c))[i]? = some d := e
    rw [List.getElem?_map] at e
    obtain ⟨j, e1, e2⟩ := Option.map_eq_some_iff.mp e
    subst e2
    have hi := (List.getElem?_eq_some_iff.mp e1).1
    rw [List.length_range] at hi
    rw [List.getElem?_range hi] at e1
    cases e1
    refine ⟨hi, fun x H2 y => ?_⟩
    obtain ⟨rfl, rfl⟩ := y
    exact ⟨Ev.refl, rp, .int _⟩
  · show k ≤ ((List.range k).map _).length
    rw [List.length_map, List.length_range]
    exact Nat.le_refl _
theorem rgC_pos {i j c : Int} (h1 : -(2 ^ 62) ≤ i ∧ i < 2 ^ 62) (h2 : -(2 ^ 62) ≤ j ∧ j < 2 ^ 62) (hc : 0 < c ∧ c < 1073741824) : RgC i j c ((j - i + (c - 1)) / c).toNat := by
  have hs : Builtin.Range.rangeSize i j c = (((j - i + (c - 1)) / c).toNat : Int) := by
    unfold Builtin.Range.rangeSize
    rw [if_pos hc.1]
    split
    · rename_i h
      have e : j - i + (c - 1) = (j - i - 1) + c := by omega
      rw [e, Int.add_ediv_of_dvd_right (Int.dvd_refl c), Int.ediv_self (by omega)]
      have : 0 ≤ (j - i - 1) / c := Int.ediv_nonneg (by omega) (by omega)
      omega
    · rename_i h
      have : (j - i + (c - 1)) / c ≤ 0 := by
        have h3 : (j - i + (c - 1)) / c < 1 := Int.ediv_lt_of_lt_mul hc.1 (by omega)
        omega
      omega
  refine ⟨by omega, by omega, ?_, hs⟩
  have hle : 0 ≤ Builtin.Range.rangeSize i j c ∧ Builtin.Range.rangeSize i j c ≤ 9223372036854775807 := by
    unfold Builtin.Range.rangeSize
    rw [if_pos hc.1]
    split
    · rename_i h
      have h3 : (j - i - 1) / c ≤ j - i - 1 := Int.ediv_le_self _ (by omega)
      have h4 : 0 ≤ (j - i - 1) / c := Int.ediv_nonneg (by omega) (by omega)
      omega
    · omega
  unfold Builtin.Range.small
  simp only [Builtin.Range.rangeFitsLong, Bool.and_eq_true, Bool.or_eq_true, decide_eq_true_eq, beq_iff_eq, if_pos hc.1]
  refine ⟨⟨⟨⟨⟨by omega, by omega⟩, by omega, by omega⟩, by omega, by omega⟩, by omega, by omega⟩, .inr ⟨by omega, by omega⟩⟩
end
end Mv

/-! Mv8: dict displays, calls of defs, targets, what is walked. -/
namespace Mv
open PySem PySem.Spec PyProof.Rows L2

section
variable {α β : Type} {K : PySem.W.Frag} {W : XW} {R : Rl α β} {σV : L2.St} {σ : LSt} {ι : Nat → Addr} {L : LH} {H : Hp} {Q : β → Hp → Prop}
/-- a new object, then on -/
theorem At.newB {f : LV → M α} {o : LO} {u : HO} {p : Addr} (h : At K W R σV σ ι L (M.bind (Mv.new o) f L) Q H) (hp : H p = Option.none) (q : RO K (upd H p u) (ext ι L.length p) (L.length + 1) p o) :
    At K W R σV σ (ext ι L.length p) (L ++ [o]) (f (.ref L.length) (L ++ [o])) Q (upd H p u) := by
  obtain ⟨a, b, o1, e, z⟩ := h
  have ev : Ev K ι H L.length (ext ι L.length p) (upd H p u) (L ++ [o]).length := by
    rw [List.length_append, List.length_singleton]
    exact Ev.new hp
  have e : f (.ref L.length) (L ++ [o]) = some o1 := e
  refine ⟨a.new hp q, b.mono ev, o1, e, ?_⟩
  cases o1 with
  | ok d L' => exact fun ι2 H2 v2 ev2 rp2 rv2 => z ι2 H2 v2 (ev.trans ev2) rp2 rv2
  | ex c fs L' => exact fun ι2 H2 ev2 rp2 => z ι2 H2 (ev.trans ev2) rp2
end

/-! ### dict displays -/
def msOf : List (LSt → M LV) → LSt → M (List LV)
  | [] => fun _ => M.ret []
  | m :: r => consM m (msOf r)
def trsOf (K : PySem.W.Frag) (W : XW) (ks : List Key) (ms : List (LSt → M LV)) : List (TE × TE) := List.zipWith (fun k m => (tC (kV k), tI K W m)) ks ms
section
variable {K : PySem.W.Frag} {W : XW}
theorem pairs_at : ∀ (ks : List Key) (ms : List (LSt → M LV)) {σV : L2.St} {σ : LSt} {ι : Nat → Addr} {L : LH} {H : Hp} {f : List LV → M LV} {Q : VK}, ks.length = ms.length → At K W (RVr K) σV σ ι L (M.bind (msOf ms σ) f L) Q H →
    tPairs (trsOf K W ks ms) σV H fun ps H2 => ∃ vs ds ι2 L2, ps = (ks.zip vs).map (fun kv => (kV kv.1, kv.2)) ∧ vs.length = ks.length ∧ RVs K H2 ι2 L2.length vs ds ∧ Ev K ι H L.length ι2 H2 L2.length ∧ At K W (RVr K) σV σ ι2 L2 (f ds L2) Q H2
  | [], [], σV, σ, ι, L, H, f, Q, _, h => ⟨[], [], ι, L, rfl, rfl, .nil, Ev.refl, h⟩
  | [], _ :: _, _, _, _, _, _, _, _, e, _ => by cases e
  | _ :: _, [], _, _, _, _, _, _, _, e, _ => by cases e
  | k :: ks, m :: ms, σV, σ, ι, L, H, f, Q, e, h => by
    show tPairs ((tC (kV k), tI K W m) :: trsOf K W ks ms) σV H _
    show tI K W m σV H fun y H2 => tPairs (trsOf K W ks ms) σV H2 _
    have h : At K W (RVr K) σV σ ι L (M.bind (m σ) (fun x => M.bind (msOf ms σ) fun xs => f (x :: xs)) L) Q H := by
      have e : M.bind (msOf (m :: ms) σ) f L = M.bind (m σ) (fun x => M.bind (msOf ms σ) fun xs => f (x :: xs)) L := by
        show M.bind (M.bind (m σ) fun x => M.bind (msOf ms σ) fun xs => M.ret (x :: xs)) f L = _
        rw [M.bind_bind]
        simp only [M.bind_bind, M.bind_ret]
      rw [← e]
      exact h
    refine ⟨ι, σ, L, (h.bind (R := RVr K)).imp fun y H1 ⟨d, ι1, L1, r1, ev, h⟩ => ?_⟩
    have ih := pairs_at ks ms (by simpa using e) h
    refine tPairs_imp ih fun ps H2 ⟨vs, ds, ι2, L2, e1, e2, r2, ev2, h⟩ => ?_
    exact ⟨y :: vs, d :: ds, ι2, L2, by rw [e1]; rfl, by rw [List.length_cons, List.length_cons, e2], .cons (r1.mono ev2) r2, ev.trans ev2, h⟩
where
  tPairs_imp : ∀ {ks : List Key} {ms : List (LSt → M LV)} {σV : L2.St} {H : Hp} {Q Q' : List (V × V) → Hp → Prop}, tPairs (trsOf K W ks ms) σV H Q → (∀ ps H', Q ps H' → Q' ps H') → tPairs (trsOf K W ks ms) σV H Q'
    | [], _, _, _, _, _, h, q => q _ _ h
    | _ :: _, [], _, _, _, _, h, q => q _ _ h
    | k :: ks, m :: ms, σV, H, Q, Q', h, q => by
      obtain ⟨ι, σ, L, h⟩ := (show tI K W m σV H (fun y H2 => tPairs (trsOf K W ks ms) σV H2 fun ps H3 => Q ((kV k, y) :: ps) H3) from h)
      show tI K W m σV H fun y H2 => tPairs (trsOf K W ks ms) σV H2 fun ps H3 => Q' ((kV k, y) :: ps) H3
      exact ⟨ι, σ, L, h.imp fun y H2 z => tPairs_imp z fun ps H' w => q _ _ w⟩
theorem merge_rel {H : Hp} {ι : Nat → Addr} {n : Nat} : ∀ {ks : List Key} {vs : List V} {ds : List LV} {as : List (Key × V)} {bs : List (Key × LV)}, RVs K H ι n vs ds → RKV K H ι n as bs → RKV K H ι n (mergeK as (ks.zip vs)) (dmerge bs (ks.zip ds))
  | [], _, _, _, _, _, q => q
  | _ :: _, [], _, _, _, r, q => by cases r; exact q
  | k :: ks, v :: vs, _, _, _, r, q => by
    cases r with
    | cons r1 r2 =>
      show RKV K H ι n (mergeK (putK _ k v) (ks.zip vs)) (dmerge (dput _ k _) (ks.zip _))
      exact merge_rel r2 (RKV.put r1 q)
end
def dctM (ks : List Key) (ms : LSt → M (List LV)) : LSt → M LV := fun σ => M.bind (new (.dic [])) fun d => M.bind (ms σ) fun xs => match d with
    | .ref n => fun L => dctR n (dmerge [] (ks.zip xs)) L[n]? L
    | _ => M.no
section
variable {X : Cx} {W : XW} {pos : Pos}
theorem e_dct0 : PE X (.Dict [] [] pos) (tI X.K W fun _ => new (.dic [])) :=
  PE.imp pe_dnewK fun σV H Q ⟨ι, σ, L, h⟩ p hp => h.new hp ⟨[], upd_same, .nil⟩
theorem e_dct {keys : List (Option Expr)} {values : List Expr} {ks : List Key} {ms : List (LSt → M LV)} (h : PPs X pos keys values (trsOf X.K W ks ms)) (hall : keys.all (·.isSome) = true) (hl : keys.length = values.length) (h0 : keys ≠ []) (h15 : keys.length ≤ 15)
    (hk : ks.length = keys.length) (hm : ms.length = keys.length) : PE X (.Dict keys values pos) (tI X.K W (dctM ks (msOf ms))) := by
  refine PE.imp (pe_disp h hall hl h0 h15) fun σV H Q ⟨ι, σ, L, h⟩ p hp => ?_
  have h1 := h.newB (u := .dK []) hp ⟨[], upd_same, .nil⟩
  have h2 := pairs_at ks ms (by rw [hk, hm]) h1
  refine pairs_at.tPairs_imp h2 fun ps H2 ⟨vs, ds, ι2, L2, e1, e2, r2, ev2, h⟩ => ?_
  have h : At X.K W (RVr X.K) σV σ ι2 L2 (dctR L.length (dmerge [] (ks.zip ds)) L2[L.length]? L2) Q H2 := h
  have hn : L.length < (L ++ [LO.dic []]).length := by rw [List.length_append, List.length_singleton]; omega
  have ep : ι2 L.length = p := by rw [ev2.pl _ hn, ext_eq]
  generalize eL : L2[L.length]? = o at h
  cases o with
  | none => exact h.no.elim
  | some o =>
    cases o with
    | dic kvs =>
      cases kvs with
      | cons _ _ => exact h.no.elim
      | nil =>
        obtain ⟨ys, h3, r3⟩ := h.rep.ob _ _ eL
        cases r3
        rw [ep] at h3
        refine ⟨h3, ks.zip vs, e1, ?_, ?_⟩
        · rw [List.length_zip, e2, hk]
          omega
        · have ev3 : Ev X.K ι2 H2 L2.length ι2 (upd H2 p (.dK (mergeK [] (ks.zip vs)))) L2.length := Ev.set h3 trivial
          have q : RO X.K (upd H2 (ι2 L.length) (.dK (mergeK [] (ks.zip vs)))) ι2 L2.length (ι2 L.length) (.dic (dmerge [] (ks.zip ds))) := by
            rw [ep]
            exact ⟨_, upd_same, merge_rel (r2.mono ev3) .nil⟩
          have h : At X.K W (RVr X.K) σV σ ι2 L2 (M.bind (setO L.length (.dic (dmerge [] (ks.zip ds)))) (fun _ => M.ret (.ref L.length)) L2) Q H2 := h
          have h := At.put (o' := .dic (dmerge [] (ks.zip ds))) (u := .dK (mergeK [] (ks.zip vs))) h eL rfl rfl q
          rw [ep] at h
          refine h.ret ?_
          have z : RV X.K (upd H2 p (.dK (mergeK [] (ks.zip vs)))) ι2 (L2.set L.length (LO.dic (dmerge [] (ks.zip ds)))).length (.ref (ι2 L.length)) (.ref L.length) := .ref _ (by rw [List.length_set]; exact get_lt eL)
          rw [ep] at z
          exact z
    | _ => exact h.no.elim
end

/-! ### calls of defs -/
/-- the def at f does what R says, calls nested k deep at most -/
structure FnG (P : Program) (w : World) (K : PySem.W.Frag) (mg : Str → Option Value) (base : Heap) (k : Nat) (f : Addr) (fd : FuncData) (ps : List Str) (R : List LV → M LV) : Prop where
  run : ∀ (W : XW) (A : Around) (outer : List Env) (s : Shared) (H : Hp) (args : Args) (us : List Value) (vs : List V) (ds : List LV) (ι : Nat → Addr) (L : LH) (Q : VK), Room (3 * k) A → A.guards = some [] → Env0 P w K mg base A outer s H →
    BindsTo s fd args (ps.zip us) → us.length = ps.length → Vals vs us → RVs K H ι L.length vs ds → At K W (RVr K) [] [] ι L (R ds L) Q H → codeAny (model P w) A (.call (.ref f) args) (CR CX0 outer P w H s Q E0) s
/-- how a call with np values by position and the names ks binds -/
def BindOk (K : PySem.W.Frag) (fd : FuncData) (ps : List Str) (np : Nat) (ks : List Str) (perm : List Nat) : Prop :=
  ∀ (s : Shared) (us ws zs : List Value), K.In s.heap → us.length = np → ws.length = ks.length → permG (us ++ ws) perm = some zs → BindsTo s fd ⟨us, ks.zip ws⟩ (ps.zip zs) ∧ zs.length = ps.length
theorem perm_rel {K : PySem.W.Frag} {H : Hp} {ι : Nat → Addr} {n : Nat} {vs : List V} {us : List Value} {ds : List LV} (r : Vals vs us) (q : RVs K H ι n vs ds) : ∀ {perm : List Nat} {zs : List LV}, permG ds perm = some zs → ∃ ws xs, permG us perm = some xs ∧ Vals ws xs ∧ RVs K H ι n ws zs
  | [], _, e => by cases e; exact ⟨[], [], rfl, .nil, .nil⟩
  | i :: perm, zs, e => by
    unfold permG at e
    cases e1 : ds[i]? with
    | none => rw [e1] at e; cases e
    | some d =>
      cases e2 : permG ds perm with
      | none => rw [e1, e2] at e; cases e
      | some ys =>
        rw [e1, e2] at e
        cases e
        obtain ⟨v, hv, rv⟩ := q.get e1
        obtain ⟨u, hu, ru⟩ := r.get hv
        obtain ⟨ws, xs, h1, h2, h3⟩ := perm_rel r q e2
        exact ⟨v :: ws, u :: xs, by unfold permG; rw [hu, h1], .cons ru h2, .cons rv h3⟩
def callM (R : List LV → M LV) (ms mk : LSt → M (List LV)) (perm : List Nat) : LSt → M LV := fun σ => M.bind (ms σ) fun xs => M.bind (mk σ) fun ys => M.ofO (permG (xs ++ ys) perm) fun zs => R zs
section
variable {X : Cx} {W : XW} {pos p : Pos} {x : Str} {f : Addr} {fd : FuncData} {ps ks : List Str} {k np : Nat} {R : List LV → M LV} {perm : List Nat} {ms mk : LSt → M (List LV)} {a : Expr} {es : List Expr} {kws : List Keyword}
theorem run_fn {pins : List (Addr × Obj)} {σV : L2.St} {σ : LSt} {H : Hp} {s : Shared} {ι : Nat → Addr} {L : LH} {Q : VK} {us ws : List Value} {vs : List V} {ds : List LV} (G : Good X) (F : FnG X.prog X.w X.K X.mg X.base k f fd ps R) (hr : Room (3 * k + 2) X.A)
    (hb : BindOk X.K fd ps np ks perm) (I : Inv X pins σV H s) (hu : us.length = np) (hw : ws.length = ks.length) (r : Vals vs (us ++ ws)) (q : RVs X.K H ι L.length vs ds)
    (h : At X.K W (RVr X.K) σV σ ι L (M.ofO (permG ds perm) (fun zs => R zs) L) Q H) : wpAny (model X.prog X.w) X.A (call (.ref f) us (ks.zip ws)) (EP X pins σV Q) X.xe s := by
  obtain ⟨zs, e, h⟩ := h.ofO
  obtain ⟨ws', xs, h1, h2, h3⟩ := perm_rel r q e
  obtain ⟨b1, b2⟩ := hb s us ws xs I.kIn hu hw h1
  have h' : At X.K (fun c fs L' ι' H' _ => W c fs L' ι' H' σV) (RVr X.K) [] [] ι L (R zs L) Q H := ⟨h.rep, ⟨rfl, fun i d e => by simp at e⟩, h.go⟩
  refine wpAny_call (codeAny_mono (F.run _ X.A X.stack s H ⟨us, ks.zip ws⟩ xs ws' zs ι L Q (hr.mono (by omega)) G.hg I.env0 b1 b2 h2 h3 h') fun r s' hq => ?_)
  cases r with
  | error e => exact False.elim hq
  | ok fl =>
    cases fl with
    | ret u => exact I.after hq
    | next => exact False.elim hq
    | brk => exact False.elim hq
    | cont => exact False.elim hq
theorem e_call (G : Good X) (F : FnG X.prog X.w X.K X.mg X.base k f fd ps R) (hr : Room (3 * k + 2) X.A) (hg : Gl X x) (hm : X.mg x = some (.ref f)) (hk : PySem.W.keepIn X.K (.ref f) = true) (hb : BindOk X.K fd ps np ks perm)
    (ha : PA X (a :: es) (tIs X.K W ms)) (hkw : PK X kws (tIs X.K W mk)) (hall : (backToKw pos (keywordEach kws X.env)).all (·.1.isSome) = true) (hks : (backToKw pos (keywordEach kws X.env)).filterMap (·.1) = ks)
    (hdb : (x == ("__debug__" : Str)) = false) (he : starEach (a :: es) X.env = (false, eval a X.env) :: starEach es X.env)
    (hpl : ((backTo pos (starEach (a :: es) X.env)).any (·.1) || (backToKw pos (keywordEach kws X.env)).any (·.1.isNone)) = false)
    (la : ∀ σ L xs L', ms σ L = some (.ok xs L') → xs.length = np) (lk : ∀ σ L xs L', mk σ L = some (.ok xs L') → xs.length = ks.length) :
    PE X (.Call (.Name x p) (a :: es) kws pos) (tI X.K W (callM R ms mk perm)) := by
  refine ⟨fun pins s σV H Q I h => ?_⟩
  obtain ⟨ι, σ, L, h⟩ := h
  refine wpAny_Call_Name_kw (ld_glob I hg hm ?_ hdb)
  refine PySem.W.callWith_KW (h₀ := X.base) I.ok.mod.kin hk hall (thn (ha.run pos pins s σV H _ I ⟨ι, σ, L, h.bindE (R := RVsr X.K)⟩) fun us s1 ⟨vs, H1, I1, r, q⟩ => ?_) hpl he
  obtain ⟨ds, ι1, L1, q1, r1, ev, h⟩ := q
  refine thn (hkw.run pos pins s1 σV H1 _ I1 ⟨ι1, σ, L1, h.bindE (R := RVsr X.K)⟩) fun ws s2 ⟨zs, H2, I2, rz, q2⟩ => ⟨I2.kIn, ?_⟩
  obtain ⟨es2, ι2, L2, q3, r2, ev2, h⟩ := q2
  rw [hks]
  exact run_fn G F hr hb I2 (by show us.length = np; rw [← r.length, r1.length, la _ _ _ _ q1]) (by rw [← rz.length, r2.length, lk _ _ _ _ q3]) (r.append rz) ((r1.mono ev2).append r2) h
theorem e_callK (G : Good X) (F : FnG X.prog X.w X.K X.mg X.base k f fd ps R) (hr : Room (3 * k + 2) X.A) (hg : Gl X x) (hm : X.mg x = some (.ref f)) (hk : PySem.W.keepIn X.K (.ref f) = true) (hb : BindOk X.K fd ps 0 ks perm)
    (hkw : PK X kws (tIs X.K W mk)) (hall : (backToKw pos (keywordEach kws X.env)).all (·.1.isSome) = true) (hks : (backToKw pos (keywordEach kws X.env)).filterMap (·.1) = ks)
    (hdb : (x == ("__debug__" : Str)) = false) (hpl : ((backTo pos (starEach [] X.env)).any (·.1) || (backToKw pos (keywordEach kws X.env)).any (·.1.isNone)) = false)
    (lk : ∀ σ L xs L', mk σ L = some (.ok xs L') → xs.length = ks.length) :
    PE X (.Call (.Name x p) [] kws pos) (tI X.K W (callM R (fun _ => M.ret []) mk perm)) := by
  refine ⟨fun pins s σV H Q I h => ?_⟩
  obtain ⟨ι, σ, L, h⟩ := h
  have h : At X.K W (RVr X.K) σV σ ι L (M.bind (mk σ) (fun ys => M.ofO (permG ([] ++ ys) perm) fun zs => R zs) L) Q H := h
  refine wpAny_Call_Name_kw (ld_glob I hg hm ?_ hdb)
  refine PySem.W.callWith_KW0 (h₀ := X.base) I.ok.mod.kin hk hall (thn (hkw.run pos pins s σV H _ I ⟨ι, σ, L, h.bindE (R := RVsr X.K)⟩) fun ws s2 ⟨zs, H2, I2, rz, q2⟩ => ⟨I2.kIn, ?_⟩) hpl
  obtain ⟨es2, ι2, L2, q3, r2, ev2, h⟩ := q2
  rw [hks]
  exact run_fn (us := []) (vs := zs) (ds := es2) G F hr hb I2 rfl (by rw [← rz.length, r2.length, lk _ _ _ _ q3]) rz r2 h
theorem e_call0 (G : Good X) (F : FnG X.prog X.w X.K X.mg X.base k f fd ps R) (hr : Room (3 * k + 2) X.A) (hg : Gl X x) (hm : X.mg x = some (.ref f)) (hk : PySem.W.keepIn X.K (.ref f) = true) (hb : BindOk X.K fd ps 0 [] perm)
    (hdb : (x == ("__debug__" : Str)) = false) : PE X (.Call (.Name x p) [] [] pos) (tI X.K W (callM R (fun _ => M.ret []) (fun _ => M.ret []) perm)) := by
  refine ⟨fun pins s σV H Q I h => ?_⟩
  obtain ⟨ι, σ, L, h⟩ := h
  have h : At X.K W (RVr X.K) σV σ ι L (M.ofO (permG ([] ++ []) perm) (fun zs => R zs) L) Q H := h
  refine wpAny_Call_Name_kw (ld_glob I hg hm ?_ hdb)
  exact PySem.W.callWith_K0 I.kIn hk (run_fn (us := []) (ws := []) (vs := []) (ds := []) G F hr hb I rfl rfl .nil .nil h)
/-- keywords -/
theorem k_nil : PK X [] (tIs X.K W fun _ => M.ret []) := ⟨fun pos pins s σ H Q I ⟨ι, σ', L, h⟩ => pk_nil.run pos pins s σ H Q I (h.ret .nil)⟩
theorem k_cons {e : Expr} {nm : Option Str} {kpos : Pos} {me : LSt → M LV} (ha : PE X e (tI X.K W me)) (hr : PK X kws (tIs X.K W mk)) : PK X (⟨nm, e, kpos⟩ :: kws) (tIs X.K W (consM me mk)) :=
  ⟨fun pos pins s σ H Q I ⟨ι, σ', L, h⟩ => (pk_cons ha hr).run pos pins s σ H Q I (by
    refine ⟨ι, σ', L, (h.bind (R := RVr X.K)).imp fun x H1 ⟨d, ι1, L1, r1, ev, h⟩ => ?_⟩
    refine ⟨ι1, σ', L1, (h.bind (R := RVsr X.K)).imp fun xs H2 ⟨ds, ι2, L2, r2, ev2, h⟩ => ?_⟩
    exact h.ret (.cons (r1.mono ev2) r2))⟩
end
end Mv

/-! Mv9: targets, what is walked, comprehensions. -/
namespace Mv
open PySem PySem.Spec PyProof.Rows L2

/-- what is wanted of an exception does not hang on the names -/
def WInv (W : XW) : Prop := ∀ c fs L ι H (σV σV' : L2.St), σV'.length = σV.length → W c fs L ι H σV → W c fs L ι H σV'
section
variable {α β γ δ : Type} {K : PySem.W.Frag} {W : XW} {R R' : Rl α β} {σV σV' : L2.St} {σ σ' : LSt} {ι : Nat → Addr} {L : LH} {H H' : Hp} {Q : β → Hp → Prop} {r : Option (Out α)}
theorem At.rebase (hW : WInv W) (h : At K W R σV σ ι L r Q H) (rs : RS K H ι L.length σV' σ') (hl : σV'.length = σV.length) : At K W R σV' σ' ι L r Q H := by
  obtain ⟨a, b, o, e, p⟩ := h
  refine ⟨a, rs, o, e, ?_⟩
  cases o with
  | ok d L' => exact p
  | ex c fs L' => exact fun ι' H' ev rp => hW _ _ _ _ _ _ _ hl (p ι' H' ev rp)
theorem At.rel (h : At K W R σV σ ι L r Q H) (q : ∀ H ι n v d, R' H ι n v d → R H ι n v d) : At K W R' σV σ ι L r Q H := by
  obtain ⟨a, b, o, e, p⟩ := h
  refine ⟨a, b, o, e, ?_⟩
  cases o with
  | ok d L' => exact fun ι' H' v e1 e2 e3 => p ι' H' v e1 e2 (q _ _ _ _ _ e3)
  | ex c fs L' => exact p
/-- the same logical heap, a later heap -/
theorem At.move (h : At K W R σV σ ι L r Q H) (ev : Ev K ι H L.length ι H' L.length) (rp : Rep K ι H' L) : At K W R σV σ ι L r Q H' := by
  obtain ⟨a, b, o, e, p⟩ := h
  refine ⟨rp, b.mono ev, o, e, ?_⟩
  cases o with
  | ok d L' => exact fun ι' H' v e1 e2 e3 => p ι' H' v (ev.trans e1) e2 e3
  | ex c fs L' => exact fun ι' H' e1 e2 => p ι' H' (ev.trans e1) e2
theorem At.eqr {r' : Option (Out α)} (h : At K W R σV σ ι L r Q H) (e : r = r') : At K W R σV σ ι L r' Q H := e ▸ h
/-- another target of what is wanted -/
theorem At.map {Q' : δ → Hp → Prop} {R2 : Rl α δ} (h : At K W R σV σ ι L r Q H) (q : ∀ H ι n v d, R2 H ι n v d → ∃ u, R H ι n u d ∧ (∀ H, Q u H → Q' v H)) : At K W R2 σV σ ι L r Q' H := by
  obtain ⟨a, b, o, e, p⟩ := h
  refine ⟨a, b, o, e, ?_⟩
  cases o with
  | ok d L' => exact fun ι' H' v e1 e2 e3 => let ⟨u, h1, h2⟩ := q _ _ _ _ _ e3; h2 _ (p ι' H' u e1 e2 h1)
  | ex c fs L' => exact p
end

/-! ### targets -/
/-- the names behind a target's stores: as ahead of them but at own -/
def RSo (K : PySem.W.Frag) (own : List Nat) (σV0 : L2.St) : Rl LSt L2.St := fun H ι n σV σ => RS K H ι n σV σ ∧ σV.length = σV0.length ∧ ∀ i : Nat, i ∉ own → σV[i]? = σV0[i]?
theorem RSo.trans {K : PySem.W.Frag} {own : List Nat} {σ0 σ1 : L2.St} {H : Hp} {ι : Nat → Addr} {n : Nat} {σV : L2.St} {σ : LSt} (h : RSo K own σ1 H ι n σV σ) (hl : σ1.length = σ0.length) (ho : ∀ i : Nat, i ∉ own → σ1[i]? = σ0[i]?) : RSo K own σ0 H ι n σV σ :=
  ⟨h.1, h.2.1.trans hl, fun i hi => (h.2.2 i hi).trans (ho i hi)⟩
section
variable {pos : Pos}
end
def tgI (K : PySem.W.Frag) (W : XW) (own : List Nat) (m : LV → LSt → M LSt) : TG := fun v σV H Q => ∃ ι σ L d, RV K H ι L.length v d ∧ At K W (RSo K own σV) σV σ ι L (m d σ L) Q H
def tgsI (K : PySem.W.Frag) (W : XW) (own : List Nat) (m : List LV → LSt → M LSt) : TGs := fun vs σV H Q => ∃ ι σ L ds, RVs K H ι L.length vs ds ∧ At K W (RSo K own σV) σV σ ι L (m ds σ L) Q H
theorem PG.imp {X : Cx} {e : Expr} {t t' : TG} (h : PG X e t) (q : ∀ v σ H Q, t' v σ H Q → t v σ H Q) : PG X e t' := ⟨fun pins s σ H v u Q I r w => h.run pins s σ H v u Q I r (q v σ H Q w)⟩
theorem PG.or {X : Cx} {e : Expr} {t t' : TG} (h : PG X e t) (h' : PG X e t') : PG X e (fun v σ H Q => t v σ H Q ∨ t' v σ H Q) :=
  ⟨fun pins s σ H v u Q I r w => w.elim (h.run pins s σ H v u Q I r) (h'.run pins s σ H v u Q I r)⟩
theorem PGs.imp {X : Cx} {e : List Expr} {t t' : TGs} (h : PGs X e t) (q : ∀ v σ H Q, t' v σ H Q → t v σ H Q) : PGs X e t' := ⟨fun pins s σ H v u Q I r w => h.run pins s σ H v u Q I r (q v σ H Q w)⟩
section
variable {X : Cx} {W : XW} {pos : Pos} {own : List Nat}
def nameM (i : Nat) : LV → LSt → M LSt := fun v σ => M.chk (decide (i < σ.length)) (M.ret (σ.set i (some v)))
theorem set_other {α : Type} {l : List α} {i j : Nat} {x : α} (h : j ≠ i) : (l.set i x)[j]? = l[j]? := List.getElem?_set_ne (Ne.symm h)
theorem g_name {i : Nat} {x : Str} (hN : X.N.Nodup) (hi : X.N[i]? = some x) (hx : Loc X.env.scope x) (hf : X.fn x = true ∨ X.env.scope.names.lookup x = some .local) (ho : i ∈ own) : PG X (.Name x pos) (tgI X.K W own (nameM i)) :=
  PG.imp (pg_name hN hi hx hf) fun v σV H Q ⟨ι, σ, L, d, r, h⟩ => by
    obtain ⟨c, h⟩ := At.chk h
    refine h.ret ⟨h.rs.set i r, by rw [List.length_set], fun j hj => set_other fun e => hj (e ▸ ho)⟩
theorem gs_nil : PGs X [] (tgsI X.K W own fun vs σ => match vs with
    | [] => M.ret σ
    | _ => M.no) :=
  PGs.imp pgs_nil fun v σV H Q ⟨ι, σ, L, ds, r, h⟩ => by
    cases ds with
    | nil => cases r; exact ⟨rfl, h.ret ⟨h.rs, rfl, fun _ _ => rfl⟩⟩
    | cons _ _ => exact h.no.elim
def gconsM (m : LV → LSt → M LSt) (ms : List LV → LSt → M LSt) : List LV → LSt → M LSt := fun vs σ => match vs with
    | x :: xs => M.bind (m x σ) fun σ1 => ms xs σ1
    | [] => M.no
theorem gs_cons {e : Expr} {es : List Expr} {m : LV → LSt → M LSt} {ms : List LV → LSt → M LSt} (hW : WInv W) (h1 : PG X e (tgI X.K W own m)) (h2 : PGs X es (tgsI X.K W own ms))
    (hs : (assignEach (e :: es) X.env).map (·.2) = assign e X.env :: (assignEach es X.env).map (·.2)) : PGs X (e :: es) (tgsI X.K W own (gconsM m ms)) :=
  PGs.imp (pgs_cons h1 h2 hs) fun v σV H Q ⟨ι, σ, L, ds, r, h⟩ => by
    cases ds with
    | nil => exact h.no.elim
    | cons d ds =>
      cases r with
      | cons r1 r2 =>
        refine ⟨_, _, rfl, ι, σ, L, d, r1, (At.bind (R := RSo X.K own σV) h).imp fun σ1 H1 ⟨σ', ι1, L1, q, ev, h⟩ => ?_⟩
        refine ⟨ι1, σ', L1, ds, r2.mono ev, ?_⟩
        exact (h.rebase hW q.1 q.2.1).rel fun H ι n v d z => z.trans q.2.1 q.2.2
def tupM (n : Nat) (ms : List LV → LSt → M LSt) : LV → LSt → M LSt := fun v σ => M.look (fun L => Mv.items L v) fun xs => M.chk (decide (xs.length = n)) (ms xs σ)
theorem g_tup {es : List Expr} {k n : Nat} {ms : List LV → LSt → M LSt} (G : Good X) (h : PGs X es (tgsI X.K W own ms)) (hn : (assignEach es X.env).length = n) (hst : (assignEach es X.env).findIdx? (·.1) = none) :
    PG X (.Tuple es k pos) (tgI X.K W own (tupM n ms)) :=
  PG.imp (PG.or (pg_tup G.calm h hn hst) (pg_unl G.calm h hn hst)) fun v σV H Q ⟨ι, σ, L, d, r, h⟩ => by
    obtain ⟨ys, e, h⟩ := At.look (g := fun L => Mv.items L d) h
    obtain ⟨c, h⟩ := At.chk h
    have hl : ys.length = n := of_decide_eq_true c
    obtain ⟨a, xs, rfl, hs, hr⟩ := h.rep.seq r e
    rcases hs with hs | hs
    · exact .inr ⟨a, xs, rfl, hs, by rw [hr.length, hl], ι, σ, L, ys, hr, h⟩
    · exact .inl ⟨a, xs, rfl, hs, by rw [hr.length, hl], ι, σ, L, ys, hr, h⟩
/-- no slice without a step -/
def notSlice : Expr → Bool
  | .Slice _ _ none _ => false
  | _ => true
theorem assign_sub {o i : Expr} {env : Env} (h : notSlice i = true) (v : Value) : assign (.Subscript o i pos) env v = (do
      let ov ← holding [v] (eval o env)
      let iv ← holding [v, ov] (eval i env)
      standAt pos
      holding [v, ov, iv] (setItem ov iv v)
      release [v, ov, iv] []) := by
  rw [assign]
  unfold notSlice at h
  split at h
  · cases h
  · rename_i hn
    cases i <;> first | rfl | (rename_i a b c d; cases c <;> first | rfl | exact (hn _ _ _ rfl).elim)
def subM (mo mi : LSt → M LV) : LV → LSt → M LSt := fun v σ => M.bind (mo σ) fun x => M.bind (mi σ) fun y => M.bind (setV x y v) fun _ => M.ret σ
theorem g_sub {o i : Expr} {mo mi : LSt → M LV} (G : Good X) (hn : notSlice i = true) (ho : PE X o (tI X.K W mo)) (hi : PE X i (tI X.K W mi)) : PG X (.Subscript o i pos) (tgI X.K W own (subM mo mi)) :=
  PG.imp (pg_sub ho hi (set_any (by have := G.hu; omega)) (assign_sub hn)) fun v σV H Q ⟨ι, σ, L, d, r, h⟩ => by
    refine ⟨ι, σ, L, (At.bind (R := RVr X.K) h).imp fun x H1 ⟨d1, ι1, L1, r1, ev, h⟩ => ?_⟩
    refine ⟨ι1, σ, L1, (At.bind (R := RVr X.K) h).imp fun y H2 ⟨d2, ι2, L2, r2, ev2, h⟩ => ?_⟩
    have h3 := At.bind (R := Eqr) h
    refine set_at (Q := fun _ H3 => Q σV H3) (h3.imp fun _ H3 ⟨d3, ι3, L3, _, ev3, h⟩ => ?_) (r1.mono ev2) r2 ((r.mono ev).mono ev2)
    exact h.ret ⟨h.rs, rfl, fun _ _ => rfl⟩
end

/-! ### what is walked -/
abbrev tSrc (K : PySem.W.Frag) (W : XW) (m : LSt → M Src) : TI := tG K W (SrcR K) m
theorem PI.imp {X : Cx} {tg e : Expr} {t t' : TI} (h : PI X tg e t) (q : ∀ σ H Q, t' σ H Q → t σ H Q) : PI X tg e t' := ⟨fun pins s σ H R I w => h.run pins s σ H R I (q σ H R w)⟩
section
variable {X : Cx} {W : XW} {tg e a b : Expr} {me ma mb : LSt → M LV} {pos p : Pos}
theorem i_val (he : PE X e (tI X.K W me)) : PI X tg e (tSrc X.K W fun σ => M.bind (me σ) iterV) := by
  refine ⟨fun pins s σV H R I h => ?_⟩
  obtain ⟨ι, σ, L, h⟩ := h
  have h1 := h.bindE (R := RVr X.K)
  cases e1 : me σ L with
  | none => exact (none_at (f := me σ) h1 e1).elim
  | some o =>
    cases o with
    | ex c fs L' => 
      refine (pi_list (tg := tg) he).run pins s σV H R I ⟨ι, σ, L, h1.imp fun x H1 ⟨d, ι1, L1, e2, _⟩ => ?_⟩
      rw [e1] at e2
      cases e2
    | ok d L1 =>
      cases d with
      | tup ds =>
        refine (pi_tup (tg := tg) he).run pins s σV H R I ⟨ι, σ, L, h1.imp fun x H1 ⟨d, ι1, L1, e2, r1, ev, h⟩ => ?_⟩
        rw [e1] at e2
        cases e2
        obtain ⟨a, xs, rfl, ha, ra⟩ := r1.tupV
        exact ⟨a, rfl, ⟨xs, ha⟩, h.ret (srcR_tup ha ra)⟩
      | str z =>
        refine (pi_str (tg := tg) he).run pins s σV H R I ⟨ι, σ, L, h1.imp fun x H1 ⟨d, ι1, L1, e2, r1, ev, h⟩ => ?_⟩
        rw [e1] at e2
        cases e2
        obtain rfl := r1.strV
        obtain ⟨c, h⟩ := At.chk h
        exact ⟨z, rfl, h.ret (srcR_str z)⟩
      | ref k =>
        refine (pi_list (tg := tg) he).run pins s σV H R I ⟨ι, σ, L, h1.imp fun x H1 ⟨d, ι1, L1, e2, r1, ev, h⟩ => ?_⟩
        rw [e1] at e2
        cases e2
        obtain rfl := r1.refV
        have h : At X.K W (SrcR X.K) σV σ ι1 L1 (iterR k L1[k]? L1) R H1 := h
        generalize e3 : L1[k]? = o at h
        cases o with
        | none => exact h.no.elim
        | some o =>
          cases o with
          | lst xs =>
            obtain ⟨ys, h1, r1⟩ := h.rep.ob k _ e3
            exact ⟨_, rfl, ⟨ys, .inl (.inl h1)⟩, h.ret (srcR_live (get_lt e3))⟩
          | frz ns =>
            exact ⟨_, rfl, ⟨_, (show FrzAt X.K H1 (ι1 k) (ns.map V.int) from h.rep.ob k _ e3).seq⟩, h.ret (srcR_live (get_lt e3))⟩
          | dic _ => exact h.no.elim
          | ins _ _ => exact h.no.elim
      | _ =>
        refine (pi_list (tg := tg) he).run pins s σV H R I ⟨ι, σ, L, h1.imp fun x H1 ⟨d, ι1, L1, e2, r1, ev, h⟩ => ?_⟩
        rw [e1] at e2
        cases e2
        exact h.no.elim
def rng1M (ma : LSt → M LV) : LSt → M Src := fun σ => M.bind (ma σ) fun x => match x with
    | .int j => M.chk (ints62 j) (M.ret (rngV 0 j.toNat))
    | _ => M.no
def rng2M (ma mb : LSt → M LV) : LSt → M Src := fun σ => M.bind (ma σ) fun x => M.bind (mb σ) fun y => match x, y with
    | .int i, .int j => M.chk (ints62 i && ints62 j) (M.ret (rngV i (j - i).toNat))
    | _, _ => M.no
theorem i_rng1 (hg : Gl X "range") (hm : X.mg "range" = none) (ha : PE X a (tI X.K W ma)) (hs : starEach [a] X.env = [(false, eval a X.env)]) : PI X tg (.Call (.Name "range" p) [a] [] pos) (tSrc X.K W (rng1M ma)) :=
  PI.imp (pi_range1 hg hm (pa_cons ha pa_nil hs) hs) fun σV H R h => by
    obtain ⟨ι, σ, L, h⟩ := h
    refine ⟨ι, σ, L, (At.bind (R := RVr X.K) h).imp fun x H1 ⟨d, ι1, L1, r1, ev, h⟩ => ?_⟩
    cases d with
    | int j =>
      cases r1
      obtain ⟨c, h⟩ := At.chk h
      have c := of_decide_eq_true c
      exact ⟨j, rfl, c.1, c.2, h.ret (srcR_rng 0 j.toNat)⟩
    | _ => exact h.no.elim
theorem i_rng2 (hg : Gl X "range") (hm : X.mg "range" = none) (ha : PE X a (tI X.K W ma)) (hb : PE X b (tI X.K W mb)) (hs : starEach [a, b] X.env = [(false, eval a X.env), (false, eval b X.env)]) (hs2 : starEach [b] X.env = [(false, eval b X.env)]) :
    PI X tg (.Call (.Name "range" p) [a, b] [] pos) (tSrc X.K W (rng2M ma mb)) :=
  PI.imp (pi_range2 hg hm (pa_cons ha (pa_cons hb pa_nil hs2) (by rw [hs, hs2])) hs hs2) fun σV H R h => by
    obtain ⟨ι, σ, L, h⟩ := h
    refine ⟨ι, σ, L, (At.bind (R := RVr X.K) h).imp fun x H1 ⟨d, ι1, L1, r1, ev, h⟩ => ?_⟩
    refine ⟨ι1, σ, L1, (At.bind (R := RVr X.K) h).imp fun y H2 ⟨e, ι2, L2, r2, ev2, h⟩ => ?_⟩
    cases d with
    | int i =>
      cases e with
      | int j =>
        cases r1
        cases r2
        obtain ⟨c, h⟩ := At.chk h
        rw [Bool.and_eq_true] at c
        have c1 := of_decide_eq_true c.1
        have c2 := of_decide_eq_true c.2
        exact ⟨i, j, rfl, ⟨c1.1, c1.2, c2.1, c2.2⟩, h.ret (srcR_rng i (j - i).toNat)⟩
      | _ => exact h.no.elim
    | _ => exact h.no.elim
def rng3M (ma mb mc : LSt → M LV) : LSt → M Src := fun σ => M.bind (ma σ) fun x => M.bind (mb σ) fun y => M.bind (mc σ) fun z => match x, y, z with
    | .int i, .int j, .int k => M.chk (ints62 i && ints62 j && decide (0 < k ∧ k < 1073741824)) (M.ret (rngC i k ((j - i + (k - 1)) / k).toNat))
    | _, _, _ => M.no
theorem i_rng3 {c : Expr} {mc : LSt → M LV} (hg : Gl X "range") (hm : X.mg "range" = none) (ha : PE X a (tI X.K W ma)) (hb : PE X b (tI X.K W mb)) (hc : PE X c (tI X.K W mc)) (hs : starEach [a, b, c] X.env = (false, eval a X.env) :: starEach [b, c] X.env) (hs2 : starEach [b, c] X.env = (false, eval b X.env) :: starEach [c] X.env) (hs3 : starEach [c] X.env = (false, eval c X.env) :: starEach [] X.env)
    (hpl : (backTo pos (starEach [b, c] X.env)).any (·.1) = false) : PI X tg (.Call (.Name "range" p) [a, b, c] [] pos) (tSrc X.K W (rng3M ma mb mc)) :=
  PI.imp (pi_range3 hg hm (pa_cons ha (pa_cons hb (pa_cons hc pa_nil hs3) hs2) hs) hs hpl) fun σV H R h => by
    obtain ⟨ι, σ, L, h⟩ := h
    refine ⟨ι, σ, L, (At.bind (R := RVr X.K) h).imp fun x H1 ⟨d, ι1, L1, r1, ev, h⟩ => ?_⟩
    refine ⟨ι1, σ, L1, (At.bind (R := RVr X.K) h).imp fun y H2 ⟨e, ι2, L2, r2, ev2, h⟩ => ?_⟩
    refine ⟨ι2, σ, L2, (At.bind (R := RVr X.K) h).imp fun z H3 ⟨f, ι3, L3, r3, ev3, h⟩ => ?_⟩
    cases d with
    | int i =>
      cases e with
      | int j =>
        cases f with
        | int k =>
          cases r1
          cases r2
          cases r3
          obtain ⟨c, h⟩ := At.chk h
          rw [Bool.and_eq_true, Bool.and_eq_true] at c
          have c1 := of_decide_eq_true c.1.1
          have c2 := of_decide_eq_true c.1.2
          have c3 := of_decide_eq_true c.2
          exact ⟨i, j, k, _, rfl, rgC_pos c1 c2 c3, h.ret (srcR_rngC i k _)⟩
        | _ => exact h.no.elim
      | _ => exact h.no.elim
    | _ => exact h.no.elim
end

/-! ### comprehensions -/
theorem RS.wiped {K : PySem.W.Frag} {H : Hp} {ι : Nat → Addr} {n : Nat} {σV : L2.St} {σ : LSt} (r : RS K H ι n σV σ) : ∀ vs : List Nat, RS K H ι n (wipe σV vs) (wipeL σ vs)
  | [] => r
  | v :: vs => by
    have ih := RS.wiped r vs
    refine ⟨by show ((wipe σV vs).set v none).length = ((wipeL σ vs).set v none).length; rw [List.length_set, List.length_set]; exact ih.len, fun i d e => ?_⟩
    have e : ((wipeL σ vs).set v none)[i]? = some (some d) := e
    by_cases hv : v = i
    · subst hv
      by_cases hl : v < (wipeL σ vs).length
      · rw [List.getElem?_set_self hl] at e; cases e
      · rw [List.getElem?_eq_none (by simpa using hl)] at e; cases e
    · rw [List.getElem?_set_ne hv] at e
      obtain ⟨u, h1, h2⟩ := ih.at_ i d e
      exact ⟨u, by show ((wipe σV vs).set v none)[i]? = _; rw [List.getElem?_set_ne hv]; exact h1, h2⟩
theorem wipe_other {σ : L2.St} {i : Nat} : ∀ {vs : List Nat}, i ∉ vs → (wipe σ vs)[i]? = σ[i]?
  | [], _ => rfl
  | v :: vs, h => by
    rw [List.mem_cons, not_or] at h
    show ((wipe σ vs).set v none)[i]? = _
    rw [List.getElem?_set_ne (fun e => h.1 e.symm)]
    exact wipe_other h.2
theorem wipe_in {σ : L2.St} {i : Nat} : ∀ {vs : List Nat}, i ∈ vs → (wipe σ vs)[i]? = if i < σ.length then some none else none
  | [], h => by cases h
  | v :: vs, h => by
    show ((wipe σ vs).set v none)[i]? = _
    have hl : (wipe σ vs).length = σ.length := wipe_length σ vs
    by_cases hv : v = i
    · subst hv
      by_cases q : v < σ.length
      · rw [List.getElem?_set_self (by rw [hl]; exact q), if_pos q]
      · rw [List.getElem?_eq_none (by rw [List.length_set, hl]; omega), if_neg q]
    · rw [List.getElem?_set_ne hv]
      rcases List.mem_cons.mp h with e | h
      · exact absurd e.symm hv
      · exact wipe_in h
theorem wipe_ext {σ1 σ2 : L2.St} {vs : List Nat} (hl : σ1.length = σ2.length) (h : ∀ i : Nat, i ∉ vs → σ1[i]? = σ2[i]?) : wipe σ1 vs = wipe σ2 vs := by
  apply List.ext_getElem?
  intro i
  by_cases hi : i ∈ vs
  · rw [wipe_in hi, wipe_in hi, hl]
  · rw [wipe_other hi, wipe_other hi]
    exact h i hi
theorem wipe_wipe {σ : L2.St} {vs : List Nat} : wipe (wipe σ vs) vs = wipe σ vs := wipe_ext (wipe_length σ vs) fun i hi => wipe_other hi
/-- a comprehension's test -/
def condM (ma : LSt → M LV) : LSt → M Bool := fun σ => M.bind (ma σ) fun x => match x with
    | .bl b => M.ret b
    | _ => M.no
section
variable {X : Cx} {W : XW}
theorem c_none : PTs X [] (tG X.K W Eqr fun _ => M.ret true) := ⟨fun pins s σ H Q I ⟨ι, σ', L, h⟩ => pts_nil.run pins s σ H Q I (h.ret rfl)⟩
theorem c_one {c : Expr} {mc : LSt → M LV} (h : PT X c (tT X.K W mc)) : PTs X [c] (tG X.K W Eqr (condM mc)) :=
  ⟨fun pins s σ H Q I ⟨ι, σ', L, q⟩ => (pts_one h).run pins s σ H Q I ⟨ι, σ', L, (At.bind (R := RVr X.K) q).imp fun x H1 ⟨d, ι1, L1, r1, ev, h⟩ => by
    cases d with
    | bl b => cases r1; exact ⟨b, rfl, h.ret rfl⟩
    | _ => exact h.no.elim⟩⟩
end
def turnM (own : List Nat) (mt : LV → LSt → M LSt) (mc : LSt → M Bool) (me : LSt → M LV) (σ : LSt) : LV → M (Option LV) := fun x => M.bind (mt x (wipeL σ own)) fun σ2 => M.bind (mc σ2) fun k =>
        if k then M.bind (me σ2) fun y => M.ret (some y) else M.ret none
def compM (own : List Nat) (mt : LV → LSt → M LSt) (mi : LSt → M Src) (mc : LSt → M Bool) (me : LSt → M LV) : LSt → M LV := fun σ => M.bind (mi σ) fun src => M.bind (new (.lst [])) fun d => match d with
    | .ref D => compGo src (turnM own mt mc me σ) D src.len 0
    | _ => M.no
theorem comp_at {K : PySem.W.Frag} {W : XW} {own : List Nat} {mt : LV → LSt → M LSt} {mi : LSt → M Src} {mc : LSt → M Bool} {me : LSt → M LV} (hW : WInv W) {σV : L2.St} {H : Hp} {Q : VK} (h : tI K W (compM own mt mi mc me) σV H Q) :
    tLc (tSrc K W mi) (tgI K W own mt) (tG K W Eqr mc) (tI K W me) own σV H Q := by
  obtain ⟨ι, σ, L, h⟩ := h
  refine ⟨ι, σ, L, (At.bind (R := SrcR K) h).imp fun J H1 ⟨src, ι1, L1, hJ, ev1, h⟩ => ?_⟩
  intro D hD
  have h := h.newB (u := .lst []) hD ⟨[], upd_same, .nil⟩
  have h : At K W (RVr K) σV σ (ext ι1 L1.length D) (L1 ++ [LO.lst []]) (compGo src (turnM own mt mc me σ) L1.length src.len 0 (L1 ++ [LO.lst []])) Q (upd H1 D (.lst [])) := h
  have ev0 : Ev K ι1 H1 L1.length (ext ι1 L1.length D) (upd H1 D (.lst [])) (L1 ++ [LO.lst []]).length := by
    rw [List.length_append, List.length_singleton]
    exact Ev.new hD
  refine ⟨fun i m H => m + i = src.len ∧ ∃ ι L, Ev K ι1 H1 L1.length ι H L.length ∧ ι L1.length = D ∧ L1.length < L.length ∧ At K W (RVr K) σV σ ι L (compGo src (turnM own mt mc me σ) L1.length m i L) Q H,
    ⟨src.len, rfl, _, _, ev0, ext_eq, by rw [List.length_append, List.length_singleton]; omega, h⟩, ?_⟩
  rintro i m H2 ⟨em, ι2, L2, ev2, eD, lD, h⟩
  obtain ⟨j1, j2⟩ := hJ H2 ι2 L2 ev2 h.rep
  cases m with
  | zero =>
    have h : At K W (RVr K) σV σ ι2 L2 (if src.fin L2 then some (.ok (.ref L1.length) L2) else none) Q H2 := h
    cases hf : src.fin L2 with
    | false => rw [hf] at h; exact h.none.elim
    | true =>
      rw [hf] at h
      have ei : i = src.len := by omega
      refine .inl ⟨by rw [ei]; exact j2 hf, ?_⟩
      have h : At K W (RVr K) σV σ ι2 L2 (M.ret (.ref L1.length) L2) Q H2 := h
      rw [← eD]
      exact h.ret (.ref _ lD)
  | succ m =>
    have h : At K W (RVr K) σV σ ι2 L2 (match src.at i L2 with
      | none => none
      | some x => M.bind (turnM own mt mc me σ x) (fun r => match r with
        | none => compGo src (turnM own mt mc me σ) L1.length m (i + 1)
        | some y => M.bind (appM L1.length y) fun _ => compGo src (turnM own mt mc me σ) L1.length m (i + 1)) L2) Q H2 := h
    cases hx : src.at i L2 with
    | none => rw [hx] at h; exact h.none.elim
    | some x =>
      rw [hx] at h
      obtain ⟨j3, j4⟩ := j1 i x hx
      refine .inr ⟨j3, fun H' => m + (i + 1) = src.len ∧ ∃ ι L, Ev K ι1 H1 L1.length ι H' L.length ∧ ι L1.length = D ∧ L1.length < L.length ∧ At K W (RVr K) σV σ ι L (compGo src (turnM own mt mc me σ) L1.length m (i + 1) L) Q H', fun H' z => ⟨m, Nat.lt_succ_self m, z⟩, fun xV H3 y => ?_⟩
      obtain ⟨ev3, rp3, rx⟩ := j4 xV H3 y
      have h := h.move ev3 rp3
      have rs0 := h.rs
      have rsw := h.rs.wiped own
      have h := h.rebase hW rsw (wipe_length σV own)
      have h : At K W (RVr K) (wipe σV own) (wipeL σ own) ι2 L2 (M.bind (mt x (wipeL σ own)) (fun σ2 => M.bind (mc σ2) fun k => M.bind (if k then M.bind (me σ2) fun y => M.ret (some y) else M.ret none) fun r => match r with
        | none => compGo src (turnM own mt mc me σ) L1.length m (i + 1)
        | some y => M.bind (appM L1.length y) fun _ => compGo src (turnM own mt mc me σ) L1.length m (i + 1)) L2) Q H3 := by
        have e := congrFun (M.bind_bind (mt x (wipeL σ own)) (fun σ2 => M.bind (mc σ2) fun k => if k then M.bind (me σ2) fun y => M.ret (some y) else M.ret none) (fun r => match r with
          | none => compGo src (turnM own mt mc me σ) L1.length m (i + 1)
          | some y => M.bind (appM L1.length y) fun _ => compGo src (turnM own mt mc me σ) L1.length m (i + 1))) L2
        exact At.eqr h (e.trans (congrFun (congrArg (M.bind (mt x (wipeL σ own))) (funext fun σ2 => M.bind_bind _ _ _)) L2))
      refine ⟨ι2, wipeL σ own, L2, x, rx, (At.bind (R := RSo K own (wipe σV own)) h).imp fun σV4 H4 ⟨σ4, ι4, L4, q4, ev4, h⟩ => ?_⟩
      refine ⟨(wipe_ext q4.2.1 q4.2.2).trans wipe_wipe, ?_⟩
      have h := h.rebase hW q4.1 q4.2.1
      refine ⟨ι4, σ4, L4, (At.bind (R := Eqr) h).imp fun b H5 ⟨b', ι5, L5, eb, ev5, h⟩ => ?_⟩
      obtain rfl : b = b' := eb
      have evA : Ev K ι1 H1 L1.length ι5 H5 L5.length := ((ev2.trans ev3).trans ev4).trans ev5
      have e5 : ι5 L1.length = D := by rw [ev5.pl _ (Nat.lt_of_lt_of_le lD ev4.le), ev4.pl _ lD, eD]
      have l5 : L1.length < L5.length := Nat.lt_of_lt_of_le lD (Nat.le_trans ev4.le ev5.le)
      have len4 : σV.length = σV4.length := by rw [q4.2.1, wipe_length]
      have back : ∀ {ι' : Nat → Addr} {L' : LH} {H' : Hp} {r : Option (Out LV)}, Ev K ι2 H3 L2.length ι' H' L'.length → At K W (RVr K) σV4 σ4 ι' L' r Q H' → At K W (RVr K) σV σ ι' L' r Q H' := fun {ι' L' H' r} ev h => by
        exact h.rebase hW (rs0.mono ev) len4
      cases b with
      | false =>
        rw [if_neg Bool.false_ne_true]
        have h : At K W (RVr K) σV4 σ4 ι5 L5 (compGo src (turnM own mt mc me σ) L1.length m (i + 1) L5) Q H5 := h
        exact ⟨by omega, ι5, L5, evA, e5, l5, back (ev4.trans ev5) h⟩
      | true =>
        rw [if_pos rfl]
        have h : At K W (RVr K) σV4 σ4 ι5 L5 (M.bind (me σ4) (fun y => M.bind (appM L1.length y) fun _ => compGo src (turnM own mt mc me σ) L1.length m (i + 1)) L5) Q H5 := by
          have e := congrFun (M.bind_bind (me σ4) (fun y => M.ret (some y)) (fun r => match r with
            | none => compGo src (turnM own mt mc me σ) L1.length m (i + 1)
            | some y => M.bind (appM L1.length y) fun _ => compGo src (turnM own mt mc me σ) L1.length m (i + 1))) L5
          exact At.eqr h e
        refine ⟨ι5, σ4, L5, (At.bind (R := RVr K) h).imp fun yV H6 ⟨y, ι6, L6, ry, ev6, h⟩ => ?_⟩
        have e6 : ι6 L1.length = D := by rw [ev6.pl _ l5, e5]
        have l6 : L1.length < L6.length := Nat.lt_of_lt_of_le l5 ev6.le
        have h : At K W (RVr K) σV4 σ4 ι6 L6 (M.bind (mthR L1.length .append L6[L1.length]? [y]) (fun _ => compGo src (turnM own mt mc me σ) L1.length m (i + 1)) L6) Q H6 := h
        generalize eo : L6[L1.length]? = o at h
        cases o with
        | none => exact h.no.elim
        | some o =>
          cases o with
          | lst ys =>
            have h : At K W (RVr K) σV4 σ4 ι6 L6 (M.chk (decide (ys.length < sizeLine)) (M.bind (setO L1.length (.lst (ys ++ [y]))) fun _ => compGo src (turnM own mt mc me σ) L1.length m (i + 1)) L6) Q H6 := by
              have e : M.bind (mthR L1.length .append (some (.lst ys)) [y]) (fun _ => compGo src (turnM own mt mc me σ) L1.length m (i + 1)) L6 = M.chk (decide (ys.length < sizeLine)) (M.bind (setO L1.length (.lst (ys ++ [y]))) fun _ => compGo src (turnM own mt mc me σ) L1.length m (i + 1)) L6 := by
                show M.bind (M.chk (decide (ys.length < sizeLine)) (M.bind (setO L1.length (.lst (ys ++ [y]))) fun _ => M.ret LV.non)) _ L6 = _
                cases decide (ys.length < sizeLine) with
                | false => rfl
                | true => rfl
              exact At.eqr h e
            obtain ⟨c, h⟩ := h.chk
            obtain ⟨zs, h1, r1⟩ := h.rep.ob _ _ eo
            have hD6 : H6 D = some (.lst zs) := by rw [← e6]; exact h1
            refine ⟨zs, hD6, by rw [r1.length]; exact of_decide_eq_true c, by omega, ι6, L6.set L1.length (.lst (ys ++ [y])), ?_, e6, by rw [List.length_set]; exact l6, ?_⟩
            · rw [List.length_set]
              exact (evA.trans ev6).trans (Ev.set hD6 trivial)
            · have h := h.put (u := .lst (zs ++ [yV])) eo rfl rfl ⟨_, upd_same, (r1.append (.cons ry .nil)).mono (Ev.set h1 trivial)⟩
              rw [e6] at h
              refine back ?_ h
              rw [List.length_set]
              exact ((ev4.trans ev5).trans ev6).trans (Ev.set hD6 trivial)
          | _ => exact h.no.elim
end Mv

/-! Mx3a: zip with and without strict, of lists and tuples in any mix: the iterator. -/
namespace Mv
open PySem PySem.Spec PyProof.Rows L2
abbrev ZipOk (b : Bool) (h : Heap) (z TI TO : Addr) (v : Value) : Prop := h.get? z = some { cls := .type "zip", data := .fields #[v, .bool false, .bool b, .ref TI, .ref TO] }
section
variable {prog : Program} {w : World} {A : Around} {E : Value → Shared → Prop} {s : Shared}
/-- a draw that tells the end -/
theorem noe_item {it : Addr} {fp : List Addr} {n i : Nat} {P : Nat → Value → Prop} {St : Nat → Heap → Prop} {Q : Option Value → Shared → Prop} (D : Draws prog w A it fp n P St) (hi : i < n) (st : St i s.heap)
    (hQ : ∀ x h' tk, P i x → St (i + 1) h' → Heap.SameBut it s.heap h' → Q (some x) { s with heap := h', toks := tk }) : wpAny (model prog w) A (Builtin.SmallTypes.nextOrEnd (.ref it)) Q E s := by
  unfold Builtin.SmallTypes.nextOrEnd
  exact wpAny_bind (wpAny_attempt (D.item i _ _ _ hi st fun x h' tk h1 h2 h3 => wpAny_pure (hQ x h' tk h1 h2 h3)))
theorem noe_end {it : Addr} {fp : List Addr} {n : Nat} {P : Nat → Value → Prop} {St : Nat → Heap → Prop} {Q : Option Value → Shared → Prop} (D : Draws prog w A it fp n P St) (st : St n s.heap)
    (hQ : ∀ h', Heap.ExtBut it s.heap h' → Q none { s with heap := h' }) : wpAny (model prog w) A (Builtin.SmallTypes.nextOrEnd (.ref it)) Q E s := by
  unfold Builtin.SmallTypes.nextOrEnd
  refine wpAny_bind (wpAny_attempt (D.done _ _ _ st fun h' e hk ⟨o, ho, hc⟩ => ?_))
  exact wpAny_bind (wpAny_isInstance (T := "StopIteration") (b := true) ⟨o, ho, hc⟩ isSubtype_stop (wpAny_pure (hQ h' hk)))
theorem stop_it {α : Type} {Q : α → Shared → Prop} (hh : A.in1.handled = none) (hE : ∀ h' e, (∀ c o, s.heap.get? c = some o → h'.get? c = some o) → (∃ o, h'.get? e = some o ∧ o.cls = .type "StopIteration") → E (.ref e) { s with heap := h' }) :
    wpAny (model prog w) A (Builtin.SmallTypes.stopIteration : Sem α) Q E s := by
  unfold Builtin.SmallTypes.stopIteration
  refine wpAny_bind ?_
  simp only [newExc, newTuple]
  refine wpAny_bind (wpAny_newObj_type ?_ (by size_fits))
  refine wpAny_bind (m := firstArgMember _ _) (wpAny_of_eq (a := Value.none) (by first | rfl | (simp only [firstArgMember]; rfl)) ?_)
  refine wpAny_newObj_type ?_ (by size_fits)
  simp only [raiseNew]
  refine wpAny_bind (wpAny_handled ?_)
  first | rw [show A.handled = none from hh] | rw [show A.in1.handled = none from hh]
  refine wpAny_bind (wpAny_pure (wpAny_throw ?_))
  exact hE _ _ (fun c o e => Heap.get?_push_of_some _ (Heap.get?_push_of_some _ e)) ⟨_, Heap.get?_push_size _ rfl, rfl⟩
variable {z TI TO i1 i2 : Addr} {fp1 fp2 : List Addr} {n1 n2 i : Nat} {P1 P2 : Nat → Value → Prop} {St1 St2 : Nat → Heap → Prop} {a1 a2 : Value}
theorem zs_end {Q : Fin → Shared → Prop} (hh : A.in1.handled = none) (S : ZipSep2 z TI TO i1 i2 fp1 fp2) (D1 : Draws prog w A i1 fp1 n1 P1 St1) (D2 : Draws prog w A i2 fp2 n2 P2 St2)
    (hz : ZipOk true s.heap z TI TO .none) (hTI : IsTupOf2 s.heap TI (.ref i1) (.ref i2)) (hTO : IsTupOf2 s.heap TO a1 a2) (st1 : St1 n1 s.heap) (st2 : St2 n2 s.heap)
    (hE : ∀ h' tk e, (∀ c o, c ≠ z → c ≠ TO → c ≠ i1 → c ≠ i2 → s.heap.get? c = some o → h'.get? c = some o) → (∃ o, h'.get? e = some o ∧ o.cls = .type "StopIteration") → E (.ref e) { s with heap := h', toks := tk }) :
    wpAny (model prog w) A (Builtin.«zip.__next__» ⟨[.ref z], []⟩) Q E s := by
  obtain ⟨hp, g, d, tk0, os⟩ := s
  show wpAny _ _ (field (.ref z) 2 >>= _) _ _ _
  refine wpAny_bind (wpAny_field hz rfl (x := .bool true) rfl ?_)
  show wpAny _ _ (field (.ref z) 3 >>= _) _ _ _
  refine wpAny_bind (wpAny_field hz rfl (x := .ref TI) rfl ?_)
  refine wpAny_bind (wpAny_seqItems hTI rfl ?_)
  show wpAny _ _ (Builtin.SmallTypes.ownedTupleIsFree (.ref z) >>= _) _ _ _
  refine wpAny_bind ?_
  unfold Builtin.SmallTypes.ownedTupleIsFree
  refine wpAny_bind (wpAny_field hz rfl (x := .none) rfl (wpAny_pure ?_))
  simp only [if_true]
  refine wpAny_bind (wpAny_rule ?_)
  refine wpAny_bind (wpAny_field hz rfl (x := .ref TO) rfl ?_)
  refine wpAny_bind (wpAny_setField_rec hz (by simp) fun g0 hz0 hs0 => ?_)
  replace hz0 : ZipOk true g0 z TI TO .ellipsis := hz0
  replace hs0 : Heap.SameBut z hp g0 := hs0
  refine wpAny_bind ?_
  simp only [List.zipIdx_cons, List.zipIdx_nil, List.forIn_cons, List.forIn_nil]
  refine wpAny_bind (wpAny_bind (wpAny_onRaise ?_))
  show wpAny _ _ (Builtin.SmallTypes.nextOrEnd (.ref i1)) _ _ ⟨g0, g, d, tk0, os⟩
  refine noe_end D1 (D1.over st1 hs0 S.zf1) fun q hq => ?_
  dsimp only
  have hzq : ZipOk true q z TI TO .ellipsis := hq _ _ S.zi1 hz0
  have st2q : St2 n2 q := D2.frame _ _ _ (D2.over st2 hs0 S.zf2) fun b hb o e => hq b o (fun x => S.sep1_2 (x ▸ hb)) e
  refine wpAny_bind (wpAny_setField_rec (s := ⟨q, g, d, tk0, os⟩) hzq (by simp) fun q2 _ hs2 => ?_)
  replace hs2 : Heap.SameBut z q q2 := hs2
  refine wpAny_bind ?_
  show wpAny _ _ (forIn (([Value.ref i1, Value.ref i2].drop 1).zipIdx 1) _ _ >>= _) _ _ _
  simp only [List.drop_succ_cons, List.drop_zero, List.zipIdx_cons, List.zipIdx_nil, List.forIn_cons, List.forIn_nil]
  refine wpAny_bind (wpAny_bind (wpAny_bind (noe_end (s := ⟨q2, g, d, tk0, os⟩) D2 (D2.over st2q hs2 S.zf2) fun q3 hq3 => ?_)))
  simp only [Option.isSome, Bool.false_eq_true, if_false]
  refine wpAny_pure (wpAny_pure (wpAny_bind (wpAny_rule (stop_it (s := ⟨q3, g, d, tk0, os⟩) hh fun h' e hk he => ?_))))
  exact hE h' tk0 e (fun c o cz cT c1 c2 x => hk _ _ (hq3 _ _ c2 (hs2.extBut _ _ cz (hq _ _ c1 (hs0.extBut _ _ cz x))))) he
theorem zs_item {Q : Value → Shared → Prop} (S : ZipSep2 z TI TO i1 i2 fp1 fp2) (D1 : Draws prog w A i1 fp1 n1 P1 St1) (D2 : Draws prog w A i2 fp2 n2 P2 St2)
    (hz : ZipOk true s.heap z TI TO .none) (hTI : IsTupOf2 s.heap TI (.ref i1) (.ref i2)) (hTO : IsTupOf2 s.heap TO a1 a2) (st1 : St1 i s.heap) (st2 : St2 i s.heap) (hlt1 : i < n1) (hlt2 : i < n2)
    (hQ : ∀ x1 x2 h' tk, P1 i x1 → P2 i x2 → ZipOk true h' z TI TO (rawInt s.heap.objs.size) → IsTupOf2 h' TO x1 x2 → St1 (i + 1) h' → St2 (i + 1) h' → IsTupOf2 h' s.heap.objs.size x1 x2 →
      (∀ c o, c ≠ z → c ≠ TO → c ≠ i1 → c ≠ i2 → s.heap.get? c = some o → h'.get? c = some o) → Q (.ref s.heap.objs.size) { s with heap := h', toks := tk }) :
    wpAny (model prog w) A (Builtin.«zip.__next__» ⟨[.ref z], []⟩) (fun fin s' => ∃ v, fin = .done (.ret v) ∧ Q v s') E s := by
  obtain ⟨hp, g, d, tk0, os⟩ := s
  show wpAny _ _ (field (.ref z) 2 >>= _) _ _ _
  refine wpAny_bind (wpAny_field hz rfl (x := .bool true) rfl ?_)
  show wpAny _ _ (field (.ref z) 3 >>= _) _ _ _
  refine wpAny_bind (wpAny_field hz rfl (x := .ref TI) rfl ?_)
  refine wpAny_bind (wpAny_seqItems hTI rfl ?_)
  show wpAny _ _ (Builtin.SmallTypes.ownedTupleIsFree (.ref z) >>= _) _ _ _
  refine wpAny_bind ?_
  unfold Builtin.SmallTypes.ownedTupleIsFree
  refine wpAny_bind (wpAny_field hz rfl (x := .none) rfl (wpAny_pure ?_))
  simp only [if_true]
  refine wpAny_bind (wpAny_rule ?_)
  refine wpAny_bind (wpAny_field hz rfl (x := .ref TO) rfl ?_)
  refine wpAny_bind (wpAny_setField_rec hz (by simp) fun g0 hz0 hs0 => ?_)
  replace hz0 : ZipOk true g0 z TI TO .ellipsis := hz0
  replace hs0 : Heap.SameBut z hp g0 := hs0
  refine wpAny_bind ?_
  simp only [List.zipIdx_cons, List.zipIdx_nil, List.forIn_cons, List.forIn_nil]
  refine wpAny_bind (wpAny_bind (wpAny_onRaise ?_))
  show wpAny _ _ (Builtin.SmallTypes.nextOrEnd (.ref i1)) _ _ ⟨g0, g, d, tk0, os⟩
  refine noe_item D1 hlt1 (D1.over st1 hs0 S.zf1) fun x1 p1 tk1 hx1 sn1 hp1 => ?_
  replace hp1 : Heap.SameBut i1 g0 p1 := hp1
  dsimp only
  have hU1 : IsTupOf2 p1 TO a1 a2 := hp1.extBut _ _ S.Ti1 (hs0.extBut _ _ S.TOz hTO)
  refine wpAny_bind (wpAny_seqItems (s := ⟨p1, g, d, tk1, os⟩) hU1 rfl ?_)
  refine wpAny_bind (updateSeq_IsTupOf2 (s := ⟨p1, g, d, tk1, os⟩) hU1 fun g1 hT1 hs1 => ?_)
  replace hT1 : IsTupOf2 g1 TO x1 a2 := hT1
  replace hs1 : Heap.SameBut TO p1 g1 := hs1
  refine wpAny_bind (wpAny_letGo (wpAny_pure ?_))
  dsimp only
  refine wpAny_bind (wpAny_bind (wpAny_onRaise ?_))
  show wpAny _ _ (Builtin.SmallTypes.nextOrEnd (.ref i2)) _ _ ⟨g1, g, d, tk1, os⟩
  refine noe_item D2 hlt2 (D2.over (D2.over (D2.over st2 hs0 S.zf2) hp1 S.sep1_2) hs1 S.Tf2) fun x2 p2 tk2 hx2 sn2 hp2 => ?_
  replace hp2 : Heap.SameBut i2 g1 p2 := hp2
  dsimp only
  have hU2 : IsTupOf2 p2 TO x1 a2 := hp2.extBut _ _ S.Ti2 hT1
  refine wpAny_bind (wpAny_seqItems (s := ⟨p2, g, d, tk2, os⟩) hU2 rfl ?_)
  refine wpAny_bind (updateSeq_IsTupOf2 (s := ⟨p2, g, d, tk2, os⟩) hU2 fun g2 hT2 hs2 => ?_)
  replace hT2 : IsTupOf2 g2 TO x1 x2 := hT2
  replace hs2 : Heap.SameBut TO p2 g2 := hs2
  refine wpAny_bind (wpAny_letGo (wpAny_pure ?_))
  dsimp only
  refine wpAny_pure ?_
  refine wpAny_bind (wpAny_seqItems (s := ⟨g2, g, d, tk2, os⟩) hT2 rfl ?_)
  refine wpAny_bind (wpAny_newTuple ?_)
  have hsz : g2.objs.size = hp.objs.size := by rw [hs2.1, hp2.1, hs1.1, hp1.1, hs0.1]
  have hzz : ZipOk true g2 z TI TO .ellipsis := hs2.extBut _ _ S.TOz.symm (hp2.extBut _ _ S.zi2 (hs1.extBut _ _ S.TOz.symm (hp1.extBut _ _ S.zi1 hz0)))
  have hkk : ∀ c o, c ≠ z → c ≠ TO → c ≠ i1 → c ≠ i2 → hp.get? c = some o → g2.get? c = some o := fun c o cz cT c1 c2 e =>
    hs2.extBut _ _ cT (hp2.extBut _ _ c2 (hs1.extBut _ _ cT (hp1.extBut _ _ c1 (hs0.extBut _ _ cz e))))
  have hj1 : St1 (i + 1) g2 := D1.over (D1.over (D1.over sn1 hs1 S.Tf1) hp2 S.sep2_1) hs2 S.Tf1
  have hj2 : St2 (i + 1) g2 := D2.over sn2 hs2 S.Tf2
  have hzlt : z < g2.objs.size := Heap.lt_size hzz
  show wpAny _ _ (Builtin.SmallTypes.ownedTupleHandOut (.ref z) (.ref g2.objs.size) >>= _) _ _ ⟨g2.push { cls := .type "tuple", data := .seq #[x1, x2] }, g, d, tk2, os⟩
  refine wpAny_bind ?_
  unfold Builtin.SmallTypes.ownedTupleHandOut
  have hz6 : ZipOk true (g2.push { cls := .type "tuple", data := .seq #[x1, x2] }) z TI TO .ellipsis := Heap.get?_push_of_some _ hzz
  refine wpAny_bind (wpAny_setField_rec hz6 (by simp) fun h7 hz7 hs7 => ?_)
  replace hz7 : ZipOk true h7 z TI TO (rawInt g2.objs.size) := hz7
  refine wpAny_setField_rec hz7 (by simp) fun h8 hz8 hs8 => ?_
  replace hz8 : ZipOk true h8 z TI TO (rawInt g2.objs.size) := hz8
  replace hs7 : Heap.SameBut z (g2.push { cls := .type "tuple", data := .seq #[x1, x2] }) h7 := hs7
  replace hs8 : Heap.SameBut z h7 h8 := hs8
  have up : ∀ c o, c ≠ z → g2.get? c = some o → h8.get? c = some o := fun c o c1 e => hs8.extBut _ _ c1 (hs7.extBut _ _ c1 (Heap.get?_push_of_some _ e))
  have hT8 : IsTupOf2 h8 g2.objs.size x1 x2 := hs8.extBut _ _ (Nat.ne_of_gt hzlt) (hs7.extBut _ _ (Nat.ne_of_gt hzlt) (Heap.get?_push_size _ rfl))
  rw [hsz] at hz8 hT8
  refine wpAny_pure ⟨_, rfl, ?_⟩
  show Q (.ref g2.objs.size) ⟨h8, g, d, tk2, os⟩
  rw [hsz]
  exact hQ x1 x2 h8 tk2 hx1 hx2 hz8 (up _ _ S.TOz hT2) (D1.frame _ _ _ hj1 fun b hb o e => up b o (fun q => S.zf1 (q ▸ hb)) e) (D2.frame _ _ _ hj2 fun b hb o e => up b o (fun q => S.zf2 (q ▸ hb)) e) hT8 fun c o cz cT c1 c2 e => up c o cz (hkk c o cz cT c1 c2 e)
theorem zb_item {b : Bool} {Q : Value → Shared → Prop} (S : ZipSep2 z TI TO i1 i2 fp1 fp2) (D1 : Draws prog w A i1 fp1 n1 P1 St1) (D2 : Draws prog w A i2 fp2 n2 P2 St2)
    (hz : ZipOk b s.heap z TI TO .none) (hTI : IsTupOf2 s.heap TI (.ref i1) (.ref i2)) (hTO : IsTupOf2 s.heap TO a1 a2) (st1 : St1 i s.heap) (st2 : St2 i s.heap) (hlt1 : i < n1) (hlt2 : i < n2)
    (hQ : ∀ x1 x2 h' tk, P1 i x1 → P2 i x2 → ZipOk b h' z TI TO (rawInt s.heap.objs.size) → IsTupOf2 h' TO x1 x2 → St1 (i + 1) h' → St2 (i + 1) h' → IsTupOf2 h' s.heap.objs.size x1 x2 →
      (∀ c o, c ≠ z → c ≠ TO → c ≠ i1 → c ≠ i2 → s.heap.get? c = some o → h'.get? c = some o) → Q (.ref s.heap.objs.size) { s with heap := h', toks := tk }) :
    wpAny (model prog w) A (Builtin.«zip.__next__» ⟨[.ref z], []⟩) (fun fin s' => ∃ v, fin = .done (.ret v) ∧ Q v s') E s := by
  cases b with
  | true => exact zs_item S D1 D2 hz hTI hTO st1 st2 hlt1 hlt2 hQ
  | false => exact zipD2_next_item S D1 D2 hz hTI hTO st1 st2 hlt1 hlt2 fun x1 x2 h' tk e1 e2 e3 e4 e5 e6 e7 _ e8 => hQ x1 x2 h' tk e1 e2 e3 e4 e5 e6 e7 e8
theorem zb_end {b : Bool} {Q : Fin → Shared → Prop} (hh : A.in1.handled = none) (S : ZipSep2 z TI TO i1 i2 fp1 fp2) (D1 : Draws prog w A i1 fp1 n1 P1 St1) (D2 : Draws prog w A i2 fp2 n1 P2 St2)
    (hz : ZipOk b s.heap z TI TO .none) (hTI : IsTupOf2 s.heap TI (.ref i1) (.ref i2)) (hTO : IsTupOf2 s.heap TO a1 a2) (st1 : St1 n1 s.heap) (st2 : St2 n1 s.heap)
    (hE : ∀ h' tk e, (∀ c o, c ≠ z → c ≠ TO → c ≠ i1 → c ≠ i2 → s.heap.get? c = some o → h'.get? c = some o) → (∃ o, h'.get? e = some o ∧ o.cls = .type "StopIteration") → E (.ref e) { s with heap := h', toks := tk }) :
    wpAny (model prog w) A (Builtin.«zip.__next__» ⟨[.ref z], []⟩) Q E s := by
  cases b with
  | true => exact zs_end hh S D1 D2 hz hTI hTO st1 st2 hE
  | false => exact zipD2_next_end S D1 D2 hz hTI hTO st1 st2 (Nat.le_refl _) (Nat.le_refl _) (.inl rfl) hE
theorem pyNext_zb_item {b : Bool} {Q : Option Value → Shared → Prop} (S : ZipSep2 z TI TO i1 i2 fp1 fp2) (D1 : Draws prog w A.in1 i1 fp1 n1 P1 St1) (D2 : Draws prog w A.in1 i2 fp2 n2 P2 St2)
    (hz : ZipOk b s.heap z TI TO .none) (hTI : IsTupOf2 s.heap TI (.ref i1) (.ref i2)) (hTO : IsTupOf2 s.heap TO a1 a2) (st1 : St1 i s.heap) (st2 : St2 i s.heap) (hlt1 : i < n1) (hlt2 : i < n2)
    (hQ : ∀ x1 x2 h' tk, P1 i x1 → P2 i x2 → ZipOk b h' z TI TO (rawInt s.heap.objs.size) → IsTupOf2 h' TO x1 x2 → St1 (i + 1) h' → St2 (i + 1) h' → IsTupOf2 h' s.heap.objs.size x1 x2 →
      (∀ c o, c ≠ z → c ≠ TO → c ≠ i1 → c ≠ i2 → s.heap.get? c = some o → h'.get? c = some o) → Q (some (.ref s.heap.objs.size)) { s with heap := h', toks := tk }) :
    wpAny (model prog w) A (pyNext (.ref z)) Q E s := by
  have hT : s.TypeIs (.ref z) "zip" := ⟨_, hz, rfl⟩
  unfold pyNext
  exact wpAny_bind (wpAny_attempt (wpAny_callSpecial?_slot (name := Str.ofString "__next__") hT F.slot_zip_next
    (wpAny_call_entry F.slot_zip_next hT F.entry_zip_next
      (zb_item S D1 D2 hz hTI hTO st1 st2 hlt1 hlt2 fun x1 x2 h' tk y1 y2 b1 b2 d1 d2 b5 b7 => wpAny_pure (hQ x1 x2 h' tk y1 y2 b1 b2 d1 d2 b5 b7)) (F.args_zip_next_1 _))))
theorem pyNext_zb_end {b : Bool} {Q : Option Value → Shared → Prop} (hh : A.handled = none) (S : ZipSep2 z TI TO i1 i2 fp1 fp2) (D1 : Draws prog w A.in1 i1 fp1 n1 P1 St1) (D2 : Draws prog w A.in1 i2 fp2 n1 P2 St2)
    (hz : ZipOk b s.heap z TI TO .none) (hTI : IsTupOf2 s.heap TI (.ref i1) (.ref i2)) (hTO : IsTupOf2 s.heap TO a1 a2) (st1 : St1 n1 s.heap) (st2 : St2 n1 s.heap)
    (hQ : ∀ h' tk, (∀ c o, c ≠ z → c ≠ TO → c ≠ i1 → c ≠ i2 → s.heap.get? c = some o → h'.get? c = some o) → Q none { s with heap := h', toks := tk }) : wpAny (model prog w) A (pyNext (.ref z)) Q E s := by
  have hT : s.TypeIs (.ref z) "zip" := ⟨_, hz, rfl⟩
  unfold pyNext
  refine wpAny_bind (wpAny_attempt (wpAny_callSpecial?_slot (name := Str.ofString "__next__") hT F.slot_zip_next
    (wpAny_call_entry F.slot_zip_next hT F.entry_zip_next (zb_end hh S D1 D2 hz hTI hTO st1 st2 fun h' tk e hk he => ?_) (F.args_zip_next_1 _))))
  obtain ⟨o, ho, hc⟩ := he
  exact wpAny_bind (wpAny_isInstance (T := "StopIteration") (b := true) ⟨o, ho, hc⟩ isSubtype_stop (wpAny_pure (hQ _ _ hk)))
theorem go_zb {b : Bool} {elts : List Expr} {x1} {pos : Pos} {T : Addr} {Q : Unit → Shared → Prop} (hz : ZipOk b s.heap z TI TO (rawInt T))
    (hQ : ∀ h', ZipOk b h' z TI TO .none → Heap.SameBut z s.heap h' → Q () { s with heap := h' }) : wpAny (model prog w) A (letOwnedTupleGo (.Tuple elts x1 pos) (.ref z) (.ref T)) Q E s := by
  unfold letOwnedTupleGo
  refine wpAny_bind (wpAny_load hz ?_)
  show wpAny _ _ (if (["enumerate", "zip", "dict_itemiterator", "dict_reverseitemiterator", "odict_iterator", "itertools.zip_longest", "itertools.pairwise"].contains "zip" &&
      (#[rawInt T, .bool false, .bool b, .ref TI, .ref TO] : Array Value)[0]? == some (rawInt T)) = true then _ else _) Q E s
  rw [if_pos (by simp)]
  refine wpAny_bind (wpAny_rule ?_)
  show wpAny _ _ (setField (.ref z) 0 .none) Q E s
  exact wpAny_setField_rec hz (by simp) fun h' hz' hs' => hQ h' hz' hs'
theorem iter_zb {b : Bool} {f0 : Value} {Q : Value → Shared → Prop} (hz : ZipOk b s.heap z TI TO f0) (h : Q (.ref z) s) : wpAny (model prog w) A (pyIter (.ref z)) Q E s := by
  have hT : s.TypeIs (.ref z) "zip" := ⟨_, hz, rfl⟩
  refine wpAny_pyIter_slot hT F.slot_zip_iter (wpAny_call_entry F.slot_zip_iter hT F.entry_zip_iter ?_ (F.args_zip_iter_1 _))
  show wpAny _ _ (ret (.ref z)) _ _ s
  exact wpAny_pure ⟨_, rfl, "zip", _, hT, F.slot_zip_next.lookup, h⟩
end
/-! zip(v1, v2, strict=True) begins -/
namespace F3
theorem typeCall_zip_kw (a b c : Value) : checkTypeCall "zip" ⟨[a, b], [(Str.ofString "strict", c)]⟩ = pure () := by kernel_rfl
theorem newCall_zip_kw (a b c : Value) : checkBuiltinCall "zip.__new__" ⟨[.type "zip", a, b], [(Str.ofString "strict", c)]⟩ = pure () := by kernel_rfl
theorem args_object_init_kw (obj a b c : Value) : argsOk "object.__init__" ⟨[obj, a, b], [(Str.ofString "strict", c)]⟩ := by unfold argsOk; kernel_rfl
end F3
abbrev zkZ2 (h : Heap) (o1 o2 : Obj) : Heap := (gzO2 h o1 o2).push { cls := .type "zip", data := .fields #[.none, .bool false, .bool true, .ref ((h.push o1).push o2).objs.size, .ref (gzT2 h o1 o2).objs.size] }
theorem meets_zip_newKw {v1 v2 : Value} {o1 o2 : Obj} {H1 H2 : Heap → Prop} (B1 : Begins v1 o1 H1) (B2 : Begins v2 o2 H2) :
    Meets (Builtin.«zip.__new__» ⟨[.type "zip", v1, v2], [(Str.ofString "strict", .bool true)]⟩) (fun _ R s => (H1 s.heap ∧ H2 s.heap) ∧
      R (.ok (.ret (.ref (gzO2 s.heap o1 o2).objs.size))) { s with heap := zkZ2 s.heap o1 o2 }) :=
  .of_wp fun prog w A R s h => by
    obtain ⟨hp, g, d, tk, os⟩ := s; obtain ⟨⟨h1, h2⟩, h⟩ := h
    have hsub := sub_zip
    have e2 : (Str.ofString "strict" != ("strict" : Str)) = false := by decide +kernel
    have q1 : ∀ {A' : Around} {E : Value → Shared → Prop} {Q : Value → Shared → Prop}, Q (.ref hp.objs.size) ⟨(hp.push o1), g, d, tk, os⟩ → wpAny (model prog w) A' (pyIter v1) Q E ⟨hp, g, d, tk, os⟩ :=
      fun q => B1.iter prog w _ _ ⟨hp, g, d, tk, os⟩ _ (B1.keeps _ _ h1 fun b o' e => e) q
    have q2 : ∀ {A' : Around} {E : Value → Shared → Prop} {Q : Value → Shared → Prop}, Q (.ref (hp.push o1).objs.size) ⟨((hp.push o1).push o2), g, d, tk, os⟩ → wpAny (model prog w) A' (pyIter v2) Q E ⟨(hp.push o1), g, d, tk, os⟩ :=
      fun q => B2.iter prog w _ _ ⟨(hp.push o1), g, d, tk, os⟩ _ (B2.keeps _ _ h2 fun b o' e => (Heap.get?_push_of_some _ e)) q
    wp_walk using q1, q2
    exact ⟨_, rfl, h⟩
section
variable {prog : Program} {w : World} {A : Around} {E : Value → Shared → Prop} {s : Shared}
/-- zip of 2, strict: its 5 new cells -/
theorem zip_beginsKw {v1 v2 : Value} {o1 o2 : Obj} {H1 H2 : Heap → Prop} {Q : Value → Shared → Prop} (B1 : Begins v1 o1 H1) (B2 : Begins v2 o2 H2) (h1 : H1 s.heap) (h2 : H2 s.heap)
    (h : ∀ h', ZipOk true h' (s.heap.objs.size + 4) (s.heap.objs.size + 2) (s.heap.objs.size + 3) .none → IsTupOf2 h' (s.heap.objs.size + 2) (.ref s.heap.objs.size) (.ref (s.heap.objs.size + 1)) →
      IsTupOf2 h' (s.heap.objs.size + 3) .none .none → h'.get? s.heap.objs.size = some o1 → h'.get? (s.heap.objs.size + 1) = some o2 →
      (∀ c o, s.heap.get? c = some o → h'.get? c = some o) → Q (.ref (s.heap.objs.size + 4)) { s with heap := h' }) :
    wpAny (model prog w) A (call (.type "zip") [v1, v2] [(Str.ofString "strict", .bool true)]) Q E s := by
  refine callType_newKw F.called_zip (by decide) (F3.typeCall_zip_kw _ _ _) (F3.newCall_zip_kw _ _ _) (fun obj => F3.args_object_init_kw obj _ _ _) F.entry_zip_new
    (meets_zip_newKw B1 B2) ⟨⟨h1, h2⟩, ?_⟩
  have z1 : (s.heap.push o1).objs.size = s.heap.objs.size + 1 := by rw [Heap.size_push]
  have z2 : ((s.heap.push o1).push o2).objs.size = s.heap.objs.size + 2 := by rw [Heap.size_push, z1]
  have zT : (gzT2 s.heap o1 o2).objs.size = s.heap.objs.size + 3 := by rw [Heap.size_push, z2]
  have zO : (gzO2 s.heap o1 o2).objs.size = s.heap.objs.size + 4 := by rw [Heap.size_push, zT]
  have gZ : (zkZ2 s.heap o1 o2).get? (gzO2 s.heap o1 o2).objs.size = some { cls := .type "zip", data := .fields #[.none, .bool false, .bool true, .ref ((s.heap.push o1).push o2).objs.size, .ref (gzT2 s.heap o1 o2).objs.size] } := Heap.get?_push_size _ rfl
  have gO : (zkZ2 s.heap o1 o2).get? (gzT2 s.heap o1 o2).objs.size = some { cls := .type "tuple", data := .seq #[.none, .none] } := Heap.get?_push_of_some _ (Heap.get?_push_size _ rfl)
  have gT : (zkZ2 s.heap o1 o2).get? ((s.heap.push o1).push o2).objs.size = some { cls := .type "tuple", data := .seq #[.ref s.heap.objs.size, .ref (s.heap.push o1).objs.size] } := Heap.get?_push_of_some _ (Heap.get?_push_of_some _ (Heap.get?_push_size _ rfl))
  have g1 : (zkZ2 s.heap o1 o2).get? s.heap.objs.size = some o1 := Heap.get?_push_of_some _ (Heap.get?_push_of_some _ (Heap.get?_push_of_some _ (Heap.get?_push_of_some _ (Heap.get?_push_size _ B1.free))))
  have g2 : (zkZ2 s.heap o1 o2).get? (s.heap.push o1).objs.size = some o2 := Heap.get?_push_of_some _ (Heap.get?_push_of_some _ (Heap.get?_push_of_some _ (Heap.get?_push_size _ B2.free)))
  rw [zO, zT, z2] at gZ
  rw [zT] at gO
  rw [z2, z1] at gT
  rw [z1] at g2
  show _ ∧ _
  rw [zO]
  exact ⟨⟨_, gZ, rfl⟩, h _ gZ gT gO g1 g2 fun c o e => Heap.get?_push_of_some _ (Heap.get?_push_of_some _ (Heap.get?_push_of_some _ (Heap.get?_push_of_some _ (Heap.get?_push_of_some _ e))))⟩
end
/-! the sides -/
/-- a list (true) or a tuple -/
def SdAt (K : PySem.W.Frag) (b : Bool) (H : Hp) (a : Addr) (xs : List V) : Prop := match b with
  | true => SqL K H a xs
  | false => SqT K H a xs
def SdIt (b : Bool) (h : Heap) (i a : Addr) (j : Nat) : Prop := match b with
  | true => h.IsListIter i a j
  | false => h.IsTupleIter i a j
def SdHp (b : Bool) (h : Heap) (a : Addr) (its : List Value) : Prop := match b with
  | true => h.IsList a its.toArray
  | false => h.IsTuple a its.toArray
def sdObj (b : Bool) (a : Addr) : Obj := match b with
  | true => { cls := .type "list_iterator", data := .fields #[.ref a, .int 0 0] }
  | false => { cls := .type "tuple_iterator", data := .fields #[.ref a, .int 0 0] }
theorem sd_begins (b : Bool) (a : Addr) (its : List Value) : Begins (.ref a) (sdObj b a) fun h => SdHp b h a its := by
  cases b with
  | true => exact begins_list a its.toArray
  | false => exact begins_tuple a its.toArray
theorem sd_draws {prog : Program} {w : World} {A : Around} (hh : A.handled = none) (b : Bool) (it a : Addr) (hne : a ≠ it) (its : List Value) :
    Draws prog w A it [it, a] its.length (fun i v => its[i]? = some v) (fun i h => SdIt b h it a i ∧ SdHp b h a its) := by
  cases b with
  | true =>
    have D := Draws.list (prog := prog) (w := w) hh it a hne its.toArray
    simp only [List.size_toArray, List.getElem?_toArray] at D
    exact D
  | false =>
    have D := Draws.tuple (prog := prog) (w := w) hh it a hne its.toArray
    simp only [List.size_toArray, List.getElem?_toArray] at D
    exact D
theorem sd_new (b : Bool) {h : Heap} {i a : Addr} (e : h.get? i = some (sdObj b a)) : SdIt b h i a 0 := by
  cases b with
  | true => exact ⟨_, e, rfl, rfl⟩
  | false => exact ⟨_, e, rfl, rfl⟩
theorem sd_obj {b : Bool} {h : Heap} {i a : Addr} {j : Nat} (st : SdIt b h i a j) : ∃ o, h.get? i = some o ∧ ∀ v, o.data ≠ .cell v := by
  cases b with
  | true =>
    obtain ⟨o, e, _, d⟩ := st
    exact ⟨o, e, fun v q => by rw [d] at q; cases q⟩
  | false =>
    obtain ⟨o, e, _, d⟩ := st
    exact ⟨o, e, fun v q => by rw [d] at q; cases q⟩
theorem sd_keep {b : Bool} {h h' : Heap} {i a : Addr} {j : Nat} (st : SdIt b h i a j) (k : ∀ o, h.get? i = some o → h'.get? i = some o) : SdIt b h' i a j := by
  cases b with
  | true => exact st.at k
  | false => exact st.at k
theorem sd_of {X : Cx} {pins : List (Addr × Obj)} {σ : L2.St} {H : Hp} {s : Shared} (I : Inv X pins σ H s) {b : Bool} {a : Addr} {xs : List V} (h : SdAt X.K b H a xs) : ∃ its, Vals xs its ∧ SdHp b s.heap a its ∧ a < s.heap.objs.size := by
  cases b with
  | true =>
    obtain ⟨its, rv, p, _⟩ := I.list h
    exact ⟨its, rv, p.isList, p.lt⟩
  | false =>
    obtain ⟨its, rv, p, _⟩ := I.tuple h
    obtain ⟨o, ho, _⟩ := id p
    exact ⟨its, rv, p, Heap.lt_size ho⟩
end Mv

/-! Mx3b: zip and enumerate in a walk: what is asked of the turn. -/
namespace Mv
open PySem PySem.Spec PyProof.Rows L2
/-- both sides as they stand at each turn, the items in new pairs -/
def ItzB (K : PySem.W.Frag) (k1 k2 : Bool) (a1 a2 : Addr) : It :=
  ⟨fun i H => ∃ (xs ys : List V) (x y : V), SdAt K k1 H a1 xs ∧ SdAt K k2 H a2 ys ∧ xs[i]? = some x ∧ ys[i]? = some y,
    fun i H v H' => ∃ T x y, v = .ref T ∧ H T = none ∧ H' = upd H T (.tup [x, y]) ∧ (∀ xs, SdAt K k1 H a1 xs → xs[i]? = some x) ∧ ∀ ys, SdAt K k2 H a2 ys → ys[i]? = some y,
    fun i H => ∃ xs ys : List V, SdAt K k1 H a1 xs ∧ SdAt K k2 H a2 ys ∧ xs.length = i ∧ ys.length = i⟩
def IteB (K : PySem.W.Frag) (k1 : Bool) (a1 : Addr) : It :=
  ⟨fun i H => ∃ (xs : List V) (x : V), SdAt K k1 H a1 xs ∧ xs[i]? = some x,
    fun i H v H' => ∃ T x, v = .ref T ∧ H T = none ∧ H' = upd H T (.tup [.int (i : Nat), x]) ∧ ∀ xs, SdAt K k1 H a1 xs → xs[i]? = some x,
    fun i H => ∃ xs : List V, SdAt K k1 H a1 xs ∧ xs.length = i⟩
theorem sd_inj {X : Cx} {pins : List (Addr × Obj)} {σ : L2.St} {H : Hp} {s : Shared} (I : Inv X pins σ H s) {b : Bool} {a : Addr} {xs ys : List V} (h : SdAt X.K b H a xs) (h' : SdAt X.K b H a ys) : xs = ys := by
  cases b with
  | true => exact I.list_inj h h'
  | false => exact I.tuple_inj h h'
theorem turn_zb {P : Program} {w : World} {K : PySem.W.Frag} {elts : List Expr} {kk : Nat} {tpos : Pos} {b k1 k2 : Bool} {a1 a2 z TI TO i1 i2 : Addr} (D : ZipSep2 z TI TO i1 i2 [i1, a1] [i2, a2]) (h1 : a1 ≠ i1) (h2 : a2 ≠ i2) :
    Turn P w K (.Tuple elts kk tpos) (ItzB K k1 k2 a1 a2) [z, TI, TO, i1, i2] z (fun i h => ZipOk b h z TI TO .none ∧ IsTupOf2 h TI (.ref i1) (.ref i2) ∧ (∃ x y, IsTupOf2 h TO x y) ∧ SdIt k1 h i1 a1 i ∧ SdIt k2 h i2 a2 i) where
  mem := by simp
  obj := fun i h st c hc => by
    obtain ⟨hz, hTI, ⟨x, y, hTO⟩, s1, s2⟩ := st
    have e' : c = z ∨ c = TI ∨ c = TO ∨ c = i1 ∨ c = i2 := by simpa using hc
    rcases e' with q | q | q | q | q
    · rw [q]; exact ⟨_, hz, fun v q => nomatch q⟩
    · rw [q]; exact ⟨_, hTI, fun v q => nomatch q⟩
    · rw [q]; exact ⟨_, hTO, fun v q => nomatch q⟩
    · rw [q]; exact sd_obj s1
    · rw [q]; exact sd_obj s2
  keep := fun i h h' st k => by
    obtain ⟨hz, hTI, ⟨x, y, hTO⟩, s1, s2⟩ := st
    exact ⟨k z (by simp) _ hz, k TI (by simp) _ hTI, ⟨x, y, k TO (by simp) _ hTO⟩, sd_keep s1 fun o q => k i1 (by simp) o q, sd_keep s2 fun o q => k i2 (by simp) o q⟩
  item := by
    intro X hP hw hK hc i pins s σ H E I hf st hg
    subst hP hw hK
    obtain ⟨hz, hTI, ⟨x0, y0, hTO⟩, s1, s2⟩ := st
    obtain ⟨xs, ys, x, y, hqx, hqy, hx, hy⟩ := hg
    obtain ⟨its, rv, p, _⟩ := sd_of I hqx
    obtain ⟨its2, rv2, p2, _⟩ := sd_of I hqy
    obtain ⟨u, hu, ru⟩ := rv.get hx
    obtain ⟨u2, hu2, ru2⟩ := rv2.get hy
    have hzl : z < s.heap.objs.size := Heap.lt_size hz
    have hd : X.A.in1.handled = none := I.ok.hd hc
    refine pyNext_zb_item D (sd_draws hd k1 i1 a1 h1 its) (sd_draws hd k2 i2 a2 h2 its2) hz hTI hTO ⟨s1, p⟩ ⟨s2, p2⟩ (List.getElem?_eq_some_iff.mp hu).1 (List.getElem?_eq_some_iff.mp hu2).1 fun v1 v2 h' tk q1 q2 z' TO' t1 t2 hT hk => ?_
    have q1 : some u = some v1 := hu.symm.trans q1
    have q2 : some u2 = some v2 := hu2.symm.trans q2
    cases q1
    cases q2
    refine ⟨_, rfl, go_zb (s := { s with heap := h', toks := tk }) z' fun h'' z'' sb => ?_⟩
    have hT2 : h''.get? s.heap.objs.size = some { cls := .type "tuple", data := .seq #[u, u2] } := (sb.2 _ (Nat.ne_of_gt hzl)).trans hT
    have new : ObjOk X.prog X.w (upd H s.heap.objs.size (.tup [x, y])) h'' s.heap.objs.size (.tup [x, y]) :=
      ⟨by show 2 ≤ sizeLine; decide, [u, u2], .cons ru (.cons ru2 .nil), ⟨_, hT2, rfl, _, rfl⟩⟩
    have I1 : Inv X pins σ (upd H s.heap.objs.size (.tup [x, y])) { s with heap := h'', toks := tk } :=
      I.turnedNew (t' := tk) (ch := [z, TI, TO, i1, i2]) (fun c o hb q => (sb.2 c (fun q' => hb (by simp [q']))).trans (hk c o (fun q' => hb (by simp [q'])) (fun q' => hb (by simp [q'])) (fun q' => hb (by simp [q'])) (fun q' => hb (by simp [q'])) q)) hf (Nat.le_refl _) new
    refine ⟨.ref s.heap.objs.size, _, I1, rfl, ⟨_, x, y, rfl, I.hok.fresh (Nat.le_refl _), rfl, fun l hl => by rw [sd_inj I hl hqx]; exact hx, fun l hl => by rw [sd_inj I hl hqy]; exact hy⟩, ⟨z'', ?_, ⟨u, u2, ?_⟩, ?_, ?_⟩, fun c hcm => ?_⟩
    · exact (sb.2 _ D.TIz).trans (hk _ _ D.TIz D.TITO D.TIi1 D.TIi2 hTI)
    · exact (sb.2 _ D.TOz).trans TO'
    · exact sd_keep t1.1 fun o q => (sb.2 _ D.zi1.symm).trans q
    · exact sd_keep t2.1 fun o q => (sb.2 _ D.zi2.symm).trans q
    · have hlt : c < s.heap.objs.size := by
        have e' : c = z ∨ c = TI ∨ c = TO ∨ c = i1 ∨ c = i2 := by simpa using hcm
        rcases e' with q | q | q | q | q
        · rw [q]; exact hzl
        · rw [q]; exact Heap.lt_size hTI
        · rw [q]; exact Heap.lt_size hTO
        · rw [q]; obtain ⟨_, e1, _⟩ := sd_obj s1; exact Heap.lt_size e1
        · rw [q]; obtain ⟨_, e2, _⟩ := sd_obj s2; exact Heap.lt_size e2
      rw [upd_ne (Nat.ne_of_lt hlt)]
      exact (hf c hcm).1
  done := by
    intro X hP hw hK hc i pins s σ H E I hf st hg
    subst hP hw hK
    obtain ⟨hz, hTI, ⟨x0, y0, hTO⟩, s1, s2⟩ := st
    obtain ⟨xs, ys, hqx, hqy, e1, e2⟩ := hg
    obtain ⟨its, rv, p, _⟩ := sd_of I hqx
    obtain ⟨its2, rv2, p2, _⟩ := sd_of I hqy
    have l1 : its.length = i := by rw [← rv.length]; exact e1
    have l2 : its2.length = i := by rw [← rv2.length]; exact e2
    subst l1
    have hd : X.A.in1.handled = none := I.ok.hd hc
    have D2 := sd_draws (prog := X.prog) (w := X.w) hd k2 i2 a2 h2 its2
    rw [l2] at D2
    exact pyNext_zb_end hd D (sd_draws hd k1 i1 a1 h1 its) D2 hz hTI hTO ⟨s1, p⟩ ⟨s2, p2⟩ fun h' tk hk => ⟨rfl, I.turnedL (t' := tk) (ch := [z, TI, TO, i1, i2]) (fun c o hb q =>
      hk c o (fun q' => hb (by simp [q'])) (fun q' => hb (by simp [q'])) (fun q' => hb (by simp [q'])) (fun q' => hb (by simp [q'])) q) hf⟩
  self := fun A i s Q E st h => iter_zb st.1 h
theorem turn_eb {P : Program} {w : World} {K : PySem.W.Frag} {elts : List Expr} {kk : Nat} {tpos : Pos} {k1 : Bool} {a1 e it : Addr} (h1 : a1 ≠ it) (hne : e ≠ it) (hea : e ≠ a1) :
    Turn P w K (.Tuple elts kk tpos) (IteB K k1 a1) [e, it] e (fun i h => (∃ old, IsEnum h e it ((i : Nat) : Int) old) ∧ SdIt k1 h it a1 i) where
  mem := by simp
  obj := fun i h st b hb => by
    obtain ⟨⟨old, he⟩, s1⟩ := st
    have e' : b = e ∨ b = it := by simpa using hb
    rcases e' with z | z
    · rw [z]; exact ⟨_, he, fun v q => nomatch q⟩
    · rw [z]; exact sd_obj s1
  keep := fun i h h' st k => let ⟨⟨old, he⟩, hi⟩ := st; ⟨⟨old, k e (by simp) _ he⟩, sd_keep hi fun o q => k it (by simp) o q⟩
  item := by
    intro X hP hw hK hc i pins s σ H E I hf st hg
    subst hP hw hK
    obtain ⟨⟨old, he⟩, hit⟩ := st
    obtain ⟨xs, x, hq, hx⟩ := hg
    obtain ⟨its, rv, p, _⟩ := sd_of I hq
    obtain ⟨u, hu, ru⟩ := rv.get hx
    have hel : e < s.heap.objs.size := Heap.lt_size he
    have hil : it < s.heap.objs.size := by obtain ⟨_, q, _⟩ := sd_obj hit; exact Heap.lt_size q
    have hd : X.A.in1.handled = none := I.ok.hd hc
    refine wpAny_pyNext_enum_itemD (sd_draws hd k1 it a1 h1 its) he ⟨hit, p⟩ (List.getElem?_eq_some_iff.mp hu).1 hne (by simp [hne, hea]) fun v h' tk q ho hst hT hsz hk => ?_
    have q : some u = some v := hu.symm.trans q
    cases q
    refine ⟨_, rfl, wpAny_letOwnedTupleGo_enum (s := { s with heap := h', toks := tk + 1 }) ho fun h'' he' sb => ?_⟩
    have hT2 : h''.get? s.heap.objs.size = some { cls := .type "tuple", data := .seq #[.int i tk, u] } := (sb.2 _ (Nat.ne_of_gt hel)).trans hT
    have new : ObjOk X.prog X.w (upd H s.heap.objs.size (.tup [.int (i : Nat), x])) h'' s.heap.objs.size (.tup [.int (i : Nat), x]) :=
      ⟨by show 2 ≤ sizeLine; decide, [.int i tk, u], .cons ⟨_, rfl⟩ (.cons ru .nil), ⟨_, hT2, rfl, _, rfl⟩⟩
    have I1 : Inv X pins σ (upd H s.heap.objs.size (.tup [.int (i : Nat), x])) { s with heap := h'', toks := tk + 1 } :=
      I.turnedNew (t' := tk + 1) (ch := [e, it]) (fun b ob hb q => (sb.2 b (fun z => hb (by simp [z]))).trans (hk b ob (fun z => hb (by simp [z])) (fun z => hb (by simp [z])) q)) hf (Nat.le_refl _) new
    refine ⟨.ref s.heap.objs.size, _, I1, rfl, ⟨_, x, rfl, I.hok.fresh (Nat.le_refl _), rfl, fun ys hy => by rw [sd_inj I hy hq]; exact hx⟩, ⟨⟨u, ?_⟩, sd_keep hst.1 fun o q => (sb.2 it (Ne.symm hne)).trans q⟩, fun b hb => ?_⟩
    · have e1 : ((i + 1 : Nat) : Int) = (i : Int) + 1 := by omega
      rw [e1]; exact he'
    · have hb' : b < s.heap.objs.size := by
        have e' : b = e ∨ b = it := by simpa using hb
        rcases e' with z | z
        · rw [z]; exact hel
        · rw [z]; exact hil
      rw [upd_ne (Nat.ne_of_lt hb')]
      exact (hf b hb).1
  done := by
    intro X hP hw hK hc i pins s σ H E I hf st hg
    subst hP hw hK
    obtain ⟨⟨old, he⟩, hit⟩ := st
    obtain ⟨xs, hq, hx⟩ := hg
    obtain ⟨its, rv, p, _⟩ := sd_of I hq
    have l1 : its.length = i := by rw [← rv.length]; exact hx
    subst l1
    have hd : X.A.in1.handled = none := I.ok.hd hc
    obtain ⟨f0, f1, f2, f3, f4, f5⟩ := hf it (by simp)
    exact wpAny_pyNext_enum_endD (sd_draws hd k1 it a1 h1 its) he ⟨hit, p⟩ fun h' eb => ⟨rfl, I.turned (t' := s.toks) (fun b o hb q => eb b o hb q) f0 f1 f3 f4 f5⟩
  self := fun A i s Q E st h => let ⟨⟨_, he⟩, _⟩ := st; wpAny_pyIter_enum he h
/-! the calls -/
section
variable {M : Model} {A : Around} {E : Value → Shared → Prop} {s : Shared} {env : Env}
theorem callWith_typeKw {pos : Pos} {T : String} {e : Expr} {rest : List Expr} {kws : List Keyword} {Q : Value → Shared → Prop}
    (h : wpAny M A (spliced (backTo pos (starEach (e :: rest) env))) (fun vs s1 => wpAny M A (evalAll ((backToKw pos (keywordEach kws env)).map (·.2)))
      (fun kvs s2 => wpAny M A (call (.type T) vs (((backToKw pos (keywordEach kws env)).filterMap (·.1)).zip kvs)) Q E s2) E s1) E s)
    (he : starEach (e :: rest) env = (false, eval e env) :: starEach rest env) (hplain : (backTo pos (starEach rest env)).any (·.1) = false)
    (hall : (backToKw pos (keywordEach kws env)).all (·.1.isSome) = true) (hkw : (backToKw pos (keywordEach kws env)).any (·.1.isNone) = false) :
    wpAny M A (callWith pos (.type T) [] (backTo pos (starEach (e :: rest) env)) (backToKw pos (keywordEach kws env))) Q E s := by
  have hp2 : (backTo pos (starEach (e :: rest) env)).any (·.1) = false := by
    rw [he]
    show (false || (backTo pos (starEach rest env)).any (·.1)) = false
    rw [hplain]
    rfl
  have h2 : wpAny M A (evalArgs (.type T) true (backTo pos (starEach (e :: rest) env)) (backToKw pos (keywordEach kws env))) (fun a s1 => wpAny M A (call (.type T) a.pos a.kw) Q E s1) E s := by
    rw [he] at h ⊢
    exact evalArgs_kwB hall h
  unfold callWith
  refine wpAny_bind (wpAny_holding (wpAny_mono h2 (fun a s1 h1 => wpAny_bind (wpAny_standAt ?_)) fun _ _ x => x))
  simp only [hp2, hkw, Bool.or_false]
  refine wpAny_bind (wpAny_pure ?_)
  exact wpAny_bind (wpAny_mono h1 (fun r s2 hr => wpAny_bind (wpAny_holding (wpAny_point (wpAny_pure hr)))) fun _ _ x => x)
end
def iZipB (K : PySem.W.Frag) (ta : TA) : TI := fun σ H R => ta σ H fun vs H1 => ∃ a1 a2 k1 k2 xs ys, vs = [.ref a1, .ref a2] ∧ SdAt K k1 H1 a1 xs ∧ SdAt K k2 H1 a2 ys ∧ R (ItzB K k1 k2 a1 a2) H1
def iEnmB (K : PySem.W.Frag) (ta : TA) : TI := fun σ H R => ta σ H fun vs H1 => ∃ a1 k1 xs, vs = [.ref a1] ∧ SdAt K k1 H1 a1 xs ∧ R (IteB K k1 a1) H1
theorem sep_new {N a1 a2 : Addr} (h1 : a1 < N) (h2 : a2 < N) : ZipSep2 (N + 4) (N + 2) (N + 3) N (N + 1) [N, a1] [N + 1, a2] :=
  zip_sep2 (fp1 := [a1]) (fp2 := [a2]) (fun b hb => by rw [List.mem_singleton.mp hb]; exact h1) (fun b hb => by rw [List.mem_singleton.mp hb]; exact h2)
section
variable {X : Cx} {e e2 : Expr} {ta : TA} {p pos tpos : Pos} {elts : List Expr} {kk : Nat}
theorem zip_it {b k1 k2 : Bool} {pins : List (Addr × Obj)} {σ : L2.St} {H : Hp} {s : Shared} {a1 a2 : Addr} {R : It → Hp → Prop} {h' : Heap} (I : Inv X pins σ H s) (l1 : a1 < s.heap.objs.size) (l2 : a2 < s.heap.objs.size)
    (hz : ZipOk b h' (s.heap.objs.size + 4) (s.heap.objs.size + 2) (s.heap.objs.size + 3) .none) (hTI : IsTupOf2 h' (s.heap.objs.size + 2) (.ref s.heap.objs.size) (.ref (s.heap.objs.size + 1))) (hTO : IsTupOf2 h' (s.heap.objs.size + 3) .none .none)
    (g1 : h'.get? s.heap.objs.size = some (sdObj k1 a1)) (g2 : h'.get? (s.heap.objs.size + 1) = some (sdObj k2 a2)) (hk : ∀ c o, s.heap.get? c = some o → h'.get? c = some o) (q : R (ItzB X.K k1 k2 a1 a2) H) :
    wpAny (model X.prog X.w) X.A (pyIter (.ref (s.heap.objs.size + 4))) (PIE X pins σ (.Tuple elts kk tpos) R) X.xe { s with heap := h' } := by
  refine iter_zb (b := b) hz ?_
  refine ⟨s.heap.objs.size + 4, [s.heap.objs.size + 4, s.heap.objs.size + 2, s.heap.objs.size + 3, s.heap.objs.size, s.heap.objs.size + 1], _, _, H, rfl, I.kept (t' := s.toks) hk, turn_zb (b := b) (sep_new l1 l2) (Nat.ne_of_lt l1) (Nat.ne_of_lt (Nat.lt_succ_of_lt l2)), ⟨hz, hTI, ⟨_, _, hTO⟩, sd_new k1 g1, sd_new k2 g2⟩, fun c hcm => ?_, q⟩
  have e' : c = s.heap.objs.size + 4 ∨ c = s.heap.objs.size + 2 ∨ c = s.heap.objs.size + 3 ∨ c = s.heap.objs.size ∨ c = s.heap.objs.size + 1 := by simpa using hcm
  have hle : s.heap.objs.size ≤ c := by
    rcases e' with z | z | z | z | z <;> rw [z]
    · exact Nat.le_add_right _ _
    · exact Nat.le_add_right _ _
    · exact Nat.le_add_right _ _
    · exact Nat.le_refl _
    · exact Nat.le_add_right _ _
  exact I.fpOk hle (I.hok.fresh hle)
theorem pi_zipB (hg : Gl X "zip") (hm : X.mg "zip" = none) (ha : PA X [e, e2] ta) (hs : starEach [e, e2] X.env = (false, eval e X.env) :: starEach [e2] X.env) (hpl : (backTo pos (starEach [e2] X.env)).any (·.1) = false) :
    PI X (.Tuple elts kk tpos) (.Call (.Name "zip" p) [e, e2] [] pos) (iZipB X.K ta) := by
  refine ⟨fun pins s σ H R I h => ?_⟩
  refine Call_ (ld_blt I hg hm PyProof.Rows.boot_zip (PyProof.Rows.callWith_type1 (thn (ha.run pos pins s σ H _ I h) fun us s1 ⟨vs, H1, I1, r1, q1⟩ => ?_) hs hpl))
  obtain ⟨a1, a2, k1, k2, xs, ys, ex, hqx, hqy, q1⟩ := q1
  subst ex
  cases r1 with
  | cons r rr =>
    cases rr with
    | cons r' rr =>
      cases rr
      cases r
      cases r'
      obtain ⟨its, _, p1, l1⟩ := sd_of I1 hqx
      obtain ⟨its2, _, p2, l2⟩ := sd_of I1 hqy
      exact zip_begins2 (sd_begins k1 a1 its) (sd_begins k2 a2 its2) p1 p2 fun h' hz hTI hTO g1 g2 _ hk => zip_it (b := false) I1 l1 l2 hz hTI hTO g1 g2 hk q1
theorem pi_zipS {kp : Pos} {j : Nat} {kpos : Pos} (hg : Gl X "zip") (hm : X.mg "zip" = none) (ha : PA X [e, e2] ta) (hs : starEach [e, e2] X.env = (false, eval e X.env) :: starEach [e2] X.env) (hpl : (backTo pos (starEach [e2] X.env)).any (·.1) = false) :
    PI X (.Tuple elts kk tpos) (.Call (.Name "zip" p) [e, e2] [⟨some (Str.ofString "strict"), .Constant (.bool true) j kp, kpos⟩] pos) (iZipB X.K ta) := by
  refine ⟨fun pins s σ H R I h => ?_⟩
  refine wpAny_Call_Name_kw (ld_blt I hg hm PyProof.Rows.boot_zip (callWith_typeKw (thn (ha.run pos pins s σ H _ I h) fun us s1 ⟨vs, H1, I1, r1, q1⟩ => ?_) hs hpl rfl rfl))
  obtain ⟨a1, a2, k1, k2, xs, ys, ex, hqx, hqy, q1⟩ := q1
  subst ex
  have hk : PK X [⟨some (Str.ofString "strict"), .Constant (.bool true) j kp, kpos⟩] (tCons (tC (.bl true)) tNil) := pk_cons pe_bl pk_nil
  refine thn (hk.run pos pins s1 σ H1 (fun zs H2 => zs = [.bl true] ∧ H2 = H1) I1 ⟨rfl, rfl⟩) fun ws s2 ⟨zs, H2, I2, rz, ez, eH⟩ => ?_
  subst ez
  subst eH
  cases r1 with
  | cons r rr =>
    cases rr with
    | cons r' rr =>
      cases rr
      cases r
      cases r'
      cases rz with
      | cons z zz =>
        cases zz
        cases z
        obtain ⟨its, _, p1, l1⟩ := sd_of I2 hqx
        obtain ⟨its2, _, p2, l2⟩ := sd_of I2 hqy
        exact zip_beginsKw (sd_begins k1 a1 its) (sd_begins k2 a2 its2) p1 p2 fun h' hz hTI hTO g1 g2 hk => zip_it (b := true) I2 l1 l2 hz hTI hTO g1 g2 hk q1
end
/-! enumerate(v) -/
theorem meets_enum1 {v : Value} {o : Obj} {H : Heap → Prop} (B : Begins v o H) :
    Meets (Builtin.«enumerate.__new__» ⟨[.type "enumerate", v], []⟩) (fun _ R s => H s.heap ∧
      R (.ok (.ret (.ref (s.heap.push o).objs.size))) { s with heap := (s.heap.push o).push { cls := .type "enumerate", data := .fields #[.none, .bool false, .ref s.heap.objs.size, rawInt 0, .none, .none] } }) :=
  .of_wp fun prog w A R s h => by
    obtain ⟨hp, g, d, tk, os⟩ := s; obtain ⟨h1, h⟩ := h
    have hsub := sub_enumerate
    have q1 : ∀ {A' : Around} {E : Value → Shared → Prop} {Q : Value → Shared → Prop}, Q (.ref hp.objs.size) ⟨hp.push o, g, d, tk, os⟩ → wpAny (model prog w) A' (pyIter v) Q E ⟨hp, g, d, tk, os⟩ :=
      fun q => B.iter prog w _ _ ⟨hp, g, d, tk, os⟩ _ h1 q
    wp_walk using q1
    refine wpAny_stack_any fun st => wpAny_pure ?_
    split
    · rename_i c _ _ _ _ _
      cases (c == Value.type "enumerate")
      · wp_walk using q1
        exact ⟨_, rfl, h⟩
      · wp_walk using q1
        exact ⟨_, rfl, h⟩
    · wp_walk using q1
      exact ⟨_, rfl, h⟩
section
variable {prog : Program} {w : World} {A : Around} {E : Value → Shared → Prop} {s : Shared}
theorem enum_begins1 {v : Value} {o : Obj} {H : Heap → Prop} {Q : Value → Shared → Prop} (B : Begins v o H) (h1 : H s.heap)
    (h : ∀ h', IsEnum h' (s.heap.objs.size + 1) s.heap.objs.size 0 .none → h'.get? s.heap.objs.size = some o →
      (∀ b o, s.heap.get? b = some o → h'.get? b = some o) → Q (.ref (s.heap.objs.size + 1)) { s with heap := h' }) :
    wpAny (model prog w) A (call (.type "enumerate") [v]) Q E s := by
  refine callType_new F.called_enumerate (by decide) (F.typeCall_enumerate_1 _) (F.newCall_enumerate_1 _) (fun obj => F.args_object_init_2 obj _) F.entry_enumerate_new
    (meets_enum1 B) ⟨h1, ?_⟩
  have hz : (s.heap.push o).objs.size = s.heap.objs.size + 1 := Heap.size_push ..
  show _ ∧ _
  rw [hz]
  have he : IsEnum ((s.heap.push o).push { cls := .type "enumerate", data := .fields #[.none, .bool false, .ref s.heap.objs.size, rawInt 0, .none, .none] }) (s.heap.objs.size + 1) s.heap.objs.size 0 .none := by
    have := Heap.get?_push_size (s.heap.push o) (o := { cls := .type "enumerate", data := .fields #[.none, .bool false, .ref s.heap.objs.size, rawInt 0, .none, .none] }) rfl
    rw [hz] at this; exact this
  exact ⟨⟨_, he, rfl⟩, h _ he (Heap.get?_push_of_some _ (Heap.get?_push_size _ B.free)) fun b o x => Heap.get?_push_of_some _ (Heap.get?_push_of_some _ x)⟩
end
theorem pi_enmB {X : Cx} {e : Expr} {ta : TA} {p pos tpos : Pos} {elts : List Expr} {kk : Nat} (hg : Gl X "enumerate") (hm : X.mg "enumerate" = none) (ha : PA X [e] ta) (hs : starEach [e] X.env = (false, eval e X.env) :: starEach [] X.env) :
    PI X (.Tuple elts kk tpos) (.Call (.Name "enumerate" p) [e] [] pos) (iEnmB X.K ta) := by
  refine ⟨fun pins s σ H R I h => ?_⟩
  refine Call_ (ld_blt I hg hm boot_enumerate (PyProof.Rows.callWith_type1 (thn (ha.run pos pins s σ H _ I h) fun us s1 ⟨vs, H1, I1, r1, q1⟩ => ?_) hs rfl))
  obtain ⟨a1, k1, xs, ex, hq, q⟩ := q1
  subst ex
  cases r1 with
  | cons r rr =>
    cases rr
    cases r
    obtain ⟨its, rv, p1, l1⟩ := sd_of I1 hq
    refine enum_begins1 (sd_begins k1 a1 its) p1 fun h' he g1 hk => wpAny_pyIter_enum he ?_
    refine ⟨s1.heap.objs.size + 1, [s1.heap.objs.size + 1, s1.heap.objs.size], _, _, H1, rfl, I1.kept (t' := s1.toks) hk, turn_eb (Nat.ne_of_lt l1) (Nat.succ_ne_self _) (Nat.ne_of_gt (Nat.lt_succ_of_lt l1)), ⟨⟨.none, he⟩, sd_new k1 g1⟩, fun b hb => ?_, q⟩
    have e' : b = s1.heap.objs.size + 1 ∨ b = s1.heap.objs.size := by simpa using hb
    have hle : s1.heap.objs.size ≤ b := by
      rcases e' with z | z
      · rw [z]; exact Nat.le_add_right _ _
      · rw [z]; exact Nat.le_refl _
    exact I1.fpOk hle (I1.hok.fresh hle)
end Mv

/-! Mx3c: zip, enumerate: the rules for the terms. -/
namespace Mv
open PySem PySem.Spec PyProof.Rows L2
section
variable {K : PySem.W.Frag} {ι : Nat → Addr} {H : Hp} {L : LH}
/-- a side: a tuple's value, or a list's place -/
inductive SdOk (K : PySem.W.Frag) (H : Hp) (ι : Nat → Addr) (n : Nat) : Bool → Addr → LV → Prop
  | tup {a : Addr} {xs : List V} {ds : List LV} : SqT K H a xs → RVs K H ι n xs ds → SdOk K H ι n false a (.tup ds)
  | lst (k : Nat) : k < n → SdOk K H ι n true (ι k) (.ref k)
theorem SdOk.mono {b : Bool} {a : Addr} {d : LV} {n n' : Nat} {ι' : Nat → Addr} {H' : Hp} (h : SdOk K H ι n b a d) (ev : Ev K ι H n ι' H' n') : SdOk K H' ι' n' b a d := by
  cases h with
  | tup h r => exact .tup (ev.tp _ _ h) (r.mono ev)
  | lst k hk =>
    rw [← ev.pl k hk]
    exact .lst k (Nat.lt_of_lt_of_le hk ev.le)
theorem SdOk.at {b : Bool} {a : Addr} {d : LV} {ds : List LV} (h : SdOk K H ι L.length b a d) (rp : Rep K ι H L) (e : Mv.items L d = some ds) : ∃ xs, SdAt K b H a xs ∧ RVs K H ι L.length xs ds := by
  cases h with
  | tup h r =>
    cases e
    exact ⟨_, h, r⟩
  | lst k hk => exact rp.listOf e
theorem RV.side {v : V} {d : LV} {ds : List LV} (r : RV K H ι L.length v d) (e : Mv.items L d = some ds) : ∃ b a, v = .ref a ∧ SdOk K H ι L.length b a d := by
  cases d with
  | tup ys =>
    obtain ⟨a, xs, rfl, h, rr⟩ := r.tupV
    exact ⟨false, a, rfl, .tup h rr⟩
  | ref k =>
    cases r with
    | ref _ hk => exact ⟨true, _, rfl, .lst k hk⟩
  | _ => cases e
theorem srcR_zip {b1 b2 : Bool} {a1 a2 : Addr} {d1 d2 : LV} {k : Nat} (h1 : SdOk K H ι L.length b1 a1 d1) (h2 : SdOk K H ι L.length b2 a2 d2) : SrcR K H ι L.length (ItzB K b1 b2 a1 a2) (.zipd d1 d2 k) := by
  intro H' ι' L' ev rp
  have h1 := h1.mono ev
  have h2 := h2.mono ev
  refine ⟨fun i d e => ?_, fun e => ?_⟩
  · have e : (Mv.items L' d1).bind (fun xs => (Mv.items L' d2).bind fun ys => (xs[i]?).bind fun a => (ys[i]?).map fun b => LV.tup [a, b]) = some d := e
    obtain ⟨xs, e1, e⟩ := Option.bind_eq_some_iff.mp e
    obtain ⟨ys, e2, e⟩ := Option.bind_eq_some_iff.mp e
    obtain ⟨a, e3, e⟩ := Option.bind_eq_some_iff.mp e
    obtain ⟨b, e4, e⟩ := Option.map_eq_some_iff.mp e
    subst e
    obtain ⟨us, q1, r1⟩ := h1.at rp e1
    obtain ⟨ws, q2, r2⟩ := h2.at rp e2
    obtain ⟨u, hu, ru⟩ := r1.get e3
    obtain ⟨w, hw, rw'⟩ := r2.get e4
    refine ⟨⟨us, ws, u, w, q1, q2, hu, hw⟩, fun x H2 y => ?_⟩
    obtain ⟨T, u', w', rfl, hT, rfl, f1, f2⟩ := y
    have z1 := f1 us q1
    rw [hu] at z1
    cases z1
    have z2 := f2 ws q2
    rw [hw] at z2
    cases z2
    have ev2 : Ev K ι' H' L'.length ι' (upd H' T (.tup [u, w])) L'.length := Ev.fresh hT
    exact ⟨ev2, rp.free hT, .tup (SqT.of (upd_same)) (.cons (ru.mono ev2) (.cons (rw'.mono ev2) .nil))⟩
  · have e : (decide ((Mv.items L' d1).map List.length = some k) && decide ((Mv.items L' d2).map List.length = some k)) = true := e
    rw [Bool.and_eq_true, decide_eq_true_eq, decide_eq_true_eq] at e
    obtain ⟨xs, e1, l1⟩ := Option.map_eq_some_iff.mp e.1
    obtain ⟨ys, e2, l2⟩ := Option.map_eq_some_iff.mp e.2
    obtain ⟨us, q1, r1⟩ := h1.at rp e1
    obtain ⟨ws, q2, r2⟩ := h2.at rp e2
    exact ⟨us, ws, q1, q2, by rw [r1.length]; exact l1, by rw [r2.length]; exact l2⟩
theorem srcR_enm {b1 : Bool} {a1 : Addr} {d1 : LV} {k : Nat} (h1 : SdOk K H ι L.length b1 a1 d1) : SrcR K H ι L.length (IteB K b1 a1) (.enmd d1 k) := by
  intro H' ι' L' ev rp
  have h1 := h1.mono ev
  refine ⟨fun i d e => ?_, fun e => ?_⟩
  · have e : (Mv.items L' d1).bind (fun xs => (xs[i]?).map fun a => LV.tup [.int (i : Nat), a]) = some d := e
    obtain ⟨xs, e1, e⟩ := Option.bind_eq_some_iff.mp e
    obtain ⟨a, e3, e⟩ := Option.map_eq_some_iff.mp e
    subst e
    obtain ⟨us, q1, r1⟩ := h1.at rp e1
    obtain ⟨u, hu, ru⟩ := r1.get e3
    refine ⟨⟨us, u, q1, hu⟩, fun x H2 y => ?_⟩
    obtain ⟨T, u', rfl, hT, rfl, f1⟩ := y
    have z1 := f1 us q1
    rw [hu] at z1
    cases z1
    have ev2 : Ev K ι' H' L'.length ι' (upd H' T (.tup [.int (i : Nat), u])) L'.length := Ev.fresh hT
    exact ⟨ev2, rp.free hT, .tup (SqT.of (upd_same)) (.cons (.int _) (.cons (ru.mono ev2) .nil))⟩
  · have e : decide ((Mv.items L' d1).map List.length = some k) = true := e
    obtain ⟨xs, e1, l1⟩ := Option.map_eq_some_iff.mp (of_decide_eq_true e)
    obtain ⟨us, q1, r1⟩ := h1.at rp e1
    exact ⟨us, q1, by rw [r1.length]; exact l1⟩
end
section
variable {X : Cx} {W : XW} {a b : Expr} {ma mb : LSt → M LV} {pos p tpos : Pos} {elts : List Expr} {kk : Nat}
def zipM (ma mb : LSt → M LV) : LSt → M Src := fun σ => M.bind (ma σ) fun x => M.bind (mb σ) fun y => zipK x y
theorem zip_go {ta : TA} (ht : ta = tCons (tI X.K W ma) (tCons (tI X.K W mb) tNil)) {σV : L2.St} {H : Hp} {R : It → Hp → Prop} (h : tSrc X.K W (zipM ma mb) σV H R) : iZipB X.K ta σV H R := by
  subst ht
  obtain ⟨ι, σ, L, h⟩ := h
  refine ⟨ι, σ, L, (At.bind (R := RVr X.K) h).imp fun x H1 ⟨d, ι1, L1, r1, ev, h⟩ => ?_⟩
  refine ⟨ι1, σ, L1, (At.bind (R := RVr X.K) h).imp fun y H2 ⟨e, ι2, L2, r2, ev2, h⟩ => ?_⟩
  obtain ⟨k, e1, h⟩ := At.look (g := fun L => zipLen L d e) h
  obtain ⟨xs, q1, e1⟩ := Option.bind_eq_some_iff.mp e1
  obtain ⟨ys, q2, e1⟩ := Option.bind_eq_some_iff.mp e1
  obtain ⟨b1, a1, rfl, s1⟩ := (r1.mono ev2).side q1
  obtain ⟨b2, a2, rfl, s2⟩ := r2.side q2
  obtain ⟨us, t1, _⟩ := s1.at h.rep q1
  obtain ⟨ws, t2, _⟩ := s2.at h.rep q2
  exact ⟨a1, a2, b1, b2, us, ws, rfl, t1, t2, h.ret (srcR_zip s1 s2)⟩
theorem i_zip (hg : Gl X "zip") (hm : X.mg "zip" = none) (ha : PE X a (tI X.K W ma)) (hb : PE X b (tI X.K W mb)) (hs : starEach [a, b] X.env = (false, eval a X.env) :: starEach [b] X.env) (hs2 : starEach [b] X.env = (false, eval b X.env) :: starEach [] X.env) (hpl : (backTo pos (starEach [b] X.env)).any (·.1) = false) :
    PI X (.Tuple elts kk tpos) (.Call (.Name "zip" p) [a, b] [] pos) (tSrc X.K W (zipM ma mb)) :=
  PI.imp (pi_zipB hg hm (pa_cons ha (pa_cons hb pa_nil hs2) hs) hs hpl) fun σV H R h => zip_go rfl h
theorem i_zipS {kp kpos : Pos} {j : Nat} (hg : Gl X "zip") (hm : X.mg "zip" = none) (ha : PE X a (tI X.K W ma)) (hb : PE X b (tI X.K W mb)) (hs : starEach [a, b] X.env = (false, eval a X.env) :: starEach [b] X.env) (hs2 : starEach [b] X.env = (false, eval b X.env) :: starEach [] X.env) (hpl : (backTo pos (starEach [b] X.env)).any (·.1) = false) :
    PI X (.Tuple elts kk tpos) (.Call (.Name "zip" p) [a, b] [⟨some (Str.ofString "strict"), .Constant (.bool true) j kp, kpos⟩] pos) (tSrc X.K W (zipM ma mb)) :=
  PI.imp (pi_zipS hg hm (pa_cons ha (pa_cons hb pa_nil hs2) hs) hs hpl) fun σV H R h => zip_go rfl h
def enmM (ma : LSt → M LV) : LSt → M Src := fun σ => M.bind (ma σ) enmK
theorem i_enm (hg : Gl X "enumerate") (hm : X.mg "enumerate" = none) (ha : PE X a (tI X.K W ma)) (hs : starEach [a] X.env = (false, eval a X.env) :: starEach [] X.env) :
    PI X (.Tuple elts kk tpos) (.Call (.Name "enumerate" p) [a] [] pos) (tSrc X.K W (enmM ma)) :=
  PI.imp (pi_enmB hg hm (pa_cons ha pa_nil hs) hs) fun σV H R h => by
    obtain ⟨ι, σ, L, h⟩ := h
    refine ⟨ι, σ, L, (At.bind (R := RVr X.K) h).imp fun x H1 ⟨d, ι1, L1, r1, ev, h⟩ => ?_⟩
    obtain ⟨k, e1, h⟩ := At.look (g := fun L => (Mv.items L d).map List.length) h
    obtain ⟨xs, q1, e1⟩ := Option.map_eq_some_iff.mp e1
    obtain ⟨b1, a1, rfl, s1⟩ := r1.side q1
    obtain ⟨us, t1, _⟩ := s1.at h.rep q1
    exact ⟨a1, b1, us, rfl, t1, h.ret (srcR_enm s1)⟩
end
end Mv

/-! Mv10: the comprehension's rule, statements. -/
namespace Mv
open PySem PySem.Spec PyProof.Rows L2

section
variable {X : Cx} {W : XW} {tg iter elt : Expr} {ifs : List Expr} {scope : Scope} {own : List (Str × Nat)} {pos : Pos}
  {mt : LV → LSt → M LSt} {mi : LSt → M Src} {mc : LSt → M Bool} {me : LSt → M LV}
/-- what holds in every block of a comprehension -/
abbrev AllB (X : Cx) (scope : Scope) (p : Cx → Prop) : Prop := ∀ (s : Shared) (H : Hp) (C : Addr) (cl : List (Str × Addr)) (fp : List Addr), p (X.blk s H scope (compEnvC scope cl C X.env) fp)
theorem e_comp (G : Good X) (hW : WInv W) (hi : PI X tg iter (tSrc X.K W mi)) (ok : BlkOk X.N X.env.scope scope own)
    (hg : AllB X scope fun Y => PG Y tg (tgI X.K W (own.map (·.2)) mt)) (ht : AllB X scope fun Y => PTs Y ifs (tG X.K W Eqr mc)) (he : AllB X scope fun Y => PE Y elt (tI X.K W me))
    (hs : ∀ x, foldedSetIterable iter X.env x = pure x) : PE X (.ListComp elt [⟨tg, iter, ifs, 0⟩] scope pos) (tI X.K W (compM (own.map (·.2)) mt mi mc me)) :=
  PE.imp (pe_lc G.calm G.nd hi ok hg ht he hs) fun σ H Q h => comp_at hW h
theorem Good.blk (G : Good X) {s : Shared} {H : Hp} {C : Addr} {cl : List (Str × Addr)} {fp : List Addr} : Good (X.blk s H scope (compEnvC scope cl C X.env) fp) := ⟨G.calm, G.hg, G.hu, G.nd, G.dg⟩
end

/-! ### how a block of statements ends -/
inductive FlV where
  | nx | bk | ct | rt (v : V)
def sameFl (K : PySem.W.Frag) (H : Hp) (ι : Nat → Addr) (n : Nat) : FlV → Fl → Prop
  | .nx, .nx => True
  | .bk, .bk => True
  | .ct, .ct => True
  | .rt v, .rt d => RV K H ι n v d
  | _, _ => False
def FlR (K : PySem.W.Frag) (n0 : Nat) : Rl (Fl × LSt) (FlV × L2.St) := fun H ι n v d => RS K H ι n v.2 d.2 ∧ v.2.length = n0 ∧ sameFl K H ι n v.1 d.1
def endsQ (D : Ends) : FlV × L2.St → Hp → Prop := fun v H => match v.1 with
  | .nx => D.nx v.2 H
  | .bk => D.bk v.2 H
  | .ct => D.ct v.2 H
  | .rt u => D.rt u H
def tS (K : PySem.W.Frag) (W : XW) (m : LSt → M (Fl × LSt)) : TS := fun D σV H => tG K W (FlR K σV.length) m σV H (endsQ D)
section
variable {K : PySem.W.Frag} {W : XW} {D : Ends} {σV σ1V : L2.St} {σ σ1 : LSt} {ι : Nat → Addr} {L : LH} {H : Hp} {n0 : Nat}
theorem At.nx (h : At K W (FlR K n0) σV σ ι L (M.ret (Fl.nx, σ1) L) (endsQ D) H) (r : RS K H ι L.length σ1V σ1) (hl : σ1V.length = n0) : D.nx σ1V H := At.ret (v := (FlV.nx, σ1V)) h ⟨r, hl, trivial⟩
theorem At.rt {d : LV} {v : V} (h : At K W (FlR K n0) σV σ ι L (M.ret (Fl.rt d, σ1) L) (endsQ D) H) (r : RS K H ι L.length σ1V σ1) (hl : σ1V.length = n0) (rv : RV K H ι L.length v d) : D.rt v H := At.ret (v := (FlV.rt v, σ1V)) h ⟨r, hl, rv⟩
theorem At.bk (h : At K W (FlR K n0) σV σ ι L (M.ret (Fl.bk, σ1) L) (endsQ D) H) (r : RS K H ι L.length σ1V σ1) (hl : σ1V.length = n0) : D.bk σ1V H := At.ret (v := (FlV.bk, σ1V)) h ⟨r, hl, trivial⟩
theorem At.ct (h : At K W (FlR K n0) σV σ ι L (M.ret (Fl.ct, σ1) L) (endsQ D) H) (r : RS K H ι L.length σ1V σ1) (hl : σ1V.length = n0) : D.ct σ1V H := At.ret (v := (FlV.ct, σ1V)) h ⟨r, hl, trivial⟩
/-- on from other names -/
theorem At.onS (hW : WInv W) {m : LSt → M (Fl × LSt)} (h : At K W (FlR K σV.length) σV σ ι L (m σ1 L) (endsQ D) H) (r : RS K H ι L.length σ1V σ1) (hl : σ1V.length = σV.length) : tS K W m D σ1V H := by
  have h := h.rebase hW r hl
  rw [← hl] at h
  exact ⟨ι, σ1, L, h⟩
end
def seqM (m1 m2 : LSt → M (Fl × LSt)) : LSt → M (Fl × LSt) := fun σ => M.bind (m1 σ) fun (x : Fl × LSt) => match x with
    | (.nx, σ1) => m2 σ1
    | (f, σ1) => M.ret (f, σ1)
def asgM (me : LSt → M LV) (mt : LV → LSt → M LSt) : LSt → M (Fl × LSt) := fun σ => M.bind (me σ) fun x => M.bind (mt x σ) fun σ1 => M.ret (.nx, σ1)
def ifsM (mc : LSt → M LV) (ma mb : LSt → M (Fl × LSt)) : LSt → M (Fl × LSt) := fun σ => M.bind (mc σ) fun x => match x with
    | .bl true => ma σ
    | .bl false => mb σ
    | _ => M.no
def forM (mi : LSt → M Src) (mt : LV → LSt → M LSt) (mb : LSt → M (Fl × LSt)) : LSt → M (Fl × LSt) := fun σ => M.bind (mi σ) fun src => forGo src (fun x σ1 => M.bind (mt x σ1) fun σ2 => mb σ2) src.len 0 σ
def augM (i : Nat) (op : BOp) (me : LSt → M LV) : LSt → M (Fl × LSt) := fun σ => M.bind (getV σ i) fun x => M.bind (me σ) fun y => M.bind (augV op x y) fun z => M.ret (.nx, σ.set i (some z))
def parM (is : List Nat) (ms : LSt → M (List LV)) : LSt → M (Fl × LSt) := fun σ => M.bind (ms σ) fun xs => M.ofO (setAll σ is xs) fun σ1 => M.ret (.nx, σ1)
section
variable {X : Cx} {W : XW} {st : Stmt} {rest : List Stmt} {e tg c : Expr} {pos : Pos} {me mc : LSt → M LV} {m1 m2 : LSt → M (Fl × LSt)} {mt : LV → LSt → M LSt} {own : List Nat}
theorem b_nil : PSs X [] (tS X.K W fun σ => M.ret (.nx, σ)) := PSs.imp pss_nil fun D σV H ⟨ι, σ, L, h⟩ => h.nx h.rs rfl
theorem b_cons (hW : WInv W) (h1 : PS X st (tS X.K W m1)) (h2 : PSs X rest (tS X.K W m2)) : PSs X (st :: rest) (tS X.K W (seqM m1 m2)) :=
  PSs.imp (pss_cons h1 h2) fun D σV H ⟨ι, σ, L, h⟩ => by
    refine ⟨ι, σ, L, (At.bind (R := FlR X.K σV.length) h).imp fun v H1 ⟨d, ι1, L1, q, ev, h⟩ => ?_⟩
    obtain ⟨f, σ1V⟩ := v
    obtain ⟨g, σ1⟩ := d
    obtain ⟨q1, q2, q3⟩ := q
    cases f with
    | nx =>
      cases g with
      | nx => exact At.onS hW h q1 q2
      | _ => exact False.elim q3
    | bk =>
      cases g with
      | bk =>
        have h : At X.K W (FlR X.K σV.length) σV σ ι1 L1 (M.ret (Fl.bk, σ1) L1) (endsQ D) H1 := h
        exact h.bk q1 q2
      | _ => exact False.elim q3
    | ct =>
      cases g with
      | ct =>
        have h : At X.K W (FlR X.K σV.length) σV σ ι1 L1 (M.ret (Fl.ct, σ1) L1) (endsQ D) H1 := h
        exact h.ct q1 q2
      | _ => exact False.elim q3
    | rt u =>
      cases g with
      | rt d => exact h.rt q1 q2 q3
      | _ => exact False.elim q3
theorem s_asg (he : PE X e (tI X.K W me)) (hg : PG X tg (tgI X.K W own mt)) (hs : swapsWithSole [tg] e pos.line X.env = pure false) (hw : swappedStores [tg] e X.env = pure none)
    (h1 : (assignEach [tg] X.env).map (·.2) = [assign tg X.env]) : PS X (.Assign [tg] e pos) (tS X.K W (asgM me mt)) :=
  PS.imp (ps_asg he hg hs hw h1) fun D σV H ⟨ι, σ, L, h⟩ => by
    refine ⟨ι, σ, L, (At.bind (R := RVr X.K) h).imp fun x H1 ⟨d, ι1, L1, r1, ev, h⟩ => ?_⟩
    refine ⟨ι1, σ, L1, d, r1, (At.bind (R := RSo X.K own σV) h).imp fun σ1 H2 ⟨σ', ι2, L2, q, ev2, h⟩ => ?_⟩
    exact h.nx q.1 q.2.1
/-- name = [.. for ..] on one line -/
theorem s_setLc {i : Nat} {y : Str} {py : Pos} {elt tg iter : Expr} {ifs : List Expr} {scope : Scope} {own : List (Str × Nat)} {pos spos : Pos} {mt : LV → LSt → M LSt} {mi : LSt → M Src} {mc : LSt → M Bool} {me : LSt → M LV}
    (G : Good X) (hW : WInv W) (hy : X.N[i]? = some y) (hyl : X.env.scope.names.lookup y = some .local)
    (hsw : swapsWith (.ListComp elt [⟨tg, iter, ifs, 0⟩] scope pos) (some (.Name y py)) spos.line X.env = pure true) (hi : PI X tg iter (tSrc X.K W mi)) (ok : BlkOk X.N X.env.scope scope own)
    (hg : AllB X scope fun Y => PG Y tg (tgI X.K W (own.map (·.2)) mt)) (ht : AllB X scope fun Y => PTs Y ifs (tG X.K W Eqr mc)) (he : AllB X scope fun Y => PE Y elt (tI X.K W me))
    (hs : ∀ x, foldedSetIterable iter X.env x = pure x) : PS X (.Assign [.Name y py] (.ListComp elt [⟨tg, iter, ifs, 0⟩] scope pos) spos) (tS X.K W (asgM (compM (own.map (·.2)) mt mi mc me) (nameM i))) :=
  PS.imp (ps_setLc G.calm G.nd hy hyl hsw hi ok hg ht he hs) fun D σV H ⟨ι, σ, L, h⟩ => by
    refine comp_at (Q := fun x H1 => gName i x σV H1 D.nx) hW ⟨ι, σ, L, (At.bind (R := RVr X.K) h).imp fun x H1 ⟨d, ι1, L1, r1, ev, h⟩ => ?_⟩
    have h : At X.K W _ σV σ ι1 L1 (M.bind (M.chk (decide (i < σ.length)) (M.ret (σ.set i (some d)))) (fun σ1 => M.ret (Fl.nx, σ1)) L1) _ H1 := h
    by_cases hl : i < σ.length
    · rw [decide_eq_true hl] at h
      exact At.nx (σ1V := σV.set i (some x)) h (h.rs.set i r1) (by rw [List.length_set])
    · rw [decide_eq_false hl] at h
      exact (At.no h).elim
theorem s_exp (he : PE X e (tI X.K W me)) (hs : swapsWith e none pos.line X.env = pure false) : PS X (.Expr e pos) (tS X.K W fun σ => M.bind (me σ) fun _ => M.ret (.nx, σ)) :=
  PS.imp (ps_expr he hs) fun D σV H ⟨ι, σ, L, h⟩ => ⟨ι, σ, L, (At.bind (R := RVr X.K) h).imp fun x H1 ⟨d, ι1, L1, r1, ev, h⟩ => h.nx h.rs rfl⟩
theorem s_ret (he : PE X e (tI X.K W me)) : PS X (.Return (some e) pos) (tS X.K W fun σ => M.bind (me σ) fun x => M.ret (.rt x, σ)) :=
  PS.imp (ps_ret he) fun D σV H ⟨ι, σ, L, h⟩ => ⟨ι, σ, L, (At.bind (R := RVr X.K) h).imp fun x H1 ⟨d, ι1, L1, r1, ev, h⟩ => h.rt h.rs rfl r1⟩
theorem s_retN : PS X (.Return none pos) (tS X.K W fun σ => M.ret (.rt .non, σ)) :=
  PS.imp ps_retN fun D σV H ⟨ι, σ, L, h⟩ => h.rt h.rs rfl .non
theorem s_pass : PS X (.Pass pos) (tS X.K W fun σ => M.ret (.nx, σ)) := PS.imp ps_pass fun D σV H ⟨ι, σ, L, h⟩ => h.nx h.rs rfl
theorem s_brk : PS X (.Break pos) (tS X.K W fun σ => M.ret (.bk, σ)) := PS.imp ps_break fun D σV H ⟨ι, σ, L, h⟩ => At.ret (v := (FlV.bk, σV)) h ⟨h.rs, rfl, trivial⟩
theorem s_cnt : PS X (.Continue pos) (tS X.K W fun σ => M.ret (.ct, σ)) := PS.imp ps_continue fun D σV H ⟨ι, σ, L, h⟩ => At.ret (v := (FlV.ct, σV)) h ⟨h.rs, rfl, trivial⟩
theorem s_ifs {a b : List Stmt} (hc : PT X c (tT X.K W mc)) (ha : PSs X a (tS X.K W m1)) (hb : PSs X b (tS X.K W m2)) : PS X (.If c a b pos) (tS X.K W (ifsM mc m1 m2)) :=
  PS.imp (ps_if hc ha hb) fun D σV H ⟨ι, σ, L, h⟩ => by
    refine ⟨ι, σ, L, (At.bind (R := RVr X.K) h).imp fun x H1 ⟨d, ι1, L1, r1, ev, h⟩ => ?_⟩
    cases d with
    | bl k =>
      cases r1
      refine ⟨k, rfl, ?_⟩
      cases k with
      | true => rw [if_pos rfl]; exact ⟨ι1, σ, L1, h⟩
      | false => rw [if_neg Bool.false_ne_true]; exact ⟨ι1, σ, L1, h⟩
    | _ => exact h.no.elim
theorem aug_ok (op : BOp) : PIp X (opOf op) (fun x y H Q => match op with
    | .add => rI0 (fun i j => .int (i + j)) x y H Q
    | .sub => rI0 (fun i j => .int (i - j)) x y H Q
    | .mul => rI CMul (fun i j => .int (i * j)) x y H Q
    | .fdiv => rI CDiv (fun i j => .int (i / j)) x y H Q
    | _ => False) := by
  cases op with
  | add => exact iop_add
  | sub => exact iop_sub
  | mul => exact iop_mul
  | fdiv => exact iop_fdiv
  | _ => exact fun _ _ _ _ _ _ _ _ _ _ _ _ h => h.elim
theorem s_aug {i : Nat} {x : Str} {p : Pos} (op : BOp) (G : Good X) (hi : X.N[i]? = some x) (hx : Loc X.env.scope x) (he : PE X e (tI X.K W me)) (hf : X.fn x = true ∨ X.env.scope.names.lookup x = some .local) :
    PS X (.AugAssign (.Name x p) (opOf op) e pos) (tS X.K W (augM i op me)) :=
  PS.imp (ps_aug G.nd hi hx he (aug_ok op) hf) fun D σV H ⟨ι, σ, L, h⟩ => by
    have h : At X.K W (FlR X.K σV.length) σV σ ι L (M.bind (getR σ[i]?) (fun x => M.bind (me σ) fun y => M.bind (augV op x y) fun z => M.ret (.nx, σ.set i (some z))) L) (endsQ D) H := h
    generalize e1 : σ[i]? = o at h
    cases o with
    | none => exact (At.no h).elim
    | some o =>
      cases o with
      | none => exact (At.no h).elim
      | some d0 =>
        obtain ⟨v0, h1, r0⟩ := h.rs.at_ i d0 e1
        have h : At X.K W (FlR X.K σV.length) σV σ ι L (M.bind (me σ) (fun y => M.bind (augV op d0 y) fun z => M.ret (.nx, σ.set i (some z))) L) (endsQ D) H := h
        refine ⟨v0, h1, ι, σ, L, (At.bind (R := RVr X.K) h).imp fun y H1 ⟨d, ι1, L1, r1, ev, h⟩ => ?_⟩
        have r0 := r0.mono ev
        have fin : ∀ {z : Int}, At X.K W (FlR X.K σV.length) σV σ ι1 L1 (M.ret (Fl.nx, σ.set i (some (.int z))) L1) (endsQ D) H1 → D.nx (σV.set i (some (.int z))) H1 := fun {z} h => h.nx (h.rs.set i (.int z)) (by rw [List.length_set])
        cases op with
        | add => cases d0 <;> cases d <;> first
          | exact (At.no h).elim
          | (cases r0; cases r1; exact ⟨_, _, rfl, rfl, fin h⟩)
        | sub => cases d0 <;> cases d <;> first
          | exact (At.no h).elim
          | (cases r0; cases r1; exact ⟨_, _, rfl, rfl, fin h⟩)
        | mul =>
          cases d0 with
          | int a =>
            cases d with
            | int b =>
              cases r0
              cases r1
              have h : At X.K W (FlR X.K σV.length) σV σ ι1 L1 (M.bind (M.chk (decide ((-(2 ^ 64) < a ∧ a < 2 ^ 64) ∨ (-(2 ^ 64) < b ∧ b < 2 ^ 64))) (M.ret (LV.int (a * b)))) (fun z => M.ret (Fl.nx, σ.set i (some z))) L1) (endsQ D) H1 := h
              by_cases c : (-(2 ^ 64) < a ∧ a < 2 ^ 64) ∨ (-(2 ^ 64) < b ∧ b < 2 ^ 64)
              · rw [decide_eq_true c] at h
                exact ⟨_, _, rfl, rfl, c, fin h⟩
              · rw [decide_eq_false c] at h
                exact (At.no h).elim
            | _ => exact (At.no h).elim
          | _ => cases d <;> exact (At.no h).elim
        | fdiv =>
          cases d0 with
          | int a =>
            cases d with
            | int b =>
              cases r0
              cases r1
              have h : At X.K W (FlR X.K σV.length) σV σ ι1 L1 (M.bind (M.chk (decide (0 < b ∧ b < 1073741824)) (M.ret (LV.int (a / b)))) (fun z => M.ret (Fl.nx, σ.set i (some z))) L1) (endsQ D) H1 := h
              by_cases c : 0 < b ∧ b < 1073741824
              · rw [decide_eq_true c] at h
                exact ⟨_, _, rfl, rfl, c, fin h⟩
              · rw [decide_eq_false c] at h
                exact (At.no h).elim
            | _ => exact (At.no h).elim
          | _ => cases d <;> exact (At.no h).elim
        | mod => cases d0 <;> cases d <;> exact (At.no h).elim
        | pow => cases d0 <;> cases d <;> exact (At.no h).elim
/-- a, b = x, y -/
theorem s_par {i j : Nat} {x y : Str} {a b : Expr} {ms : LSt → M (List LV)} {px py pt : Pos} {kt k2 pt2} (G : Good X) (hi : X.N[i]? = some x) (hj : X.N[j]? = some y) (hij : i ≠ j)
    (hx : X.env.scope.names.lookup x = some .local) (hy : X.env.scope.names.lookup y = some .local) (ha : PA X [a, b] (tIs X.K W ms))
    (hw : swappedStores [.Tuple [.Name x px, .Name y py] kt pt] (.Tuple [a, b] k2 pt2) X.env = pure (some [x, y]))
    (hs : swapsWithSole [.Tuple [.Name x px, .Name y py] kt pt] (.Tuple [a, b] k2 pt2) pos.line X.env = pure false) :
    PS X (.Assign [.Tuple [.Name x px, .Name y py] kt pt] (.Tuple [a, b] k2 pt2) pos) (tS X.K W (parM [i, j] ms)) :=
  PS.imp (L2.ps_par G.calm G.nd hi hj hij hx hy ha hw hs) fun D σV H ⟨ι, σ, L, h⟩ => by
    refine ⟨ι, σ, L, (At.bind (R := RVsr X.K) h).imp fun vs H1 ⟨ds, ι1, L1, r1, ev, h⟩ => ?_⟩
    obtain ⟨σ1, e, h⟩ := At.ofO h
    match ds, r1, e with
    | [], _, e => cases e
    | [_], _, e => unfold setAll at e; split at e <;> cases e
    | [d1, d2], .cons (v := v1) r1 (.cons (v := v2) r2 .nil), e =>
      unfold setAll at e
      split at e
      · unfold setAll at e
        split at e
        · cases e
          exact ⟨v1, v2, rfl, h.nx ((h.rs.set i r1).set j r2) (by rw [List.length_set, List.length_set])⟩
        · cases e
      · cases e
    | _ :: _ :: _ :: _, _, e =>
      unfold setAll at e
      split at e
      · unfold setAll at e
        split at e <;> cases e
      · cases e
/-- a, b, c = x, y, z -/
theorem s_par3 {i j l : Nat} {x y z : Str} {a b c : Expr} {ms : LSt → M (List LV)} {px py pz pt : Pos} {kt k2 pt2} (G : Good X) (hi : X.N[i]? = some x) (hj : X.N[j]? = some y) (hl : X.N[l]? = some z) (hij : i ≠ j) (hil : i ≠ l) (hjl : j ≠ l)
    (hx : X.env.scope.names.lookup x = some .local) (hy : X.env.scope.names.lookup y = some .local) (hz : X.env.scope.names.lookup z = some .local) (ha : PA X [a, b, c] (tIs X.K W ms))
    (hw : swappedStores [.Tuple [.Name x px, .Name y py, .Name z pz] kt pt] (.Tuple [a, b, c] k2 pt2) X.env = pure (some [x, y, z]))
    (hs : swapsWithSole [.Tuple [.Name x px, .Name y py, .Name z pz] kt pt] (.Tuple [a, b, c] k2 pt2) pos.line X.env = pure false) :
    PS X (.Assign [.Tuple [.Name x px, .Name y py, .Name z pz] kt pt] (.Tuple [a, b, c] k2 pt2) pos) (tS X.K W (parM [i, j, l] ms)) :=
  PS.imp (L2.ps_par3 G.calm G.nd hi hj hl hij hil hjl hx hy hz ha hw hs) fun D σV H ⟨ι, σ, L, h⟩ => by
    refine ⟨ι, σ, L, (At.bind (R := RVsr X.K) h).imp fun vs H1 ⟨ds, ι1, L1, r1, ev, h⟩ => ?_⟩
    obtain ⟨σ1, e, h⟩ := At.ofO h
    match ds, r1, e with
    | [], _, e => cases e
    | [_], _, e => unfold setAll at e; split at e <;> cases e
    | [_, _], _, e =>
      unfold setAll at e
      split at e
      · unfold setAll at e
        split at e <;> cases e
      · cases e
    | [d1, d2, d3], .cons (v := v1) r1 (.cons (v := v2) r2 (.cons (v := v3) r3 .nil)), e =>
      unfold setAll at e
      split at e
      · unfold setAll at e
        split at e
        · unfold setAll at e
          split at e
          · cases e
            exact ⟨v1, v2, v3, rfl, h.nx (((h.rs.set i r1).set j r2).set l r3) (by rw [List.length_set, List.length_set, List.length_set])⟩
          · cases e
        · cases e
      · cases e
    | _ :: _ :: _ :: _ :: _, _, e =>
      unfold setAll at e
      split at e
      · unfold setAll at e
        split at e
        · unfold setAll at e
          split at e <;> cases e
        · cases e
      · cases e
end

/-! ### loops -/
section
variable {X : Cx} {W : XW} {body : List Stmt} {iter tg c : Expr} {pos : Pos} {mc : LSt → M LV} {mb : LSt → M (Fl × LSt)} {mt : LV → LSt → M LSt} {mi : LSt → M Src} {own : List Nat}
/-- the body's end, inside a loop -/
theorem loop_end {K : PySem.W.Frag} {n0 : Nat} {D : Ends} {N : L2.St → Hp → Prop} {σV : L2.St} {σ : LSt} {ι : Nat → Addr} {L : LH} {H : Hp} {m : LSt → M (Fl × LSt)} (hW : WInv W) (hn : σV.length = n0)
    (h : At K W (FlR K n0) σV σ ι L (M.bind (mb σ) (fun (r : Fl × LSt) => match r with
      | (.nx, σ1) => m σ1
      | (.ct, σ1) => m σ1
      | (.bk, σ1) => M.ret (.nx, σ1)
      | (.rt v, σ1) => M.ret (.rt v, σ1)) L) (endsQ D) H)
    (hN : ∀ σ1V σ1 ι1 L1 H1, σ1V.length = n0 → Ev K ι H L.length ι1 H1 L1.length → At K W (FlR K n0) σ1V σ1 ι1 L1 (m σ1 L1) (endsQ D) H1 → N σ1V H1) : tS K W mb { D with nx := N, ct := N, bk := D.nx } σV H := by
  subst hn
  refine ⟨ι, σ, L, (At.bind (R := FlR K σV.length) h).imp fun v H1 ⟨d, ι1, L1, q, ev, h⟩ => ?_⟩
  obtain ⟨f, σ1V⟩ := v
  obtain ⟨g, σ1⟩ := d
  obtain ⟨q1, q2, q3⟩ := q
  cases f with
  | nx =>
    cases g with
    | nx => exact hN σ1V σ1 ι1 L1 H1 q2 ev (At.rebase hW h q1 q2)
    | _ => exact False.elim q3
  | bk =>
    cases g with
    | bk => exact h.nx q1 q2
    | _ => exact False.elim q3
  | ct =>
    cases g with
    | ct => exact hN σ1V σ1 ι1 L1 H1 q2 ev (At.rebase hW h q1 q2)
    | _ => exact False.elim q3
  | rt u =>
    cases g with
    | rt d => exact h.rt q1 q2 q3
    | _ => exact False.elim q3
theorem s_for (G : Good X) (hW : WInv W) (hp : PassesOwn (model X.prog X.w) X.A X.env X.xe) (hi : PI X tg iter (tSrc X.K W mi)) (hg : PG X tg (tgI X.K W own mt)) (hb : PSs X body (tS X.K W mb)) (hs : ∀ x, foldedSetIterable iter X.env x = pure x) :
    PS X (.For tg iter body [] pos) (tS X.K W (forM mi mt mb)) :=
  PS.imp (ps_for hp G.calm hi hg hb hs) fun D σV H ⟨ι, σ, L, h⟩ => by
    refine ⟨ι, σ, L, (At.bind (R := SrcR X.K) h).imp fun J H1 ⟨src, ι1, L1, hJ, ev1, h⟩ => ?_⟩
    refine ⟨fun i m σV' H' => m + i = src.len ∧ σV'.length = σV.length ∧ ∃ ι σ L, Ev X.K ι1 H1 L1.length ι H' L.length ∧ At X.K W (FlR X.K σV.length) σV' σ ι L (forGo src (fun x σ1 => M.bind (mt x σ1) fun σ2 => mb σ2) m i σ L) (endsQ D) H',
      ⟨src.len, rfl, rfl, ι1, σ, L1, Ev.refl, h⟩, ?_⟩
    rintro i m σV2 H2 ⟨em, hl2, ι2, σ2, L2, ev2, h⟩
    obtain ⟨j1, j2⟩ := hJ H2 ι2 L2 ev2 h.rep
    cases m with
    | zero =>
      have h : At X.K W (FlR X.K σV.length) σV2 σ2 ι2 L2 (if src.fin L2 then some (.ok (Fl.nx, σ2) L2) else none) (endsQ D) H2 := h
      cases hf : src.fin L2 with
      | false => rw [hf] at h; exact h.none.elim
      | true =>
        rw [hf] at h
        have ei : i = src.len := by omega
        have h : At X.K W (FlR X.K σV.length) σV2 σ2 ι2 L2 (M.ret (Fl.nx, σ2) L2) (endsQ D) H2 := h
        exact .inl ⟨by rw [ei]; exact j2 hf, h.nx h.rs hl2⟩
    | succ m =>
      have h : At X.K W (FlR X.K σV.length) σV2 σ2 ι2 L2 (match src.at i L2 with
        | none => none
        | some x => M.bind (M.bind (mt x σ2) fun σ3 => mb σ3) (fun (r : Fl × LSt) => match r with
          | (.nx, σ1) => forGo src (fun x σ1 => M.bind (mt x σ1) fun σ2 => mb σ2) m (i + 1) σ1
          | (.ct, σ1) => forGo src (fun x σ1 => M.bind (mt x σ1) fun σ2 => mb σ2) m (i + 1) σ1
          | (.bk, σ1) => M.ret (.nx, σ1)
          | (.rt v, σ1) => M.ret (.rt v, σ1)) L2) (endsQ D) H2 := h
      cases hx : src.at i L2 with
      | none => rw [hx] at h; exact h.none.elim
      | some x =>
        rw [hx] at h
        obtain ⟨j3, j4⟩ := j1 i x hx
        refine .inr ⟨j3, fun σV' H' => m + (i + 1) = src.len ∧ σV'.length = σV.length ∧ ∃ ι σ L, Ev X.K ι1 H1 L1.length ι H' L.length ∧ At X.K W (FlR X.K σV.length) σV' σ ι L (forGo src (fun x σ1 => M.bind (mt x σ1) fun σ2 => mb σ2) m (i + 1) σ L) (endsQ D) H', fun σ' H' z => ⟨m, Nat.lt_succ_self m, z⟩, fun xV H3 y => ?_⟩
        obtain ⟨ev3, rp3, rx⟩ := j4 xV H3 y
        have h := h.move ev3 rp3
        have h := At.eqr h (congrFun (M.bind_bind (mt x σ2) (fun σ3 => mb σ3) _) L2)
        refine ⟨ι2, σ2, L2, x, rx, (At.bind (R := RSo X.K own σV2) h).imp fun σV4 H4 ⟨σ4, ι4, L4, q4, ev4, h⟩ => ?_⟩
        have hl4 : σV4.length = σV.length := q4.2.1.trans hl2
        have h := At.rebase hW h q4.1 q4.2.1
        exact loop_end hW hl4 h fun σ1V σ1 ι5 L5 H5 hl5 ev5 h => ⟨by omega, hl5, ι5, σ1, L5, ((ev2.trans ev3).trans ev4).trans ev5, h⟩
theorem s_whl (G : Good X) (hW : WInv W) (hp : PassesOwn (model X.prog X.w) X.A X.env X.xe) (hc : PT X c (tT X.K W mc)) (hb : PSs X body (tS X.K W mb)) : PS X (.While c body [] pos) (tS X.K W fun σ => whlGo mc mb fuel σ) :=
  PS.imp (ps_while hp hc hb) fun D σV H ⟨ι, σ, L, h⟩ => by
    refine ⟨fun m σV' H' => σV'.length = σV.length ∧ ∃ ι σ L, At X.K W (FlR X.K σV.length) σV' σ ι L (whlGo mc mb m σ L) (endsQ D) H', ⟨fuel, rfl, ι, σ, L, h⟩, ?_⟩
    rintro m σV2 H2 ⟨hl2, ι2, σ2, L2, h⟩
    cases m with
    | zero => exact (At.no h).elim
    | succ m =>
      have h : At X.K W (FlR X.K σV.length) σV2 σ2 ι2 L2 (M.bind (mc σ2) (fun x => match x with
        | .bl false => M.ret (.nx, σ2)
        | .bl true => M.bind (mb σ2) fun (r : Fl × LSt) => match r with
          | (.nx, σ1) => whlGo mc mb m σ1
          | (.ct, σ1) => whlGo mc mb m σ1
          | (.bk, σ1) => M.ret (.nx, σ1)
          | (.rt v, σ1) => M.ret (.rt v, σ1)
        | _ => M.no) L2) (endsQ D) H2 := h
      refine ⟨ι2, σ2, L2, (At.bind (R := RVr X.K) h).imp fun x H3 ⟨d, ι3, L3, r3, ev3, h⟩ => ?_⟩
      cases d with
      | bl k =>
        cases r3
        refine ⟨k, rfl, ?_⟩
        cases k with
        | false =>
          rw [if_neg Bool.false_ne_true]
          exact At.nx h h.rs hl2
        | true =>
          rw [if_pos rfl]
          refine ⟨fun σV' H' => σV'.length = σV.length ∧ ∃ ι σ L, At X.K W (FlR X.K σV.length) σV' σ ι L (whlGo mc mb m σ L) (endsQ D) H', fun σ' H' z => ⟨m, Nat.lt_succ_self m, z⟩, ?_⟩
          exact loop_end hW hl2 h fun σ1V σ1 ι5 L5 H5 hl5 ev5 h => ⟨hl5, ι5, σ1, L5, h⟩
      | _ => exact (At.no h).elim
end
end Mv

/-! My1: instances of the program's own classes. -/
namespace Mv
open PySem PySem.Spec PyProof.Rows L2

theorem allN {α : Type} {p : α → Prop} : ∀ c ∈ ([] : List α), p c := fun _ h => (nomatch h)
theorem allC {α : Type} {p : α → Prop} {a : α} {l : List α} (h : p a) (t : ∀ c ∈ l, p c) : ∀ c ∈ a :: l, p c := fun c hc => by
  rcases List.mem_cons.mp hc with e | e
  · exact e ▸ h
  · exact t c e
theorem lookup_mem {α : Type} {c : Str} {g : α} : ∀ {cs : List (Str × α)}, cs.lookup c = some g → (c, g) ∈ cs
  | [], h => by cases h
  | (d, x) :: r, h => by
    rw [lookup_cons] at h
    by_cases e : c = d
    · rw [if_pos e] at h
      cases h
      rw [e]
      exact List.mem_cons_self ..
    · rw [if_neg e] at h
      exact List.mem_cons_of_mem _ (lookup_mem h)

/-- what is true of an attribute's name -/
def FldOk (K : PySem.W.Frag) (f : Str) (c : Str) : Prop := ∃ C, ClsOf K c C ∧ NoAttr K C f
section
variable {K : PySem.W.Frag} {W : XW} {σV : L2.St} {σ : LSt} {ι : Nat → Addr} {L : LH} {H : Hp} {Q : VK} {cs : List Str} {f : Str} {d : LV} {x : V}
theorem fld_at (hf : ∀ c ∈ cs, FldOk K f c) (h : At K W (RVr K) σV σ ι L (fldV cs f d L) Q H) (rx : RV K H ι L.length x d) :
    ∃ a C dx fs v, x = .ref a ∧ H a = some (.ins C dx fs) ∧ Cls K C ∧ NoAttr K C f ∧ fs.lookup f = some v ∧ Q v H := by
  cases d with
  | ref n =>
    obtain rfl := rx.refV
    have h : At K W (RVr K) σV σ ι L (fldR cs f L[n]? L) Q H := h
    generalize e : L[n]? = o at h
    cases o with
    | none => exact h.no.elim
    | some o =>
      cases o with
      | ins c fs =>
        obtain ⟨c1, h⟩ := At.chk h
        obtain ⟨d, e2, h⟩ := At.ofO h
        obtain ⟨C, dx, vs, hc, hF, ha, hr⟩ := h.rep.ob n _ e
        obtain ⟨C', hc', na⟩ := hf c (List.contains_iff_mem.mp c1)
        cases hc.uniq hc'
        obtain ⟨v, hv, rv⟩ := hr.get e2
        exact ⟨_, C, dx, vs, v, rfl, ha, hF.cl, na, hv, h.ret rv⟩
      | _ => exact h.no.elim
  | _ => exact h.no.elim
end
section
variable {X : Cx} {W : XW} {a o e : Expr} {ma mo me : LSt → M LV} {pos p : Pos} {cs : List Str} {f : Str}
theorem e_fld (ha : PE X a (tI X.K W ma)) (hf : ∀ c ∈ cs, FldOk X.K f c) (hb : attributeBase a f X.env (eval a X.env) = eval a X.env) :
    PE X (.Attribute a f pos) (tI X.K W fun σ => M.bind (ma σ) (fldV cs f)) :=
  PE.imp (pe_fld ha hb) fun σV H Q ⟨ι, σ, L, h⟩ => ⟨ι, σ, L, (h.bind (R := RVr X.K)).imp fun x H1 ⟨d, ι1, L1, r1, ev, h⟩ => fld_at hf h r1⟩
def fsetM (cs : List Str) (f : Str) (mo : LSt → M LV) : LV → LSt → M LSt := fun v σ => M.bind (mo σ) fun x => M.bind (fsetV cs f x v) fun _ => M.ret σ
theorem s_fld (ho : PE X o (tI X.K W mo)) (he : PE X e (tI X.K W me)) (hf : ∀ c ∈ cs, FldOk X.K f c) (hs : swapsWith e (some (.Attribute o f p)) pos.line X.env = pure false) :
    PS X (.Assign [.Attribute o f p] e pos) (tS X.K W (asgM me (fsetM cs f mo))) :=
  PS.imp (ps_fld ho he hs) fun D σV H ⟨ι, σ, L, h⟩ => by
    refine ⟨ι, σ, L, (At.bind (R := RVr X.K) h).imp fun y H1 ⟨d, ι1, L1, r1, ev, h⟩ => ?_⟩
    have h : At X.K W (FlR X.K σV.length) σV σ ι1 L1 (M.bind (M.bind (mo σ) fun x => M.bind (fsetV cs f x d) fun _ => M.ret σ) (fun σ1 => M.ret (Fl.nx, σ1)) L1) (endsQ D) H1 := h
    rw [M.bind_bind] at h
    refine ⟨ι1, σ, L1, (At.bind (R := RVr X.K) h).imp fun x H2 ⟨e, ι2, L2, r2, ev2, h⟩ => ?_⟩
    rw [M.bind_bind] at h
    have r1 := r1.mono ev2
    cases e with
    | ref n =>
      obtain rfl := r2.refV
      have h : At X.K W (FlR X.K σV.length) σV σ ι2 L2 (M.bind (fsetR cs f n d L2[n]?) (fun _ => M.bind (M.ret σ) fun σ1 => M.ret (Fl.nx, σ1)) L2) (endsQ D) H2 := h
      generalize eL : L2[n]? = o at h
      cases o with
      | none => exact (At.no h).elim
      | some o =>
        cases o with
        | ins c fs =>
          have h : At X.K W (FlR X.K σV.length) σV σ ι2 L2 (M.bind (M.chk (cs.contains c && decide (fs.length < 1000)) (setO n (.ins c (fput f d fs)))) (fun _ => M.bind (M.ret σ) fun σ1 => M.ret (Fl.nx, σ1)) L2) (endsQ D) H2 := h
          cases hb : (cs.contains c && decide (fs.length < 1000)) with
          | false => rw [hb] at h; exact (At.no h).elim
          | true =>
            rw [hb] at h
            rw [Bool.and_eq_true] at hb
            have h : At X.K W (FlR X.K σV.length) σV σ ι2 L2 (M.bind (setO n (.ins c (fput f d fs))) (fun _ => M.bind (M.ret σ) fun σ1 => M.ret (Fl.nx, σ1)) L2) (endsQ D) H2 := h
            obtain ⟨C, dx, vs, hc, hF, ha, hr⟩ := h.rep.ob n _ eL
            obtain ⟨C', hc', na⟩ := hf c (List.contains_iff_mem.mp hb.1)
            cases hc.uniq hc'
            refine ⟨ι2 n, C, dx, vs, rfl, ha, hF.cl, na, by rw [hr.length]; exact of_decide_eq_true hb.2, ?_⟩
            have evs : Ev X.K ι2 H2 L2.length ι2 (upd H2 (ι2 n) (.ins C dx (putF f y vs))) L2.length := Ev.set ha trivial
            have h := At.put (o' := .ins c (fput f d fs)) (u := .ins C dx (putF f y vs)) h eL rfl rfl ⟨C, dx, _, hc, hF, upd_same, (RFS.put r1 hr).mono evs⟩
            exact At.nx h h.rs rfl
        | _ => exact (At.no h).elim
    | _ => exact (At.no h).elim
end

/-! ### defaults -/
inductive Dfl : List LV → List Value → Prop
  | nil : Dfl [] []
  | cons {d : LV} {u : Value} {ds : List LV} {us : List Value} : RelC d u → Dfl ds us → Dfl (d :: ds) (u :: us)
theorem relC_v {d : LV} {u : Value} (r : RelC d u) : ∃ v, RelV v u ∧ ∀ (K : PySem.W.Frag) (H : Hp) (ι : Nat → Addr) (n : Nat), RV K H ι n v d := by
  cases d with
  | non => exact ⟨.non, r, fun _ _ _ _ => .non⟩
  | bl b => exact ⟨.bl b, r, fun _ _ _ _ => .bl b⟩
  | int i => exact ⟨.int i, r, fun _ _ _ _ => .int i⟩
  | str s => exact ⟨.str s, r, fun _ _ _ _ => .str s⟩
  | tup _ => exact False.elim r
  | ref _ => exact False.elim r
theorem dfl_v : ∀ {ds : List LV} {us : List Value}, Dfl ds us → ∃ vs, Vals vs us ∧ ∀ (K : PySem.W.Frag) (H : Hp) (ι : Nat → Addr) (n : Nat), RVs K H ι n vs ds
  | _, _, .nil => ⟨[], .nil, fun _ _ _ _ => .nil⟩
  | _, _, .cons r t => by
    obtain ⟨v, h1, h2⟩ := relC_v r
    obtain ⟨vs, h3, h4⟩ := dfl_v t
    exact ⟨v :: vs, .cons h1 h3, fun K H ι n => .cons (h2 K H ι n) (h4 K H ι n)⟩
/-- how a call of a def with defaults binds: np values by position, the names ks, the defaults ds -/
def BindD (K : PySem.W.Frag) (fd : FuncData) (ps : List Str) (np : Nat) (ks : List Str) (ds : List LV) (perm : List Nat) : Prop := ∃ dv, Dfl ds dv ∧
  ∀ (s : Shared) (us ws zs : List Value), K.In s.heap → us.length = np → ws.length = ks.length → permG (us ++ ws ++ dv) perm = some zs → BindsTo s fd ⟨us, ks.zip ws⟩ (ps.zip zs) ∧ zs.length = ps.length
/-- the same of a method: the object first -/
def BindM (K : PySem.W.Frag) (fd : FuncData) (ps : List Str) (np : Nat) (ks : List Str) (ds : List LV) (perm : List Nat) : Prop := ∃ dv, Dfl ds dv ∧
  ∀ (s : Shared) (self : Value) (us ws zs : List Value), K.In s.heap → us.length = np → ws.length = ks.length → permG (us ++ ws ++ dv) perm = some zs → BindsTo s fd ⟨self :: us, ks.zip ws⟩ (ps.zip (self :: zs)) ∧ zs.length + 1 = ps.length
theorem bind_dfl {K : PySem.W.Frag} {fd : FuncData} {args : Args} {T : Addr} {o : Obj} {its : Array Value} {n : Nat} {binds : List (Str × Value)} {s : Shared} (X : K.In s.heap) (lT : K.lookup T = some o) (oT : o.data = .seq its n)
    (h : ∃ k, bindArgs fd args = seqItems? (.ref T) >>= k ∧ k (some its) = pure binds) : BindsTo s fd args binds := by
  obtain ⟨k, e1, e2⟩ := h
  intro M A Q E q
  rw [e1]
  exact wpAny_bind (wpAny_seqItems (X _ _ lT) oT (by rw [e2]; exact wpAny_pure q))

/-! ### a def runs -/
def Back (X : Cx) (pins : List (Addr × Obj)) (σV : L2.St) (Q : VK) (r : Result) (s' : Shared) : Prop := match r with
  | .ok (.ret u) => EP X pins σV Q u s'
  | .ok _ => False
  | .error e => X.xe e s'
section
variable {X : Cx} {W : XW} {f : Addr} {fd : FuncData} {ps ks : List Str} {k np : Nat} {R : List LV → M LV} {perm : List Nat} {pins : List (Addr × Obj)} {σV : L2.St} {σ : LSt} {H : Hp} {s : Shared} {ι : Nat → Addr} {L : LH} {Q : VK} {A : Around}
theorem codeG {args : Args} {us : List Value} {vs : List V} {ds : List LV} (F : FnG X.prog X.w X.K X.mg X.base k f fd ps R) (hr : Room (3 * k) A) (hg : A.guards = some []) (e0 : Env0 X.prog X.w X.K X.mg X.base A X.stack s H)
    (I : Inv X pins σV H s) (hb : BindsTo s fd args (ps.zip us)) (hl : us.length = ps.length) (r : Vals vs us) (q : RVs X.K H ι L.length vs ds) (h : At X.K W (RVr X.K) σV σ ι L (R ds L) Q H) :
    codeAny (model X.prog X.w) A (.call (.ref f) args) (Back X pins σV Q) s := by
  have h' : At X.K (fun c fs L' ι' H' _ => W c fs L' ι' H' σV) (RVr X.K) [] [] ι L (R ds L) Q H := ⟨h.rep, ⟨rfl, fun i d e => by simp at e⟩, h.go⟩
  refine codeAny_mono (F.run _ A X.stack s H args us vs ds ι L Q hr hg e0 hb hl r q h') fun r s' hq => ?_
  cases r with
  | error e => exact False.elim hq
  | ok fl =>
    cases fl with
    | ret u => exact I.after hq
    | next => exact False.elim hq
    | brk => exact False.elim hq
    | cont => exact False.elim hq
theorem callG {args : List Value} {kw : List (Str × Value)} {us : List Value} {vs : List V} {ds : List LV} (F : FnG X.prog X.w X.K X.mg X.base k f fd ps R) (hr : Room (3 * k) A) (hg : A.guards = some []) (e0 : Env0 X.prog X.w X.K X.mg X.base A X.stack s H)
    (I : Inv X pins σV H s) (hb : BindsTo s fd ⟨args, kw⟩ (ps.zip us)) (hl : us.length = ps.length) (r : Vals vs us) (q : RVs X.K H ι L.length vs ds) (h : At X.K W (RVr X.K) σV σ ι L (R ds L) Q H) :
    wpAny (model X.prog X.w) A (call (.ref f) args kw) (EP X pins σV Q) X.xe s := by
  refine wpAny_call (codeAny_mono (codeG F hr hg e0 I hb hl r q h) fun r s' hq => ?_)
  cases r with
  | error e => exact hq
  | ok fl =>
    cases fl with
    | ret u => exact hq
    | next => exact False.elim hq
    | brk => exact False.elim hq
    | cont => exact False.elim hq
theorem make_guards {C : Addr} {us : List Value} {kw : List (Str × Value)} : (A.under (.builtin "type.__call__" ⟨.ref C :: us, kw⟩)).guards = A.guards := by
  first | rfl | simp [Around.under, Code.isGuard, guardIds]
/-- self first, then the others -/
theorem run_self {self : Addr} {us ws : List Value} {vs : List V} {sd : LV} {ds : List LV} {dl : List LV} (F : FnG X.prog X.w X.K X.mg X.base k f fd ps R) (hr : Room (3 * k) A) (hg : A.guards = some []) (e0 : Env0 X.prog X.w X.K X.mg X.base A X.stack s H)
    (hb : BindM X.K fd ps np ks dl perm) (I : Inv X pins σV H s) (hu : us.length = np) (hw : ws.length = ks.length) (r : Vals vs (us ++ ws)) (q : RVs X.K H ι L.length vs ds) (rs : RV X.K H ι L.length (.ref self) sd)
    (h : At X.K W (RVr X.K) σV σ ι L (M.ofO (permG (ds ++ dl) perm) (fun zs => R (sd :: zs)) L) Q H) : codeAny (model X.prog X.w) A (.call (.ref f) ⟨.ref self :: us, ks.zip ws⟩) (Back X pins σV Q) s := by
  obtain ⟨zs, e, h⟩ := h.ofO
  obtain ⟨dv, hd, hb⟩ := hb
  obtain ⟨dvs, rd, qd⟩ := dfl_v hd
  obtain ⟨ws', xs, h1, h2, h3⟩ := perm_rel (r.append rd) (q.append (qd _ _ _ _)) e
  obtain ⟨b1, b2⟩ := hb s (.ref self) us ws xs I.kIn hu hw h1
  have r2 : Vals (V.ref self :: ws') (Value.ref self :: xs) := .cons rfl h2
  exact codeG F hr hg e0 I b1 b2 r2 (.cons rs h3) h
end
end Mv

/-! My2: new instances, methods, properties, operators by the classes' own defs. -/
namespace Mv
open PySem PySem.Spec PyProof.Rows L2

theorem back_call {X : Cx} {pins : List (Addr × Obj)} {σV : L2.St} {Q : VK} {A : Around} {f : Value} {us : List Value} {kw : List (Str × Value)} {s : Shared} (h : codeAny (model X.prog X.w) A (.call f ⟨us, kw⟩) (Back X pins σV Q) s) :
    wpAny (model X.prog X.w) A (call f us kw) (EP X pins σV Q) X.xe s := by
  refine wpAny_call (codeAny_mono h fun r s' hq => ?_)
  cases r with
  | error e => exact hq
  | ok fl =>
    cases fl with
    | ret u => exact hq
    | next => exact False.elim hq
    | brk => exact False.elim hq
    | cont => exact False.elim hq

section
variable {X : Cx} {W : XW} {f C : Addr} {fd : FuncData} {ps ks : List Str} {k np : Nat} {Rc : Cal} {perm : List Nat} {pins : List (Addr × Obj)} {σV : L2.St} {σ : LSt} {H : Hp} {s : Shared} {ι : Nat → Addr} {L : LH} {Q : VK} {A : Around} {dl : List LV} {c : Str} {g : Nat}
/-- C(..) -/
theorem run_mk {us ws : List Value} {vs : List V} {ds : List LV} (G : Good X) (MK : Mk X.K C f) (hF : ClsF X.K C) (hc : ClsOf X.K c C) (F : FnG X.prog X.w X.K X.mg X.base k f fd ps (Rc g)) (hr : Room (3 * k + 2) X.A)
    (hb : BindM X.K fd ps np ks dl perm) (I : Inv X pins σV H s) (hu : us.length = np) (hw : ws.length = ks.length) (r : Vals vs (us ++ ws)) (q : RVs X.K H ι L.length vs ds)
    (h : At X.K W (RVr X.K) σV σ ι L (M.ofO (permG (ds ++ dl) perm) (fun zs => mkV Rc c g zs) L) Q H) : wpAny (model X.prog X.w) X.A (call (.ref C) us (ks.zip ws)) (EP X pins σV Q) X.xe s := by
  obtain ⟨zs, e, h⟩ := h.ofO
  have n1 : H (s.heap.objs.size + 1) = none := I.hok.fresh (Nat.le_succ _)
  have n0 : H s.heap.objs.size = none := I.hok.fresh (Nat.le_refl _)
  have ne : s.heap.objs.size ≠ s.heap.objs.size + 1 := Nat.ne_of_lt (Nat.lt_succ_self _)
  have h1 := h.move (Ev.fresh (o := .own (s.heap.objs.size + 1)) n0) (h.rep.free n0)
  have n2 : (upd H s.heap.objs.size (.own (s.heap.objs.size + 1))) (s.heap.objs.size + 1) = none := by rw [upd_ne (Ne.symm ne)]; exact n1
  have h1 : At X.K W (RVr X.K) σV σ ι L (M.bind (new (.ins c [])) (fun x => M.bind (Rc g (x :: zs)) fun r => match r with
    | .non => M.ret x
    | _ => M.no) L) Q (upd H s.heap.objs.size (.own (s.heap.objs.size + 1))) := h1
  have h2 := h1.newB (u := .ins C s.heap.objs.size []) n2 ⟨C, s.heap.objs.size, [], hc, hF, upd_same, .nil⟩
  have I2 := Inv.made (C := C) I
  have ev : Ev X.K ι H L.length (ext ι L.length (s.heap.objs.size + 1)) (upd (upd H s.heap.objs.size (.own (s.heap.objs.size + 1))) (s.heap.objs.size + 1) (.ins C s.heap.objs.size [])) (L ++ [LO.ins c []]).length := by
    rw [List.length_append, List.length_singleton]
    exact (Ev.fresh n0).trans (Ev.new n2)
  have hn : L.length < (L ++ [LO.ins c []]).length := by rw [List.length_append, List.length_singleton]; omega
  have rs : RV X.K (upd (upd H s.heap.objs.size (.own (s.heap.objs.size + 1))) (s.heap.objs.size + 1) (.ins C s.heap.objs.size [])) (ext ι L.length (s.heap.objs.size + 1)) (L ++ [LO.ins c []]).length (.ref (s.heap.objs.size + 1)) (.ref L.length) := by
    have z := RV.ref (K := X.K) (H := upd (upd H s.heap.objs.size (.own (s.heap.objs.size + 1))) (s.heap.objs.size + 1) (.ins C s.heap.objs.size [])) (ι := ext ι L.length (s.heap.objs.size + 1)) (n := (L ++ [LO.ins c []]).length) L.length hn
    rw [ext_eq] at z
    exact z
  have h3 := (At.bind (R := RVr X.K) h2).imp (Q' := fun v H2 => v = .non ∧ Q (.ref (s.heap.objs.size + 1)) H2) fun v H2 ⟨d, ι2, L2, r2, ev2, h⟩ => by
    cases d with
    | non =>
      cases r2
      refine ⟨rfl, h.ret ?_⟩
      have z := RV.ref (K := X.K) (H := H2) (ι := ι2) (n := L2.length) L.length (Nat.lt_of_lt_of_le hn ev2.le)
      rw [ev2.pl _ hn, ext_eq] at z
      exact z
    | _ => exact (At.no h).elim
  have e' : permG (ds ++ dl) perm = some zs := e
  have h4 : At X.K W (RVr X.K) σV σ (ext ι L.length (s.heap.objs.size + 1)) (L ++ [LO.ins c []]) (M.ofO (permG (ds ++ dl) perm) (fun zs => Rc g (.ref L.length :: zs)) (L ++ [LO.ins c []])) (fun v H2 => v = .non ∧ Q (.ref (s.heap.objs.size + 1)) H2)
      (upd (upd H s.heap.objs.size (HO.own (s.heap.objs.size + 1))) (s.heap.objs.size + 1) (HO.ins C s.heap.objs.size [])) := by
    rw [e']
    exact h3
  refine wpAny_call (make_map (f := f) I.kIn MK.makes MK.init (beq_iff_eq.mp MK.fn) (codeAny_mono (run_self (self := s.heap.objs.size + 1) (us := us) (ws := ws) F ((hr.mono (by omega) : Room (3 * k + 1) X.A).make C us (ks.zip ws)) (make_guards.trans G.hg) (I2.env0.make C us (ks.zip ws)) hb I2 hu hw r (q.mono ev) rs h4) fun r s' hq' => ?_))
  cases r with
  | error e => exact hq'
  | ok fl =>
    cases fl with
    | ret u =>
      obtain ⟨v, H', I3, rv, ev', q3⟩ := hq'
      subst ev'
      exact ⟨rv, ⟨V.ref (s.heap.objs.size + 1), H', I3, rfl, q3⟩⟩
    | next => exact False.elim hq'
    | brk => exact False.elim hq'
    | cont => exact False.elim hq'
end

/-- a class that may be made by its name -/
structure MkG (P : Program) (w : World) (K : PySem.W.Frag) (mg : Str → Option Value) (base : Heap) (k : Nat) (c : Str) (R : List LV → M LV) (np : Nat) (ks : List Str) (dl : List LV) (perm : List Nat) : Prop where
  ex : ∃ C f fd ps, mg c = some (.ref C) ∧ ClsOf K c C ∧ ClsF K C ∧ Mk K C f ∧ FnG P w K mg base k f fd ps R ∧ BindM K fd ps np ks dl perm
/-- a def of a class -/
structure MetG (P : Program) (w : World) (K : PySem.W.Frag) (mg : Str → Option Value) (base : Heap) (k : Nat) (c m : Str) (R : List LV → M LV) (np : Nat) (ks : List Str) (dl : List LV) (perm : List Nat) : Prop where
  ex : ∃ C f fd ps, ClsOf K c C ∧ Meth K C m f ∧ FnG P w K mg base k f fd ps R ∧ BindM K fd ps np ks dl perm
/-- a property -/
structure PrpG (P : Program) (w : World) (K : PySem.W.Frag) (mg : Str → Option Value) (base : Heap) (k : Nat) (c m : Str) (R : List LV → M LV) : Prop where
  ex : ∃ C p f fd ps, ClsOf K c C ∧ PropOf K C m p f ∧ FnG P w K mg base k f fd ps R ∧ BindM K fd ps 0 [] [] []

def mkM (Rc : Cal) (c : Str) (g : Nat) (ms mk : LSt → M (List LV)) (dl : List LV) (perm : List Nat) : LSt → M LV := fun σ => M.bind (ms σ) fun xs => M.bind (mk σ) fun ys => M.ofO (permG (xs ++ ys ++ dl) perm) fun zs => mkV Rc c g zs
def omtM (Rc : Cal) (cs : List (Str × Nat)) (m : Str) (mo : LSt → M LV) (ms mk : LSt → M (List LV)) (dl : List LV) (perm : List Nat) : LSt → M LV := fun σ => M.bind (mo σ) fun x => M.look (fun L => clsAt cs m L x) fun g =>
      M.bind (ms σ) fun xs => M.bind (mk σ) fun ys => M.ofO (permG (xs ++ ys ++ dl) perm) fun zs => Rc g (x :: zs)
def calDM (R : List LV → M LV) (ms mk : LSt → M (List LV)) (dl : List LV) (perm : List Nat) : LSt → M LV := fun σ => M.bind (ms σ) fun xs => M.bind (mk σ) fun ys => M.ofO (permG (xs ++ ys ++ dl) perm) fun zs => R zs
theorem clsAt_some {α : Type} {cs : List (Str × α)} {m : Str} {L : LH} {d : LV} {g : α} (h : clsAt cs m L d = some g) : ∃ n c fs, d = .ref n ∧ L[n]? = some (.ins c fs) ∧ fs.lookup m = none ∧ cs.lookup c = some g := by
  cases d with
  | ref n =>
    unfold clsAt at h
    dsimp only at h
    cases e : L[n]? with
    | none => rw [e] at h; cases h
    | some o =>
      rw [e] at h
      cases o with
      | ins c fs =>
        dsimp only at h
        split at h
        · rename_i hn
          exact ⟨n, c, fs, rfl, e, Option.isNone_iff_eq_none.mp hn, h⟩
        · cases h
      | _ => cases h
  | _ => cases h
section
variable {X : Cx} {W : XW} {pos p apos : Pos} {c x m : Str} {k np g : Nat} {Rc : Cal} {R : List LV → M LV} {perm : List Nat} {ms mk : LSt → M (List LV)} {mo : LSt → M LV} {a o : Expr} {es : List Expr} {kws : List Keyword} {ks : List Str} {dl : List LV} {cs : List (Str × Nat)}
theorem e_mk (G : Good X) (C : MkG X.prog X.w X.K X.mg X.base k c (Rc g) np ks dl perm) (hr : Room (3 * k + 2) X.A) (hg : Gl X c)
    (ha : PA X (a :: es) (tIs X.K W ms)) (hkw : PK X kws (tIs X.K W mk)) (hall : (backToKw pos (keywordEach kws X.env)).all (·.1.isSome) = true) (hks : (backToKw pos (keywordEach kws X.env)).filterMap (·.1) = ks)
    (hdb : (c == ("__debug__" : Str)) = false) (he : starEach (a :: es) X.env = (false, eval a X.env) :: starEach es X.env)
    (hpl : ((backTo pos (starEach (a :: es) X.env)).any (·.1) || (backToKw pos (keywordEach kws X.env)).any (·.1.isNone)) = false)
    (la : ∀ σ L xs L', ms σ L = some (.ok xs L') → xs.length = np) (lk : ∀ σ L xs L', mk σ L = some (.ok xs L') → xs.length = ks.length) :
    PE X (.Call (.Name c p) (a :: es) kws pos) (tI X.K W (mkM Rc c g ms mk dl perm)) := by
  obtain ⟨C, f, fd, ps, hm, hc, hF, MK, F, hb⟩ := C.ex
  refine ⟨fun pins s σV H Q I h => ?_⟩
  obtain ⟨ι, σ, L, h⟩ := h
  refine wpAny_Call_Name_kw (ld_glob I hg hm ?_ hdb)
  refine PySem.W.callWith_KW (h₀ := X.base) I.ok.mod.kin MK.kp hall (thn (ha.run pos pins s σV H _ I ⟨ι, σ, L, h.bindE (R := RVsr X.K)⟩) fun us s1 ⟨vs, H1, I1, r, q⟩ => ?_) hpl he
  obtain ⟨ds, ι1, L1, q1, r1, ev, h⟩ := q
  refine thn (hkw.run pos pins s1 σV H1 _ I1 ⟨ι1, σ, L1, h.bindE (R := RVsr X.K)⟩) fun ws s2 ⟨zs, H2, I2, rz, q2⟩ => ⟨I2.kIn, ?_⟩
  obtain ⟨es2, ι2, L2, q3, r2, ev2, h⟩ := q2
  rw [hks]
  exact run_mk G MK hF hc F hr hb I2 (by show us.length = np; rw [← r.length, r1.length, la _ _ _ _ q1]) (by rw [← rz.length, r2.length, lk _ _ _ _ q3]) (r.append rz) ((r1.mono ev2).append r2) h
theorem e_mkK (G : Good X) (C : MkG X.prog X.w X.K X.mg X.base k c (Rc g) 0 ks dl perm) (hr : Room (3 * k + 2) X.A) (hg : Gl X c)
    (hkw : PK X kws (tIs X.K W mk)) (hall : (backToKw pos (keywordEach kws X.env)).all (·.1.isSome) = true) (hks : (backToKw pos (keywordEach kws X.env)).filterMap (·.1) = ks)
    (hdb : (c == ("__debug__" : Str)) = false) (hpl : ((backTo pos (starEach [] X.env)).any (·.1) || (backToKw pos (keywordEach kws X.env)).any (·.1.isNone)) = false)
    (lk : ∀ σ L xs L', mk σ L = some (.ok xs L') → xs.length = ks.length) :
    PE X (.Call (.Name c p) [] kws pos) (tI X.K W (mkM Rc c g (fun _ => M.ret []) mk dl perm)) := by
  obtain ⟨C, f, fd, ps, hm, hc, hF, MK, F, hb⟩ := C.ex
  refine ⟨fun pins s σV H Q I h => ?_⟩
  obtain ⟨ι, σ, L, h⟩ := h
  have h : At X.K W (RVr X.K) σV σ ι L (M.bind (mk σ) (fun ys => M.ofO (permG ([] ++ ys ++ dl) perm) fun zs => mkV Rc c g zs) L) Q H := h
  refine wpAny_Call_Name_kw (ld_glob I hg hm ?_ hdb)
  refine PySem.W.callWith_KW0 (h₀ := X.base) I.ok.mod.kin MK.kp hall (thn (hkw.run pos pins s σV H _ I ⟨ι, σ, L, h.bindE (R := RVsr X.K)⟩) fun ws s2 ⟨zs, H2, I2, rz, q2⟩ => ⟨I2.kIn, ?_⟩) hpl
  obtain ⟨es2, ι2, L2, q3, r2, ev2, h⟩ := q2
  rw [hks]
  exact run_mk (us := []) (vs := zs) (ds := es2) G MK hF hc F hr hb I2 rfl (by rw [← rz.length, r2.length, lk _ _ _ _ q3]) rz r2 h
theorem e_omt {pl : Sem Bool} (G : Good X) (ho : PE X o (tI X.K W mo)) (hm : ∀ q ∈ cs, MetG X.prog X.w X.K X.mg X.base k q.1 m (Rc q.2) np ks dl perm) (hr : Room (3 * k + 2) X.A)
    (ha : PA X (a :: es) (tIs X.K W ms)) (hkw : PK X kws (tIs X.K W mk)) (hall : (backToKw pos (keywordEach kws X.env)).all (·.1.isSome) = true) (hks : (backToKw pos (keywordEach kws X.env)).filterMap (·.1) = ks)
    (he : starEach (a :: es) X.env = (false, eval a X.env) :: starEach es X.env) (hpl : ((backTo pos (starEach (a :: es) X.env)).any (·.1) || (backToKw pos (keywordEach kws X.env)).any (·.1.isNone)) = false)
    (la : ∀ σ L xs L', ms σ L = some (.ok xs L') → xs.length = np) (lk : ∀ σ L xs L', mk σ L = some (.ok xs L') → xs.length = ks.length)
    (ht : eval (.Call (.Attribute o m apos) (a :: es) kws pos) X.env = (do
      let ov ← eval o X.env
      standAt apos.atName
      let (f, first) ← holding [ov] (getMethod ov m pl)
      callWith pos f first (backTo pos (starEach (a :: es) X.env)) (backToKw pos (keywordEach kws X.env)))) :
    PE X (.Call (.Attribute o m apos) (a :: es) kws pos) (tI X.K W (omtM Rc cs m mo ms mk dl perm)) := by
  refine ⟨fun pins s σV H Q I h => ?_⟩
  obtain ⟨ι, σ, L, h⟩ := h
  refine PySem.W.methodCall_KW (pl := pl) (thn (ho.run pins s σV H _ I ⟨ι, σ, L, At.bind (R := RVr X.K) h⟩) fun u s1 ⟨x, H1, I1, rx, d, ι1, L1, r1, ev1, h⟩ => ?_) ht
  obtain ⟨g, eg, h⟩ := At.look (g := fun L => clsAt cs m L d) h
  obtain ⟨n, c, fs, rfl, eL, hn, hl⟩ := clsAt_some eg
  obtain rfl := r1.refV
  obtain rfl : u = Value.ref (ι1 n) := rx
  obtain ⟨C, dx, vs, hc, hF, hx, hv⟩ := h.rep.ob n _ eL
  obtain ⟨C', f, fd, ps, hc', mt, F, hb⟩ := (hm (c, g) (lookup_mem hl)).ex
  cases hc.uniq hc'
  refine getmeth_ok I1 hx hF.cl mt (hv.none hn) ?_
  refine PySem.W.callWith_KW (first := [.ref (ι1 n)]) (h₀ := X.base) I.ok.mod.kin mt.kp hall (thn (ha.run pos pins s1 σV H1 _ I1 ⟨ι1, σ, L1, At.bindE (R := RVsr X.K) h⟩) fun us s2 ⟨vs2, H2, I2, r, q⟩ => ?_) hpl he
  obtain ⟨ds, ι2, L2, q1, r2, ev2, h⟩ := q
  refine thn (hkw.run pos pins s2 σV H2 _ I2 ⟨ι2, σ, L2, h.bindE (R := RVsr X.K)⟩) fun ws s3 ⟨zs, H3, I3, rz, q2⟩ => ⟨I3.kIn, ?_⟩
  obtain ⟨es2, ι3, L3, q3, r3, ev3, h⟩ := q2
  rw [hks]
  have rs := (r1.mono ev2).mono ev3
  exact back_call (run_self F (hr.mono (by omega)) G.hg I3.env0 hb I3 (by show us.length = np; rw [← r.length, r2.length, la _ _ _ _ q1]) (by rw [← rz.length, r3.length, lk _ _ _ _ q3]) (r.append rz) ((r2.mono ev3).append r3) rs h)
theorem e_omtK {pl : Sem Bool} (G : Good X) (ho : PE X o (tI X.K W mo)) (hm : ∀ q ∈ cs, MetG X.prog X.w X.K X.mg X.base k q.1 m (Rc q.2) 0 ks dl perm) (hr : Room (3 * k + 2) X.A)
    (hkw : PK X kws (tIs X.K W mk)) (hall : (backToKw pos (keywordEach kws X.env)).all (·.1.isSome) = true) (hks : (backToKw pos (keywordEach kws X.env)).filterMap (·.1) = ks)
    (hpl : ((backTo pos (starEach [] X.env)).any (·.1) || (backToKw pos (keywordEach kws X.env)).any (·.1.isNone)) = false)
    (lk : ∀ σ L xs L', mk σ L = some (.ok xs L') → xs.length = ks.length)
    (ht : eval (.Call (.Attribute o m apos) [] kws pos) X.env = (do
      let ov ← eval o X.env
      standAt apos.atName
      let (f, first) ← holding [ov] (getMethod ov m pl)
      callWith pos f first (backTo pos (starEach [] X.env)) (backToKw pos (keywordEach kws X.env)))) :
    PE X (.Call (.Attribute o m apos) [] kws pos) (tI X.K W (omtM Rc cs m mo (fun _ => M.ret []) mk dl perm)) := by
  refine ⟨fun pins s σV H Q I h => ?_⟩
  obtain ⟨ι, σ, L, h⟩ := h
  refine PySem.W.methodCall_KW (pl := pl) (thn (ho.run pins s σV H _ I ⟨ι, σ, L, At.bind (R := RVr X.K) h⟩) fun u s1 ⟨x, H1, I1, rx, d, ι1, L1, r1, ev1, h⟩ => ?_) ht
  obtain ⟨g, eg, h⟩ := At.look (g := fun L => clsAt cs m L d) h
  obtain ⟨n, c, fs, rfl, eL, hn, hl⟩ := clsAt_some eg
  obtain rfl := r1.refV
  obtain rfl : u = Value.ref (ι1 n) := rx
  obtain ⟨C, dx, vs, hc, hF, hx, hv⟩ := h.rep.ob n _ eL
  obtain ⟨C', f, fd, ps, hc', mt, F, hb⟩ := (hm (c, g) (lookup_mem hl)).ex
  cases hc.uniq hc'
  have h : At X.K W (RVr X.K) σV σ ι1 L1 (M.bind (mk σ) (fun ys => M.ofO (permG ([] ++ ys ++ dl) perm) fun zs => Rc g (.ref n :: zs)) L1) Q H1 := h
  refine getmeth_ok I1 hx hF.cl mt (hv.none hn) ?_
  refine PySem.W.callWith_KW0 (first := [.ref (ι1 n)]) (h₀ := X.base) I.ok.mod.kin mt.kp hall (thn (hkw.run pos pins s1 σV H1 _ I1 ⟨ι1, σ, L1, h.bindE (R := RVsr X.K)⟩) fun ws s3 ⟨zs, H3, I3, rz, q2⟩ => ⟨I3.kIn, ?_⟩) hpl
  obtain ⟨es2, ι3, L3, q3, r3, ev3, h⟩ := q2
  rw [hks]
  exact back_call (run_self (us := []) (vs := zs) (ds := es2) F (hr.mono (by omega)) G.hg I3.env0 hb I3 rfl (by rw [← rz.length, r3.length, lk _ _ _ _ q3]) rz r3 (r1.mono ev3) h)
end
end Mv

/-! My3: properties, defaults, operators, isinstance, f-strings. -/
namespace Mv
open PySem PySem.Spec PyProof.Rows L2

/-! ### what a value is -/
def btNames : List String := ["NoneType", "bool", "int", "str", "tuple", "list", "dict"]
theorem sub_bt {K : PySem.W.Frag} {C : Addr} {T : String} (h : T ∈ btNames) : PySem.W.subIn K (.type T) (.ref C) = some false := by
  unfold btNames at h
  simp only [List.mem_cons, List.not_mem_nil, or_false] at h
  rcases h with rfl | rfl | rfl | rfl | rfl | rfl | rfl <;> kernel_rfl
theorem kit_bt {K : PySem.W.Frag} {C : Addr} {T : String} (h : T ∈ btNames) (hc : (PySem.W.clsIn K C).isSome = true) (ht : PySem.W.typeIn K (.ref C) = some (.type "type")) : PySem.W.kitOne K (.type T) (.ref C) = some false := by
  unfold PySem.W.kitOne PySem.W.kitCls
  rw [if_neg (by simp)]
  dsimp only
  rw [hc, ht, if_pos (by decide), sub_bt h]
section
variable {X : Cx} {pins : List (Addr × Obj)} {σV : L2.St} {H : Hp} {s : Shared} {ι : Nat → Addr} {L : LH}
theorem kit_lv (I : Inv X pins σV H s) (R : Rep X.K ι H L) {y : V} {e : LV} {u : Value} (r : RV X.K H ι L.length y e) (ru : RelV y u) (hz : ∀ m, e = .ref m → ∃ o, L[m]? = some o ∧ isMut o = true) :
    ∃ (t : Value) (P : Heap → Prop), PySem.W.KitX X.K u t P ∧ P s.heap ∧ u ≠ .builtin "__main__.__loader__#opaque" ∧
      (((∃ T, T ∈ btNames ∧ t = .type T) ∧ clsNm L e = none) ∨ ∃ m c fs C, e = .ref m ∧ L[m]? = some (.ins c fs) ∧ ClsOf X.K c C ∧ t = .ref C) := by
  cases e with
  | non => cases r; cases ru; exact ⟨_, _, PySem.W.kitx_none, True.intro, (fun z => nomatch z), .inl ⟨⟨_, by unfold btNames; simp, rfl⟩, rfl⟩⟩
  | bl b => cases r; cases ru; exact ⟨_, _, PySem.W.kitx_bool, True.intro, (fun z => nomatch z), .inl ⟨⟨"bool", by unfold btNames; simp, rfl⟩, rfl⟩⟩
  | int i => cases r; obtain ⟨t, rfl⟩ := ru; exact ⟨_, _, PySem.W.kitx_int, True.intro, (fun z => nomatch z), .inl ⟨⟨"int", by unfold btNames; simp, rfl⟩, rfl⟩⟩
  | str i => cases r; obtain ⟨t, rfl⟩ := ru; exact ⟨_, _, PySem.W.kitx_str, True.intro, (fun z => nomatch z), .inl ⟨⟨"str", by unfold btNames; simp, rfl⟩, rfl⟩⟩
  | tup ds =>
    obtain ⟨a, xs, rfl, ha, ra⟩ := r.tupV
    cases ru
    obtain ⟨its, rv, ⟨o, h1, h2, _⟩, _⟩ := I.tuple ha
    exact ⟨_, _, PySem.W.kitx_tuple, ⟨o, h1, h2⟩, (fun z => nomatch z), .inl ⟨⟨"tuple", by unfold btNames; simp, rfl⟩, rfl⟩⟩
  | ref m =>
    obtain rfl := r.refV
    cases ru
    obtain ⟨o, e, mo⟩ := hz m rfl
    have ro := R.ob m _ e
    have nm : ∀ {z : Option Str}, (match L[m]? with | some (.ins c _) => some c | _ => none) = z → clsNm L (.ref m) = z := fun h => h
    cases o with
    | lst ys =>
      obtain ⟨zs, h1, r1⟩ := ro
      obtain ⟨its, rv, ⟨o, n, h1, h2, _, _⟩, _⟩ := I.list (.inl (.inl h1))
      exact ⟨_, _, PySem.W.kitx_list, ⟨o, h1, h2⟩, (fun z => nomatch z), .inl ⟨⟨"list", by unfold btNames; simp, rfl⟩, nm (by rw [e])⟩⟩
    | frz ns => cases mo
    | dic kvs =>
      obtain ⟨zs, h1, r1⟩ := ro
      obtain ⟨_, _, vs, _, o, es, ep, h1, h2, _⟩ := I.hok _ _ h1
      exact ⟨_, _, PySem.W.kitx_dict, ⟨o, h1, h2.1⟩, (fun z => nomatch z), .inl ⟨⟨"dict", by unfold btNames; simp, rfl⟩, nm (by rw [e])⟩⟩
    | ins c fs =>
      obtain ⟨C, dx, vs, hc, hF, hx, hv⟩ := ro
      obtain ⟨mA, O, _⟩ := ins_get I.hok hx
      obtain ⟨od, J, _⟩ := O.look
      exact ⟨_, _, PySem.W.kitx_own (hF.cl.get _) hF.cl.hd hF.ca hF.cn hF.ct hF.cm, J, (fun z => nomatch z), .inr ⟨m, c, fs, C, rfl, e, hc, rfl⟩⟩
theorem ins_at (I : Inv X pins σV H s) {C dx a : Addr} {vs : List (Str × V)} (hx : H a = some (.ins C dx vs)) : ∃ od, PySem.W.InstAt s.heap a (PySem.W.instObj C dx) C (some od) := by
  obtain ⟨mA, O, _⟩ := ins_get I.hok hx
  obtain ⟨od, J, _⟩ := O.look
  exact ⟨od, J⟩
end

/-! ### isinstance of own classes -/
theorem kit_self {K : PySem.W.Frag} {C : Addr} : PySem.W.kitOne K (.ref C) (.ref C) = some true := by
  unfold PySem.W.kitOne
  rw [if_pos (by simp)]
structure IsoG (K : PySem.W.Frag) (mg : Str → Option Value) (c : Str) (cs : List (Str × Bool)) : Prop where
  ex : ∃ C, mg c = some (.ref C) ∧ (PySem.W.clsIn K C).isSome = true ∧ PySem.W.typeIn K (.ref C) = some (.type "type") ∧ ∀ q ∈ cs, ∃ D, ClsOf K q.1 D ∧ PySem.W.kitOne K (.ref D) (.ref C) = some q.2
section
variable {X : Cx} {W : XW} {pos p p' apos : Pos} {c x m f : Str} {k np g : Nat} {Rc : Cal} {R : List LV → M LV} {perm : List Nat} {ms mk : LSt → M (List LV)} {mo ma mb : LSt → M LV} {a b o : Expr} {es : List Expr} {kws : List Keyword} {ks : List Str} {dl : List LV} {cs : List (Str × Nat)} {bs : List (Str × Bool)}
def rIso (K : PySem.W.Frag) (C : Addr) (bs : List (Str × Bool)) : List V → Hp → VK → Prop := fun xs H Q => ∃ x d ι L b, xs = [x, .ref C] ∧ Rep K ι H L ∧ RV K H ι L.length x d ∧ isoAt bs L d = some b ∧ Q (.bl b) H
theorem iso_any {C : Addr} (hc : (PySem.W.clsIn X.K C).isSome = true) (ht : PySem.W.typeIn X.K (.ref C) = some (.type "type")) (hb : ∀ q ∈ bs, ∃ D, ClsOf X.K q.1 D ∧ PySem.W.kitOne X.K (.ref D) (.ref C) = some q.2) :
    CallR X (.builtin "isinstance") (rIso X.K C bs) := by
  intro pins s σ H xs us Q I r h
  obtain ⟨x, d, ι, L, b, rfl, rp, rx, e, q⟩ := h
  obtain ⟨u, u2, rfl, ru, rc⟩ := vals2 r
  cases rc
  have fin : ∀ tk, EP X pins σ Q (.bool b) { s with toks := tk } := fun tk => ⟨.bl b, H, I.tok tk, rfl, q⟩
  have hz : ∀ m, d = .ref m → ∃ o, L[m]? = some o ∧ isMut o = true := by
    rintro m rfl
    unfold isoAt at e
    dsimp only at e
    cases e1 : L[m]? with
    | none => rw [e1] at e; cases e
    | some o =>
      rw [e1] at e
      cases o with
      | frz _ => cases e
      | _ => exact ⟨_, rfl, rfl⟩
  obtain ⟨t, P, Z, hP, hop, ty⟩ := kit_lv I rp rx ru hz
  refine PySem.W.kia_one Z I.kIn hP ?_ hop fin
  rcases ty with ⟨⟨T, hT, rfl⟩, hn⟩ | ⟨m, c, fs, D, rfl, em, hD, rfl⟩
  · have eb : b = false := by
      cases d with
      | ref m =>
        unfold isoAt at e
        unfold clsNm at hn
        dsimp only at e hn
        cases e1 : L[m]? with
        | none => rw [e1] at e; cases e
        | some o =>
          rw [e1] at e hn
          cases o with
          | frz _ => cases e
          | ins _ _ => cases hn
          | _ => cases e; rfl
      | _ => cases e; rfl
    rw [eb]
    exact kit_bt hT hc ht
  · unfold isoAt at e
    dsimp only at e
    rw [em] at e
    obtain ⟨D', hD', hk⟩ := hb (c, b) (lookup_mem e)
    cases hD.uniq hD'
    exact hk
theorem e_iso (C : IsoG X.K X.mg c bs) (hg : Gl X "isinstance") (hm : X.mg "isinstance" = none) (hg' : Gl X c) (hdb : (c == ("__debug__" : Str)) = false) (ha : PE X a (tI X.K W ma))
    (he : starEach [a, .Name c p'] X.env = (false, eval a X.env) :: starEach [.Name c p'] X.env) (he2 : starEach [.Name c p'] X.env = (false, eval (.Name c p') X.env) :: starEach [] X.env) :
    PE X (.Call (.Name "isinstance" p) [a, .Name c p'] [] pos) (tI X.K W fun σ => M.bind (ma σ) fun x => M.look (fun L => isoAt bs L x) fun b => M.ret (.bl b)) := by
  obtain ⟨C, hmC, hc, ht, hb⟩ := C.ex
  have hT : PE X (.Name c p') (tC (.ref C)) := pe_glob (v := .ref C) hg' hmC rfl hdb
  refine PE.imp (pe_callB (iso_any hc ht hb) hg hm boot_isi (pa_cons ha (pa_cons hT pa_nil he2) he) (by decide) (by decide) he rfl) fun σV H Q h => ?_
  obtain ⟨ι, σ, L, h⟩ := h
  refine ⟨ι, σ, L, (h.bind (R := RVr X.K)).imp fun x H1 ⟨d, ι1, L1, r1, ev, h⟩ => ?_⟩
  obtain ⟨b, e, h⟩ := At.look (g := fun L => isoAt bs L d) h
  exact ⟨x, d, ι1, L1, b, rfl, h.rep, r1, e, h.ret (.bl _)⟩

/-! ### properties -/
theorem e_prp (G : Good X) (ha : PE X a (tI X.K W ma)) (hp : ∀ q ∈ cs, PrpG X.prog X.w X.K X.mg X.base k q.1 f (Rc q.2)) (hr : Room (3 * k + 2) X.A) (hb : attributeBase a f X.env (eval a X.env) = eval a X.env)
    (hx : ∀ e s', X.xe e s' → False) :
    PE X (.Attribute a f pos) (tI X.K W fun σ => M.bind (ma σ) fun x => M.look (fun L => clsAt cs f L x) fun g => Rc g [x]) := by
  refine ⟨fun pins s σV H Q I h => ?_⟩
  obtain ⟨ι, σ, L, h⟩ := h
  refine attr_of hb (thn (ha.run pins s σV H _ I ⟨ι, σ, L, h.bind (R := RVr X.K)⟩) fun u s1 ⟨x, H1, I1, rx, d, ι1, L1, r1, ev1, h⟩ => ?_)
  obtain ⟨g, eg, h⟩ := At.look (g := fun L => clsAt cs f L d) h
  obtain ⟨n, c, fs, rfl, eL, hn, hl⟩ := clsAt_some eg
  obtain rfl := r1.refV
  obtain rfl : u = Value.ref (ι1 n) := rx
  obtain ⟨C, dx, vs, hc, hF, hxx, hv⟩ := h.rep.ob n _ eL
  obtain ⟨C', p, f', fd, ps, hc', hpp, F, hb⟩ := (hp (c, g) (lookup_mem hl)).ex
  cases hc.uniq hc'
  obtain ⟨od, J⟩ := ins_at I1 hxx
  obtain ⟨rest, hrec⟩ := hpp.rec_
  have I2 := I1.tok (s1.toks + 1)
  have hcs : (PySem.W.clsIn X.K C).isSome = true := by
    obtain ⟨cd, hc, _⟩ := PySem.W.any_some hF.cl.hd
    rw [hc]
    rfl
  refine PySem.W.get_bind I1.kIn J (PySem.W.plainGet_of (hF.cl.get f)).1 (PySem.W.findObj_data hcs hpp.at_ hpp.get hpp.tak) (PySem.W.plainGet_of (hF.cl.get f)).2 (wpAny_call (PySem.W.prop_get (s := { s1 with toks := s1.toks + 1 }) I1.kIn hrec ?_))
  have h' : At X.K W (RVr X.K) σV σ ι1 L1 (M.ofO (permG ([] ++ []) []) (fun zs => Rc g (.ref n :: zs)) L1) Q H1 := h
  refine codeAny_mono (run_self (A := X.A.in1) (self := ι1 n) (us := []) (ws := []) (vs := []) (ds := []) F (hr.mono (by omega) : Room (3 * k + 1) X.A).in1 G.hg I2.env0.in1 hb I2 rfl rfl .nil .nil r1 h') fun r s' hq => ?_
  cases r with
  | error er => exact (hx _ _ hq).elim
  | ok fl =>
    cases fl with
    | ret u =>
      obtain ⟨v, H', I3, rv, q3⟩ := hq
      show wpAny _ _ (handedOut u) _ _ _
      rw [PySem.W.handedOut_of (handed_of rv)]
      exact wpAny_pure ⟨v, H', I3, rv, q3⟩
    | next => exact False.elim hq
    | brk => exact False.elim hq
    | cont => exact False.elim hq

/-! ### == by the class's own def -/
/-- a class's own == -/
structure EqG (P : Program) (w : World) (K : PySem.W.Frag) (mg : Str → Option Value) (base : Heap) (k : Nat) (c : Str) (R : List LV → M LV) : Prop where
  ex : ∃ C f fd ps, ClsOf K c C ∧ PySem.W.findIn K (.ref C) "__eq__" = some (some (.ref f)) ∧ PySem.W.isFn K (.ref f) = true ∧ PySem.W.findIn K (.ref C) "__ne__" = some (some (.builtin "object.__ne__")) ∧
    FnG P w K mg base k f fd ps R ∧ BindM K fd ps 1 [] [] [0]
end
section
open PySem.W PySem.Calls
variable {prog : Program} {w : World} {M : Model} {A : Around} {E : Value → Shared → Prop} {s : Shared} {K : Frag} {x C f : Addr} {ox : Obj} {od : Option Obj} {name : Str} {b tb : Value}
/-- object.__ne__ by the own == -/
theorem objNe_K {Q : Fin → Shared → Prop} (hu : A.units < cLine) (X : K.In s.heap) (I : InstAt s.heap x ox C od) (hs : findIn K (.ref C) "__eq__" = some (some (.ref f))) (hf : isFn K (.ref f) = true)
    (h : wpAny M A (call (.ref f) [.ref x, b]) (fun v s' => ∃ k, v = .bool k ∧ Q (.done (.ret (.bool (!k)))) s') E s) : wpAny M A (Builtin.«object.__ne__» ⟨[.ref x, b], []⟩) Q E s := by
  unfold Builtin.«object.__ne__»
  refine wpAny_bind (m := slotArgs "__ne__" 1 _) (wpAny_pure ?_)
  refine wpAny_bind (wpAny_cRoomFor hu ?_)
  refine wpAny_bind (m := callSpecialIfBound? (.ref x) (Str.ofString "__eq__") [b]) (ifBound_K X I hs hf (wpAny_mono h (fun r s' hr => ?_) fun _ _ e => e))
  obtain ⟨k, rfl, hq⟩ := hr
  exact wpAny_bind (wpAny_truthy_bool (wpAny_pure hq))
/-- a special def that is object's -/
theorem ifBound_B {args : List Value} {id : String} {Q : Option Value → Shared → Prop} (X : K.In s.heap) (I : InstAt s.heap x ox C od) (hs : findIn K (.ref C) name = some (some (.builtin id))) (hb : ∀ self, bindSpecial (.builtin id) self = pure (.builtin id, [self]))
    (h : wpAny M A (call (.builtin id) (.ref x :: args)) (fun v => Q (some v)) E s) : wpAny M A (callSpecialIfBound? (.ref x) name args) Q E s := by
  simp only [callSpecialIfBound?, bindSpecialIfBound?]
  refine wpAny_holding (wpAny_bind (wpAny_bind (wpAny_bind (I.type.here ((looks_findIn X hs).here ?_)))))
  refine wpAny_bind (wpAny_askSetting (wpAny_ite ?_))
  have fin : wpAny M A (call (.builtin id) ([.ref x] ++ args) >>= fun v => pure (some v)) Q E s := wpAny_bind (wpAny_mono h (fun v s' h' => wpAny_pure h') fun _ _ h' => h')
  rw [hb]
  split
  · exact wpAny_bind (wpAny_pure (wpAny_pure (by exact fin)))
  · exact wpAny_tryCatch (wpAny_bind (wpAny_pure (wpAny_pure (by exact fin))))
theorem ne_K {Q : Value → Shared → Prop} (hu : A.units + 1 < cLine) (X : K.In s.heap) (I : InstAt s.heap x ox C od) (hob : mroIn K C (.type "object") = some true) (hb : Looks (model prog w) s.heap (typeOf b) tb) (hn : notFirst K C tb = true)
    (hs : findIn K (.ref C) "__eq__" = some (some (.ref f))) (hf : isFn K (.ref f) = true) (hne : findIn K (.ref C) "__ne__" = some (some (.builtin "object.__ne__")))
    (h : wpAny (model prog w) A.in1 (call (.ref f) [.ref x, b]) (fun v s' => ∃ k, v = .bool k ∧ Q (.bool (!k)) s') E s) : wpAny (model prog w) A (richCompare .NotEq (.ref x) b) Q E s := by
  have sub : Looks (model prog w) s.heap (isInstance (.ref x) (.type "object")) true := I.type.andThen (looks_mroIn X hob)
  have one : wpAny (model prog w) A (tryCompare (.ref x) (cmpInfo .NotEq).2.1 b) (fun r s' => ∃ k, r = some (.bool (!k)) ∧ Q (.bool (!k)) s') E s := by
    unfold tryCompare
    refine wpAny_bind (ifBound_B X I hne (fun self => PySem.F.slot_tuple_iterator_ne.bind self) ?_)
    refine wpAny_call (codeAny_call_builtin PySem.F.slot_tuple_iterator_ne.plain PySem.F.cmpEntry_ne (@check_slot (model prog w) _ _ s "object.__ne__" "object" "__ne__" (.ref x) [b] [] _ PySem.F.cmpKind_ne PySem.F.cmpSplit_ne sub (PySem.F.cmpArgs_ne _ _) ?_))
    refine objNe_K (by show A.units + 1 < cLine; exact hu) X I hs hf (wpAny_mono h (fun v s' hv => ?_) fun _ _ e => e)
    obtain ⟨k, rfl, hq⟩ := hv
    exact ⟨k, rfl, wpAny_pure ⟨k, rfl, hq⟩⟩
  unfold richCompare
  simp only [oneThing_ref]
  refine wpAny_holding (wpAny_bind (wpAny_cRoomFor (Nat.lt_of_succ_lt hu) ?_))
  refine wpAny_bind (I.type.here (wpAny_bind (hb.here ?_)))
  split
  · rename_i q
    have e : subIn K tb (.ref C) = some false := by
      rcases Bool.or_eq_true_iff.mp hn with e | e
      · rw [beq_iff_eq.mp e] at q; simp at q
      · exact beq_iff_eq.mp e
    refine wpAny_bind ((looks_subIn X e).here ?_)
    simp only [Bool.false_eq_true, if_false]
    refine wpAny_bind (wpAny_mono one (fun r s' z => ?_) fun _ _ e => e)
    obtain ⟨k, rfl, hq⟩ := z
    exact wpAny_pure hq
  · refine wpAny_bind (wpAny_pure ?_)
    simp only [Bool.false_eq_true, if_false]
    refine wpAny_bind (wpAny_mono one (fun r s' z => ?_) fun _ _ e => e)
    obtain ⟨k, rfl, hq⟩ := z
    exact wpAny_pure hq
end
end Mv

/-! My4: operators by the classes' own defs, str, len, defaults, f-strings. -/
namespace Mv
open PySem PySem.Spec PyProof.Rows L2

section
variable {X : Cx} {W : XW} {pos p p' apos : Pos} {c x m f : Str} {k np g : Nat} {Rc : Cal} {R : List LV → M LV} {perm : List Nat} {ms mk : LSt → M (List LV)} {mo ma mb : LSt → M LV} {a b o : Expr} {es : List Expr} {kws : List Keyword} {ks : List Str} {dl : List LV} {cs : List (Str × Nat)}
  {pins : List (Addr × Obj)} {σV : L2.St} {σ : LSt} {H : Hp} {s : Shared} {ι : Nat → Addr} {L : LH} {Q : VK}
theorem oeq_run (G : Good X) (ne : Bool) (hE : ∀ q ∈ cs, EqG X.prog X.w X.K X.mg X.base k q.1 (Rc q.2)) (hr : Room (3 * k + 2) X.A) (I : Inv X pins σV H s) {x y : V} {v u : Value} {d e : LV} (rx : RelV x v) (ry : RelV y u)
    (r1 : RV X.K H ι L.length x d) (r2 : RV X.K H ι L.length y e) (h : At X.K W (RVr X.K) σV σ ι L (M.look (fun L => eqAt cs L d e) (fun g => M.bind (Rc g [d, e]) (eqK ne)) L) Q H) :
    wpAny (model X.prog X.w) X.A (compareOp (if ne then .NotEq else .Eq) v u) (EP X pins σV Q) X.xe s := by
  obtain ⟨g, eg, h⟩ := At.look (g := fun L => eqAt cs L d e) h
  have eg : eqAt cs L d e = some g := eg
  unfold eqAt at eg
  split at eg
  · rename_i hy
    obtain ⟨n, c, fs, rfl, eL, hn, hl⟩ := clsAt_some eg
    obtain rfl := r1.refV
    obtain rfl : v = Value.ref (ι n) := rx
    obtain ⟨C, dx, vs, hc, hF, hxx, hv⟩ := h.rep.ob n _ eL
    obtain ⟨C', f, fd, ps, hc', hs, hf, hne, F, hb⟩ := (hE (c, g) (lookup_mem hl)).ex
    cases hc.uniq hc'
    have cn : clsNm L (.ref n) = some c := by unfold clsNm; dsimp only; rw [eL]
    have hz : ∀ m, e = .ref m → ∃ o, L[m]? = some o ∧ isMut o = true := by
      rintro m rfl
      unfold yOk at hy
      dsimp only at hy
      cases e1 : L[m]? with
      | none => rw [e1] at hy; cases hy
      | some o =>
        rw [e1] at hy
        cases o with
        | frz _ => cases hy
        | _ => exact ⟨_, rfl, rfl⟩
    obtain ⟨t, P, Z, hP, hop, ty⟩ := kit_lv I h.rep r2 ry hz
    have hb' := Z.ty (model X.prog X.w) s.heap I.kIn hP
    have hnf : PySem.W.notFirst X.K C t = true := by
      unfold PySem.W.notFirst
      rcases ty with ⟨⟨T, hT, rfl⟩, _⟩ | ⟨m, c', fs', D, rfl, em, hD, rfl⟩
      · rw [sub_bt hT]
        simp
      · unfold yOk at hy
        dsimp only at hy
        rw [em] at hy
        have hy := of_decide_eq_true hy
        have cm : clsNm L (.ref m) = some c' := by unfold clsNm; dsimp only; rw [em]
        rw [cn, cm] at hy
        cases hy
        cases hc.uniq hD
        simp
    obtain ⟨od, J⟩ := ins_at I hxx
    obtain ⟨mm, hFr⟩ := I.fr
    have hu := G.hu
    have fin : ∀ A, A.guards = some [] → Room (3 * k) A → Env0 X.prog X.w X.K X.mg X.base A X.stack s H →
        wpAny (model X.prog X.w) A (call (.ref f) [.ref (ι n), u]) (fun w s' => ∃ k, w = .bool k ∧ EP X pins σV Q (.bool (if ne then !k else k)) s') X.xe s := by
      intro A hg hrA e0
      have h' : At X.K W (RVr X.K) σV σ ι L (M.ofO (permG ([e] ++ []) [0]) (fun zs => Rc g (.ref n :: zs)) L) (fun w H' => ∃ k, w = .bl k ∧ Q (.bl (if ne then !k else k)) H') H :=
        (At.bind (R := RVr X.K) h).imp fun w H' ⟨d2, ι2, L2, q2, ev2, h⟩ => by
          cases d2 with
          | bl k =>
            cases q2
            exact ⟨k, rfl, At.ret (v := V.bl (if ne then !k else k)) h (.bl _)⟩
          | _ => exact (At.no h).elim
      have rr : Vals [y] ([u] ++ []) := .cons ry .nil
      refine wpAny_call (codeAny_mono (run_self (A := A) (self := ι n) (us := [u]) (ws := []) (vs := [y]) (ds := [e]) F hrA hg e0 hb I rfl rfl rr (.cons r2 .nil) r1 h') fun r s' hq => ?_)
      cases r with
      | error er => exact hq
      | ok fl =>
        cases fl with
        | ret u =>
          obtain ⟨v, H', I3, rv, k, ev, q3⟩ := hq
          subst ev
          cases rv
          exact ⟨k, rfl, .bl (if ne then !k else k), H', I3, rfl, q3⟩
        | next => exact False.elim hq
        | brk => exact False.elim hq
        | cont => exact False.elim hq
    cases ne with
    | false =>
      show wpAny _ _ (richCompare .Eq (.ref (ι n)) u) _ _ _
      refine PySem.W.cmp_K (op := .Eq) (by omega) hFr I.ok.mod.kin J hb' hnf hs hf (wpAny_mono (fin X.A G.hg (hr.mono (by omega)) I.env0) (fun w s' hw => ?_) fun _ _ e => e)
      obtain ⟨k, rfl, q⟩ := hw
      exact q
    | true =>
      show wpAny _ _ (richCompare .NotEq (.ref (ι n)) u) _ _ _
      refine ne_K (by omega) I.kIn J hF.cm hb' hnf hs hf hne (wpAny_mono (fin X.A.in1 G.hg (hr.mono (by omega) : Room (3 * k + 1) X.A).in1 I.env0.in1) (fun w s' hw => ?_) fun _ _ e => e)
      obtain ⟨k, rfl, q⟩ := hw
      exact ⟨k, rfl, q⟩
  · cases eg
def oeqM (Rc : Cal) (ne : Bool) (cs : List (Str × Nat)) (ma mb : LSt → M LV) : LSt → M LV := fun σ => M.bind (ma σ) fun x => M.bind (mb σ) fun y => M.look (fun L => eqAt cs L x y) fun g => M.bind (Rc g [x, y]) (eqK ne)
theorem e_oeq (G : Good X) (ne : Bool) (hE : ∀ q ∈ cs, EqG X.prog X.w X.K X.mg X.base k q.1 (Rc q.2)) (hr : Room (3 * k + 2) X.A) (ha : PE X a (tI X.K W ma)) (hb : PE X b (tI X.K W mb)) (hm : behindInMarks (if ne then CmpOp.NotEq else CmpOp.Eq) b = false) :
    PE X (.Compare a [if ne then CmpOp.NotEq else CmpOp.Eq] [b] pos) (tI X.K W (oeqM Rc ne cs ma mb)) := by
  refine ⟨fun pins s σV H Q I ⟨ι, σ, L, h⟩ => ?_⟩
  refine wpAny_Compare1 (thn (ha.run pins s σV H _ I ⟨ι, σ, L, At.bind (R := RVr X.K) h⟩) fun v s1 ⟨x, H1, I1, rx, d, ι1, L1, r1, ev1, h⟩ => ?_) hm
  refine thn (hb.run pins s1 σV H1 _ I1 ⟨ι1, σ, L1, At.bind (R := RVr X.K) h⟩) fun u s2 ⟨y, H2, I2, ry, e, ι2, L2, r2, ev2, h⟩ => ?_
  exact oeq_run G ne hE hr I2 rx ry (r1.mono ev2) r2 h
theorem t_oeq (G : Good X) (ne : Bool) (hE : ∀ q ∈ cs, EqG X.prog X.w X.K X.mg X.base k q.1 (Rc q.2)) (hr : Room (3 * k + 2) X.A) (ha : PE X a (tI X.K W ma)) (hb : PE X b (tI X.K W mb)) (hm : behindInMarks (if ne then CmpOp.NotEq else CmpOp.Eq) b = false) :
    PT X (.Compare a [if ne then CmpOp.NotEq else CmpOp.Eq] [b] pos) (tT X.K W (oeqM Rc ne cs ma mb)) := by
  refine ⟨fun pins s σV H Q I ⟨ι, σ, L, h⟩ => ?_⟩
  refine wpAny_isTrue_Compare1 (thn (ha.run pins s σV H _ I ⟨ι, σ, L, At.bind (R := RVr X.K) h⟩) fun v s1 ⟨x, H1, I1, rx, d, ι1, L1, r1, ev1, h⟩ => ?_) hm
  refine thn (hb.run pins s1 σV H1 _ I1 ⟨ι1, σ, L1, At.bind (R := RVr X.K) h⟩) fun u s2 ⟨y, H2, I2, ry, e, ι2, L2, r2, ev2, h⟩ => ?_
  refine thn (oeq_run G ne hE hr I2 rx ry (r1.mono ev2) r2 h) fun c s3 ⟨z, H3, I3, r3, k, ek, q3⟩ => ?_
  subst ek
  cases r3
  exact wpAny_truthy_bool ⟨H3, I3, q3⟩

/-- a class's own operator -/
structure OpG (P : Program) (w : World) (K : PySem.W.Frag) (mg : Str → Option Value) (base : Heap) (k : Nat) (op : BOp) (c : Str) (R : List LV → M LV) : Prop where
  ex : ∃ C f fd ps, ClsOf K c C ∧ PySem.W.selfFirst K C = true ∧ PySem.W.findIn K (.ref C) (PySem.dunder (opOf op).info.2) = some (some (.ref f)) ∧ PySem.W.isFn K (.ref f) = true ∧ FnG P w K mg base k f fd ps R ∧ BindM K fd ps 1 [] [] [0]
theorem cmpBack_of {P : Value → Shared → Prop} {z : V} {v : Value} {s' : Shared} (r : RelV z v) (h : P v s') : PySem.W.CmpBack P v s' := by
  cases z with
  | non => cases (show v = Value.none from r); exact h
  | bl b => cases (show v = Value.bool b from r); exact h
  | int i => obtain ⟨t, e⟩ := (show ∃ t, v = Value.int i t from r); cases e; exact h
  | str x => obtain ⟨t, e⟩ := (show ∃ t, v = Value.str x t from r); cases e; exact h
  | byt b => obtain ⟨t, e⟩ := (show ∃ t, v = Value.bytes b t from r); cases e; exact h
  | flt b => obtain ⟨t, e⟩ := (show ∃ t, v = Value.float b t from r); cases e; exact h
  | ref a => cases (show v = Value.ref a from r); exact h
  | ty n => cases (show v = Value.type n from r); exact h
def obiM (Rc : Cal) (op : BOp) (cs : List (Str × Nat)) (ma mb : LSt → M LV) : LSt → M LV := fun σ => M.bind (ma σ) fun x => M.bind (mb σ) fun y => M.look (fun L => opAt cs (opName op) L x y) fun g => Rc g [x, y]
theorem e_obi (G : Good X) (op : BOp) (hE : ∀ q ∈ cs, OpG X.prog X.w X.K X.mg X.base k op q.1 (Rc q.2)) (hr : Room (3 * k + 2) X.A) (ha : PE X a (tI X.K W ma)) (hb : PE X b (tI X.K W mb)) :
    PE X (.BinOp a (opOf op) b pos) (tI X.K W (obiM Rc op cs ma mb)) := by
  refine ⟨fun pins s σV H Q I ⟨ι, σ, L, h⟩ => ?_⟩
  refine wpAny_BinOp (thn (ha.run pins s σV H _ I ⟨ι, σ, L, At.bind (R := RVr X.K) h⟩) fun v s1 ⟨x, H1, I1, rx, d, ι1, L1, r1, ev1, h⟩ => ?_)
  refine thn (hb.run pins s1 σV H1 _ I1 ⟨ι1, σ, L1, At.bind (R := RVr X.K) h⟩) fun u s2 ⟨y, H2, I2, ry, e, ι2, L2, r2, ev2, h⟩ => ?_
  have r1 := r1.mono ev2
  obtain ⟨g, eg, h⟩ := At.look (g := fun L => opAt cs (opName op) L d e) h
  have eg : opAt cs (opName op) L2 d e = some g := eg
  unfold opAt at eg
  split at eg
  · rename_i hy
    obtain ⟨n, c, fs, rfl, eL, hn, hl⟩ := clsAt_some eg
    obtain rfl := r1.refV
    obtain rfl : v = Value.ref (ι2 n) := rx
    obtain ⟨C, dx, vs, hc, hF, hxx, hv⟩ := h.rep.ob n _ eL
    obtain ⟨C', f, fd, ps, hc', hsf, hs, hf, F, hb⟩ := (hE (c, g) (lookup_mem hl)).ex
    cases hc.uniq hc'
    have cn : clsNm L2 (.ref n) = some c := by unfold clsNm; dsimp only; rw [eL]
    rw [cn] at hy
    cases e with
    | ref m =>
      cases em : L2[m]? with
      | none => unfold clsNm at hy; dsimp only at hy; rw [em] at hy; cases hy
      | some o =>
        cases o with
        | ins c' fs' =>
          unfold clsNm at hy
          dsimp only at hy
          rw [em] at hy
          cases hy
          obtain rfl := r2.refV
          obtain rfl : u = Value.ref (ι2 m) := ry
          obtain ⟨D, dy, ws, hD, hF2, hyy, hw⟩ := h.rep.ob m _ em
          cases hc.uniq hD
          obtain ⟨od, J⟩ := ins_at I2 hxx
          obtain ⟨od', J'⟩ := ins_at I2 hyy
          obtain ⟨mm, hFr⟩ := I2.fr
          refine PySem.W.binop_K hFr I2.ok.mod.kin J J'.type hsf hs hf ?_
          have h' : At X.K W (RVr X.K) σV σ ι2 L2 (M.ofO (permG ([.ref m] ++ []) [0]) (fun zs => Rc g (.ref n :: zs)) L2) Q H2 := h
          have rr : Vals [V.ref (ι2 m)] ([Value.ref (ι2 m)] ++ []) := .cons rfl .nil
          refine wpAny_mono (back_call (run_self (self := ι2 n) (us := [.ref (ι2 m)]) (ws := []) (ks := []) F (hr.mono (by omega)) G.hg I2.env0 hb I2 rfl rfl rr (.cons r2 .nil) r1 h')) (fun w s' hw => ?_) fun _ _ e => e
          obtain ⟨z, H', I', rz, q⟩ := hw
          exact cmpBack_of rz ⟨z, H', I', rz, q⟩
        | _ => unfold clsNm at hy; dsimp only at hy; rw [em] at hy; cases hy
    | _ => cases hy
  · cases eg
end

/-! ### str(x), len(x) -/
section
open PySem.W PySem.Calls
variable {prog : Program} {w : World} {A : Around} {E : Value → Shared → Prop} {s : Shared} {K : Frag} {x C f : Addr} {ox : Obj} {od : Option Obj}
theorem str_own {Q : Value → Shared → Prop} (hu : A.units + 3 < cLine) (X : K.In s.heap) (I : InstAt s.heap x ox C od) (hs : findIn K (.ref C) "__str__" = some (some (.ref f))) (hf : isFn K (.ref f) = true)
    (h : wpAny (model prog w) A.in1.in1 (call (.ref f) [.ref x]) (fun r s₁ => ∃ n u, r = Value.str n u ∧ Q r s₁) E s) : wpAny (model prog w) A (call (.type "str") [.ref x]) Q E s := by
  refine callType_codes (T := "str") (Bi := Builtin.«object.__init__») (Q₁ := fun r s₁ => ∃ n u, r = Value.str n u ∧ Q r s₁) PySem.F.called_str (PySem.F.typeCall_str_1 _) PySem.F.entry_object_init ?_ ?_
  · refine codeAny_of_tree ?_
    show wpAny _ A.in1.in1 (do checkBuiltinCall "str.__new__" ⟨[.type "str", .ref x], []⟩; again (.builtin "str.__new__" ⟨[.type "str", .ref x], []⟩)) _ _ s
    refine wpAny_bind (wpAny_of_eq (PySem.F.newCall_str_1 _) (wpAny_pure ⟨plainId_quiet (by decide +kernel) _, codeAny_builtin PySem.F.entry_str_new ?_⟩))
    rw [Around.under_plainId (by decide +kernel) _]
    rw [str_new_tree]
    refine wpAny_bind (wpAny_pure ?_)
    refine wpAny_bind (wpAny_of_eq isSubtype_str_str ?_)
    have inner : wpAny (model prog w) A.in1.in1 (Builtin.Str.strOf (.ref x)) (fun r s₁ => ∃ n u, r = Value.str n u ∧ Q r s₁) E s := by
      unfold Builtin.Str.strOf
      rw [show Builtin.Str.isExactStr (.ref x) = false from rfl]
      refine wpAny_bind (wpAny_cRoomFor (by show A.units + 1 + 1 < cLine; omega) ?_)
      refine wpAny_bind (m := callSpecial? (.ref x) (Str.ofString "__str__")) (special_fn X I hs (beq_iff_eq.mp hf) (wpAny_mono h (fun r s' hr => ?_) fun _ _ y => y))
      obtain ⟨n, u, rfl, hq⟩ := hr
      exact wpAny_bind (m := asStr? (.str n u)) (wpAny_pure (wpAny_pure ⟨n, u, rfl, hq⟩))
    exact wpAny_bind (wpAny_mono inner (fun r s' hr => wpAny_pure hr) fun _ _ e => e)
  · rintro obj s₁ ⟨n, u, rfl, hq⟩
    exact ⟨typeIs_str _ _ _, PySem.F.args_object_init_2 _ _, object_init_meets PySem.F.called_str.init.lookup PySem.F.called_str.made (by decide) prog w A.in1 _ s₁ ⟨typeIs_str _ _ _, rfl, hq⟩⟩
end
/-- a class's own special def of one argument -/
structure SpG (P : Program) (w : World) (K : PySem.W.Frag) (mg : Str → Option Value) (base : Heap) (k : Nat) (m c : Str) (R : List LV → M LV) : Prop where
  ex : ∃ C f fd ps, ClsOf K c C ∧ PySem.W.findIn K (.ref C) m = some (some (.ref f)) ∧ PySem.W.isFn K (.ref f) = true ∧ FnG P w K mg base k f fd ps R ∧ BindM K fd ps 0 [] [] []
def ostM (Rc : Cal) (cs : List (Str × Nat)) (ma : LSt → M LV) : LSt → M LV := fun σ => M.bind (ma σ) (ostK Rc cs)
def olnM (Rc : Cal) (cs : List (Str × Nat)) (ma : LSt → M LV) : LSt → M LV := fun σ => M.bind (ma σ) (olnK Rc cs)
section
variable {X : Cx} {W : XW} {pos p p' apos : Pos} {c x m f : Str} {k np g : Nat} {Rc : Cal} {R : List LV → M LV} {perm : List Nat} {ms mk : LSt → M (List LV)} {mo ma mb : LSt → M LV} {a b o : Expr} {es : List Expr} {kws : List Keyword} {ks : List Str} {dl : List LV} {cs : List (Str × Nat)}
theorem e_ost (G : Good X) (hE : ∀ q ∈ cs, SpG X.prog X.w X.K X.mg X.base k "__str__" q.1 (Rc q.2)) (hr : Room (3 * k + 2) X.A) (hg : Gl X "str") (hm : X.mg "str" = none) (ha : PE X a (tI X.K W ma))
    (he : starEach [a] X.env = (false, eval a X.env) :: starEach [] X.env) : PE X (.Call (.Name "str" p) [a] [] pos) (tI X.K W (ostM Rc cs ma)) := by
  refine ⟨fun pins s σV H Q I ⟨ι, σ, L, h⟩ => ?_⟩
  refine wpAny_Call_Name_kw (ld_blt (u := .type "str") I hg hm (by decide +kernel) ?_ (by decide) (by decide))
  refine PyProof.Rows.callWith_type1 (thn ((pa_cons ha pa_nil he).run pos pins s σV H (fun vs H1 => ∃ x, vs = [x] ∧ ∃ d ι1 L1, RV X.K H1 ι1 L1.length x d ∧ Ev X.K ι H L.length ι1 H1 L1.length ∧ At X.K W (RVr X.K) σV σ ι1 L1 (ostK Rc cs d L1) Q H1) I ⟨ι, σ, L, (At.bind (R := RVr X.K) h).imp fun x H1 q => ⟨x, rfl, q⟩⟩) fun us s1 ⟨vs, H1, I1, r, x, exs, d, ι1, L1, r1, ev1, h⟩ => ?_) he rfl
  subst exs
  obtain ⟨u, rfl, ru⟩ := vals1 r
  obtain ⟨g, eg, h⟩ := At.look (g := fun L => clsAt cs "__str__" L d) h
  obtain ⟨n, c, fs, rfl, eL, hn, hl⟩ := clsAt_some eg
  obtain rfl := r1.refV
  obtain rfl : u = Value.ref (ι1 n) := ru
  obtain ⟨C, dx, vs, hc, hF, hxx, hv⟩ := h.rep.ob n _ eL
  obtain ⟨C', f, fd, ps, hc', hs, hf, F, hb⟩ := (hE (c, g) (lookup_mem hl)).ex
  cases hc.uniq hc'
  obtain ⟨od, J⟩ := ins_at I1 hxx
  have hu := G.hu
  have h' : At X.K W (RVr X.K) σV σ ι1 L1 (M.ofO (permG ([] ++ []) []) (fun zs => Rc g (.ref n :: zs)) L1) (fun w H' => ∃ z, w = .str z ∧ Q (.str z) H') H1 := (At.bind (R := RVr X.K) h).imp fun w H' ⟨d2, ι2, L2, q2, ev2, h⟩ => by
    cases d2 with
    | str z => cases q2; exact ⟨z, rfl, At.ret (v := V.str z) h (.str _)⟩
    | _ => exact (At.no h).elim
  refine str_own (by omega) I1.kIn J hs hf (wpAny_mono (back_call (run_self (A := X.A.in1.in1) (self := ι1 n) (us := []) (ws := []) (ks := []) (vs := []) (ds := []) F (Room.in1 hr).in1 G.hg I1.env0.in1.in1 hb I1 rfl rfl .nil .nil r1 h')) (fun w s' hw => ?_) fun _ _ e => e)
  obtain ⟨v, H', I3, rv, z, ev, q3⟩ := hw
  subst ev
  obtain ⟨t, rfl⟩ := rv
  exact ⟨z, t, rfl, .str z, H', I3, ⟨t, rfl⟩, q3⟩
theorem e_oln (G : Good X) (hE : ∀ q ∈ cs, SpG X.prog X.w X.K X.mg X.base k "__len__" q.1 (Rc q.2)) (hr : Room (3 * k + 2) X.A) (hg : Gl X "len") (hm : X.mg "len" = none) (ha : PE X a (tI X.K W ma))
    (he : starEach [a] X.env = (false, eval a X.env) :: starEach [] X.env) : PE X (.Call (.Name "len" p) [a] [] pos) (tI X.K W (olnM Rc cs ma)) := by
  refine ⟨fun pins s σV H Q I ⟨ι, σ, L, h⟩ => ?_⟩
  refine wpAny_Call_Name_kw (ld_blt (u := .builtin "len") I hg hm boot_len ?_ (by decide) (by decide))
  refine PyProof.Rows.callWith_builtin1 (thn ((pa_cons ha pa_nil he).run pos pins s σV H (fun vs H1 => ∃ x, vs = [x] ∧ ∃ d ι1 L1, RV X.K H1 ι1 L1.length x d ∧ Ev X.K ι H L.length ι1 H1 L1.length ∧ At X.K W (RVr X.K) σV σ ι1 L1 (olnK Rc cs d L1) Q H1) I ⟨ι, σ, L, (At.bind (R := RVr X.K) h).imp fun x H1 q => ⟨x, rfl, q⟩⟩) fun us s1 ⟨vs, H1, I1, r, x, exs, d, ι1, L1, r1, ev1, h⟩ => ?_) he rfl
  subst exs
  obtain ⟨u, rfl, ru⟩ := vals1 r
  obtain ⟨g, eg, h⟩ := At.look (g := fun L => clsAt cs "__len__" L d) h
  obtain ⟨n, c, fs, rfl, eL, hn, hl⟩ := clsAt_some eg
  obtain rfl := r1.refV
  obtain rfl : u = Value.ref (ι1 n) := ru
  obtain ⟨C, dx, vs, hc, hF, hxx, hv⟩ := h.rep.ob n _ eL
  obtain ⟨C', f, fd, ps, hc', hs, hf, F, hb⟩ := (hE (c, g) (lookup_mem hl)).ex
  cases hc.uniq hc'
  obtain ⟨od, J⟩ := ins_at I1 hxx
  obtain ⟨mm, hFr⟩ := I1.fr
  have h' : At X.K W (RVr X.K) σV σ ι1 L1 (M.ofO (permG ([] ++ []) []) (fun zs => Rc g (.ref n :: zs)) L1) (fun w H' => ∃ z : Int, w = .int z ∧ (0 ≤ z ∧ z < 2 ^ 63) ∧ Q (.int z) H') H1 := (At.bind (R := RVr X.K) h).imp fun w H' ⟨d2, ι2, L2, q2, ev2, h⟩ => by
    cases d2 with
    | int z =>
      cases q2
      obtain ⟨cc, h⟩ := At.chk h
      exact ⟨z, rfl, of_decide_eq_true cc, At.ret (v := V.int z) h (.int _)⟩
    | _ => exact (At.no h).elim
  refine PySem.W.len_K hFr I1.ok.mod.kin J hs hf (wpAny_mono (back_call (run_self (A := X.A.in1) (self := ι1 n) (us := []) (ws := []) (ks := []) (vs := []) (ds := []) F (hr.mono (by omega) : Room (3 * k + 1) X.A).in1 G.hg I1.env0.in1 hb I1 rfl rfl .nil .nil r1 h')) (fun w s' hw => ?_) fun _ _ e => e)
  obtain ⟨v, H', I3, rv, z, ev, hz, q3⟩ := hw
  subst ev
  obtain ⟨t, rfl⟩ := rv
  exact ⟨hz, .int z, H', I3.tok _, ⟨_, rfl⟩, q3⟩

/-! ### calls with defaults -/
variable {fa : Addr} {fd : FuncData} {ps : List Str}
theorem run_dfl {pins : List (Addr × Obj)} {σV : L2.St} {σ : LSt} {H : Hp} {s : Shared} {ι : Nat → Addr} {L : LH} {Q : VK} {us ws : List Value} {vs : List V} {ds : List LV} (G : Good X) (F : FnG X.prog X.w X.K X.mg X.base k fa fd ps R) (hr : Room (3 * k + 2) X.A)
    (hb : BindD X.K fd ps np ks dl perm) (I : Inv X pins σV H s) (hu : us.length = np) (hw : ws.length = ks.length) (r : Vals vs (us ++ ws)) (q : RVs X.K H ι L.length vs ds)
    (h : At X.K W (RVr X.K) σV σ ι L (M.ofO (permG (ds ++ dl) perm) (fun zs => R zs) L) Q H) : wpAny (model X.prog X.w) X.A (call (.ref fa) us (ks.zip ws)) (EP X pins σV Q) X.xe s := by
  obtain ⟨zs, e, h⟩ := h.ofO
  obtain ⟨dv, hd, hb⟩ := hb
  obtain ⟨dvs, rd, qd⟩ := dfl_v hd
  obtain ⟨ws', xs, h1, h2, h3⟩ := perm_rel (r.append rd) (q.append (qd _ _ _ _)) e
  obtain ⟨b1, b2⟩ := hb s us ws xs I.kIn hu hw h1
  exact callG F (hr.mono (by omega)) G.hg I.env0 I b1 b2 h2 h3 h
theorem e_calD (G : Good X) (F : FnG X.prog X.w X.K X.mg X.base k fa fd ps R) (hr : Room (3 * k + 2) X.A) (hg : Gl X x) (hm : X.mg x = some (.ref fa)) (hk : PySem.W.keepIn X.K (.ref fa) = true) (hb : BindD X.K fd ps np ks dl perm)
    (ha : PA X (a :: es) (tIs X.K W ms)) (hkw : PK X kws (tIs X.K W mk)) (hall : (backToKw pos (keywordEach kws X.env)).all (·.1.isSome) = true) (hks : (backToKw pos (keywordEach kws X.env)).filterMap (·.1) = ks)
    (hdb : (x == ("__debug__" : Str)) = false) (he : starEach (a :: es) X.env = (false, eval a X.env) :: starEach es X.env)
    (hpl : ((backTo pos (starEach (a :: es) X.env)).any (·.1) || (backToKw pos (keywordEach kws X.env)).any (·.1.isNone)) = false)
    (la : ∀ σ L xs L', ms σ L = some (.ok xs L') → xs.length = np) (lk : ∀ σ L xs L', mk σ L = some (.ok xs L') → xs.length = ks.length) :
    PE X (.Call (.Name x p) (a :: es) kws pos) (tI X.K W (calDM R ms mk dl perm)) := by
  refine ⟨fun pins s σ H Q I h => ?_⟩
  obtain ⟨ι, σ, L, h⟩ := h
  refine wpAny_Call_Name_kw (ld_glob I hg hm ?_ hdb)
  refine PySem.W.callWith_KW (h₀ := X.base) I.ok.mod.kin hk hall (thn (ha.run pos pins s _ H _ I ⟨ι, σ, L, h.bindE (R := RVsr X.K)⟩) fun us s1 ⟨vs, H1, I1, r, q⟩ => ?_) hpl he
  obtain ⟨ds, ι1, L1, q1, r1, ev, h⟩ := q
  refine thn (hkw.run pos pins s1 _ H1 _ I1 ⟨ι1, σ, L1, h.bindE (R := RVsr X.K)⟩) fun ws s2 ⟨zs, H2, I2, rz, q2⟩ => ⟨I2.kIn, ?_⟩
  obtain ⟨es2, ι2, L2, q3, r2, ev2, h⟩ := q2
  rw [hks]
  exact run_dfl G F hr hb I2 (by show us.length = np; rw [← r.length, r1.length, la _ _ _ _ q1]) (by rw [← rz.length, r2.length, lk _ _ _ _ q3]) (r.append rz) ((r1.mono ev2).append r2) h
end

/-! ### f-strings -/
def fM (me : LSt → M LV) : LSt → M LV := fun σ => M.bind (me σ) fun x => M.bind (fmtV x) fun y => M.ret (.str y)
def tsF (K : PySem.W.Frag) (W : XW) (R : Cal) : IEs → List TE
  | .nil => []
  | .cons e is => tI K W (fM (evE R e)) :: tsF K W R is
section
variable {X : Cx} {W : XW} {R : Cal} {pos : Pos} {e : Expr} {me : LSt → M LV}
theorem M.bind_chk {α β : Type} {b : Bool} {m : M α} {f : α → M β} : M.bind (M.chk b m) f = M.chk b (M.bind m f) := by cases b <;> rfl
theorem f_cst {z : Str} {j : Nat} : PE X (.Constant (.str z) j pos) (tI X.K W (fM fun _ => M.ret (.str z))) := PE.imp pe_str fun σV H Q ⟨ι, σ, L, h⟩ => by
  have h : At X.K W (RVr X.K) σV σ ι L (M.bind (M.chk (small z.length) (M.ret z)) (fun y => M.ret (.str y)) L) Q H := h
  rw [M.bind_chk] at h
  obtain ⟨_, h⟩ := At.chk h
  exact At.ret (v := V.str z) h (.str _)
theorem f_fmt (G : Good X) (he : PE X e (tI X.K W me)) : PE X (.FormattedValue e (-1) none pos) (tI X.K W (fM me)) := by
  refine ⟨fun pins s σV H Q I ⟨ι, σ, L, h⟩ => ?_⟩
  refine wpAny_FormattedValue_plain (thn (he.run pins s σV H _ I ⟨ι, σ, L, At.bind (R := RVr X.K) h⟩) fun v s1 ⟨x, H1, I1, rx, d, ι1, L1, r1, ev1, h⟩ => ?_)
  cases d with
  | str z =>
    cases r1
    obtain ⟨t, rfl⟩ := rx
    have h : At X.K W (RVr X.K) σV σ ι1 L1 (M.bind (M.chk (small z.length) (M.ret z)) (fun y => M.ret (.str y)) L1) Q H1 := h
    rw [M.bind_chk] at h
    obtain ⟨hz, h⟩ := At.chk h
    have q := At.ret (v := V.str z) h (.str _)
    exact wpAny_formatField_str ⟨.str z, H1, I1, ⟨t, rfl⟩, q⟩ ⟨.str z, H1, I1.tok _, ⟨_, rfl⟩, q⟩ (line_of hz)
  | int i =>
    cases r1
    obtain ⟨t, rfl⟩ := rx
    have h : At X.K W (RVr X.K) σV σ ι1 L1 (M.bind (M.chk (decide (i.natAbs < digLim)) (M.ret (toString i : Str))) (fun y => M.ret (.str y)) L1) Q H1 := h
    rw [M.bind_chk] at h
    obtain ⟨hz, h⟩ := At.chk h
    have q := At.ret (v := V.str (toString i : Str)) h (.str _)
    have hz : i.natAbs < 10 ^ 4300 := of_decide_eq_true (p := i.natAbs < digLim) hz
    exact formatField_int (I1.ok.hd G.calm) (G.dg.keeps I1.bk) (fun _ => ⟨.str (toString i), H1, I1.tok _, ⟨_, rfl⟩, q⟩) fun hge => absurd hz (Nat.not_lt.mpr hge)
  | _ => exact (At.no h).elim
theorem fs_at : ∀ (is : IEs) (acc : Str) {σV : L2.St} {σ : LSt} {ι : Nat → Addr} {L : LH} {H : Hp} {Q : Str → Hp → Prop}, At X.K W Eqr σV σ ι L (evFs R is σ acc L) Q H → tJs (tsF X.K W R is) acc σV H Q
  | .nil, acc, σV, σ, ι, L, H, Q, h => At.ret (v := acc) h rfl
  | .cons e is, acc, σV, σ, ι, L, H, Q, h => by
    have e1 : evFs R (.cons e is) σ acc = M.bind (fM (evE R e) σ) (fun v => match v with
        | .str y => M.chk (small (acc ++ y).length) (evFs R is σ (acc ++ y))
        | _ => M.no) := by
      unfold fM
      rw [M.bind_bind]
      show M.bind (evE R e σ) (fun x => M.bind (fmtV x) fun y => M.chk (small (acc ++ y).length) (evFs R is σ (acc ++ y))) = _
      congr 1
      funext x
      rw [M.bind_bind]
      rfl
    rw [e1] at h
    refine ⟨ι, σ, L, (At.bind (R := RVr X.K) h).imp fun x H1 ⟨d, ι1, L1, r1, ev1, h⟩ => ?_⟩
    cases d with
    | str y =>
      cases r1
      obtain ⟨hz, h⟩ := At.chk h
      exact ⟨y, rfl, line_of hz, fs_at is (acc ++ y) h⟩
    | _ => exact (At.no h).elim
theorem e_fst {v1 v2 : Expr} {rest : List Expr} {is : IEs} (h : PJ X (v1 :: v2 :: rest) (tsF X.K W R is)) : PE X (.JoinedStr (v1 :: v2 :: rest) pos) (tI X.K W fun σ => M.bind (evFs R is σ Str.empty) fun s => M.ret (.str s)) :=
  PE.imp (pe_joined h) fun σV H Q ⟨ι, σ, L, h⟩ => fs_at is Str.empty ((At.bind (R := Eqr) h).imp fun y H1 ⟨d, ι1, L1, r1, ev1, h⟩ => by
    cases r1
    exact At.ret (v := V.str y) h (.str _))
end
end Mv

/-! Mv11: the rules by the small language's terms. -/
namespace Mv
open PySem PySem.Spec PyProof.Rows L2

abbrev EE (X : Cx) (W : XW) (R : Cal) (e : Expr) (i : IE) : Prop := PE X e (tI X.K W (evE R i))
abbrev ET (X : Cx) (W : XW) (R : Cal) (e : Expr) (i : IE) : Prop := PT X e (tT X.K W (evE R i))
abbrev EW (X : Cx) (W : XW) (R : Cal) (e : Expr) (i : IE) : Prop := PW X e (tT X.K W (evE R i))
abbrev EA (X : Cx) (W : XW) (R : Cal) (es : List Expr) (is : IEs) : Prop := PA X es (tIs X.K W (evEs R is))
abbrev EK (X : Cx) (W : XW) (R : Cal) (es : List Keyword) (is : IEs) : Prop := PK X es (tIs X.K W (evEs R is))
abbrev EO (X : Cx) (W : XW) (R : Cal) (e : Option Expr) (i : IO) : Prop := PO X e (tIO X.K W (evO R i))
abbrev EC (X : Cx) (W : XW) (R : Cal) (es : List Expr) (i : IO) : Prop := PTs X es (tG X.K W Eqr (evC R i))
abbrev EI (X : Cx) (W : XW) (R : Cal) (tg e : Expr) (i : II) : Prop := PI X tg e (tSrc X.K W (evI R i))
abbrev EG (X : Cx) (W : XW) (R : Cal) (own : List Nat) (e : Expr) (t : IT) : Prop := PG X e (tgI X.K W own (evT R t))
abbrev EGs (X : Cx) (W : XW) (R : Cal) (own : List Nat) (e : List Expr) (t : ITs) : Prop := PGs X e (tgsI X.K W own (evTs R t))
abbrev ES (X : Cx) (W : XW) (R : Cal) (s : Stmt) (i : IS) : Prop := PS X s (tS X.K W (evS R i))
abbrev EB (X : Cx) (W : XW) (R : Cal) (s : List Stmt) (i : List IS) : Prop := PSs X s (tS X.K W (evB R i))

section
variable {X : Cx} {W : XW} {R : Cal} {a b c e tg : Expr} {ia ib ic ie : IE} {es rest : List Expr} {is : IEs} {pos p p2 p3 : Pos} {j k : Nat}
theorem E_var {i : Nat} {x : Str} (hN : X.N[i]? = some x) (hv : Vis X.env.scope x) (hd : (x == ("__debug__" : Str)) = false) (hcd : (x == ("__classdict__" : Str)) = false) : EE X W R (.Name x pos) (.var i) := e_var hN hv hd hcd
theorem E_int {i : Int} : EE X W R (.Constant (.int i) j pos) (.lit (.int i)) := e_int
theorem E_str {i : Str} : EE X W R (.Constant (.str i) j pos) (.lit (.str i)) := e_str
theorem E_bl {i : Bool} : EE X W R (.Constant (.bool i) j pos) (.lit (.bl i)) := e_bl
theorem E_non : EE X W R (.Constant .none j pos) (.lit .non) := e_non
theorem E_bin (op : BOp) (ha : EE X W R a ia) (hb : EE X W R b ib) : EE X W R (.BinOp a (opOf op) b pos) (.bin op ia ib) := e_bin op ha hb
theorem E_neg (ha : EE X W R a ia) : EE X W R (.UnaryOp .USub a pos) (.neg ia) := e_neg ha
theorem E_cmp (G : Good X) (op : COp) (ha : EE X W R a ia) (hb : EE X W R b ib) (hm : behindInMarks (copOf op) b = false := by rfl) : EE X W R (.Compare a [copOf op] [b] pos) (.cmp op ia ib) := e_cmp G op ha hb hm
theorem T_cmp (G : Good X) (op : COp) (ha : EE X W R a ia) (hb : EE X W R b ib) (hm : behindInMarks (copOf op) b = false := by rfl) : ET X W R (.Compare a [copOf op] [b] pos) (.cmp op ia ib) := t_cmp G op ha hb hm
theorem E_cmp2 (G : Good X) (op op' : COp) (ha : EE X W R a ia) (hb : EE X W R b ib) (hc : EE X W R c ic) (hm : lastMarks [copOf op, copOf op'] [b, c] = false := by rfl) : EE X W R (.Compare a [copOf op, copOf op'] [b, c] pos) (.cmp2 op op' ia ib ic) := e_chain G op op' ha hb hc hm
theorem T_cmp2 (G : Good X) (op op' : COp) (ha : EE X W R a ia) (hb : EE X W R b ib) (hc : EE X W R c ic) (hm : lastMarks [copOf op, copOf op'] [b, c] = false := by rfl) : ET X W R (.Compare a [copOf op, copOf op'] [b, c] pos) (.cmp2 op op' ia ib ic) := t_chain G op op' ha hb hc hm
theorem E_one {op : BoolOp} (ha : EE X W R a ia) : EE X W R (.BoolOp op [a] pos) ia := pe_one ha
theorem E_and (ha : EE X W R a ia) (hb : EE X W R (.BoolOp .And (b :: rest) pos) ib) : EE X W R (.BoolOp .And (a :: b :: rest) pos) (.and ia ib) := e_and ha hb
theorem E_or (ha : EE X W R a ia) (hb : EE X W R (.BoolOp .Or (b :: rest) pos) ib) : EE X W R (.BoolOp .Or (a :: b :: rest) pos) (.or ia ib) := e_or ha hb
theorem W_and1 (ha : ET X W R a ia) : EW X W R (.BoolOp .And [a] pos) ia := pw_and1 ha
theorem W_or1 (ha : ET X W R a ia) : EW X W R (.BoolOp .Or [a] pos) ia := pw_or1 ha
theorem W_and (ha : ET X W R a ia) (hb : EW X W R (.BoolOp .And (b :: rest) pos) ib) : EW X W R (.BoolOp .And (a :: b :: rest) pos) (.and ia ib) := w_and ha hb
theorem W_or (ha : ET X W R a ia) (hb : EW X W R (.BoolOp .Or (b :: rest) pos) ib) : EW X W R (.BoolOp .Or (a :: b :: rest) pos) (.or ia ib) := w_or ha hb
theorem T_w (h : EW X W R a ia) : ET X W R a ia := ⟨fun pins s σ H Q I w => h.run _ pins s σ H Q I w⟩
theorem T_val (h : EE X W R a ia) (he : ∀ whole, isTrue a X.env whole = (do let v ← whole; standAt a.pos; holding [v] (truthy v)) := by intro _; rfl) : ET X W R a ia := pt_val h he
theorem E_not (ha : EE X W R a ia) : EE X W R (.UnaryOp .Not a pos) (.not ia) := e_not ha
theorem T_not (ha : ET X W R a ia) : ET X W R (.UnaryOp .Not a pos) (.not ia) := t_not ha
theorem E_ife (hc : ET X W R c ic) (ha : EE X W R a ia) (hb : EE X W R b ib) : EE X W R (.IfExp c a b pos) (.ife ic ia ib) := e_ite hc ha hb
theorem E_glo {x : Str} {v : LV} {u : Value} (hm : X.mg x = some u) (r : RelC v u) (hg : Gl X x := by rfl) (hd : (x == ("__debug__" : Str)) = false := by decide) : EE X W R (.Name x pos) (.glo v) := e_glo hg hm r hd
theorem E_gloX {x : Str} {v : LV} (h : ∃ u, X.mg x = some u ∧ RelC v u) (hg : Gl X x := by rfl) (hd : (x == ("__debug__" : Str)) = false := by decide) : EE X W R (.Name x pos) (.glo v) := by
  obtain ⟨u, hm, r⟩ := h
  exact E_glo hm r hg hd
theorem A_nil : EA X W R [] .nil := a_nil
theorem A_cons (ha : EE X W R a ia) (hs : EA X W R es is) (he : starEach (a :: es) X.env = (false, eval a X.env) :: starEach es X.env := by rfl) : EA X W R (a :: es) (.cons ia is) := a_cons ha hs he
theorem E_lset (G : Good X) (hm : X.mg "len" = none) (hm2 : X.mg "set" = none) (ha : EE X W R a ia) (hg : Gl X "len" := by rfl) (hg2 : Gl X "set" := by rfl) (na : starEach [a] X.env = (false, eval a X.env) :: starEach [] X.env := by rfl) :
    EE X W R (.Call (.Name "len" p) [.Call (.Name "set" p2) [a] [] p3] [] pos) (.lset ia) := e_lset G hg hm hg2 hm2 ha na
theorem E_rgl1 (G : Good X) (t : Bool) (hm : X.mg (if t then "tuple" else "list") = none) (hm2 : X.mg "range" = none) (ha : EE X W R a ia) (hg : Gl X (if t then "tuple" else "list") := by rfl) (hg2 : Gl X "range" := by rfl) (na : starEach [a] X.env = (false, eval a X.env) :: starEach [] X.env := by rfl)
    (nb : starEach [.Call (.Name "range" p2) [a] [] p3] X.env = (false, eval (.Call (.Name "range" p2) [a] [] p3) X.env) :: starEach [] X.env := by rfl) :
    EE X W R (.Call (.Name (if t then "tuple" else "list") p) [.Call (.Name "range" p2) [a] [] p3] [] pos) (.rgl1 t ia) := e_rgl1 G t hg hm hg2 hm2 ha na nb
theorem E_rgl2 (G : Good X) (t : Bool) (hm : X.mg (if t then "tuple" else "list") = none) (hm2 : X.mg "range" = none) (ha : EE X W R a ia) (hb : EE X W R b ib) (hg : Gl X (if t then "tuple" else "list") := by rfl) (hg2 : Gl X "range" := by rfl) (na : starEach [a, b] X.env = (false, eval a X.env) :: starEach [b] X.env := by rfl)
    (nb : starEach [.Call (.Name "range" p2) [a, b] [] p3] X.env = (false, eval (.Call (.Name "range" p2) [a, b] [] p3) X.env) :: starEach [] X.env := by rfl) (nc : starEach [b] X.env = (false, eval b X.env) :: starEach [] X.env := by rfl) (hpl : (backTo p3 (starEach [b] X.env)).any (·.1) = false := by rfl) :
    EE X W R (.Call (.Name (if t then "tuple" else "list") p) [.Call (.Name "range" p2) [a, b] [] p3] [] pos) (.rgl2 t ia ib) := e_rgl2 G t hg hm hg2 hm2 ha hb na nb nc hpl
theorem E_inr (hm : X.mg "range" = none) (ha : EE X W R a ia) (hb : EE X W R b ib) (hc : EE X W R c ic) (hg : Gl X "range" := by rfl) (na : starEach [b, c] X.env = (false, eval b X.env) :: starEach [c] X.env := by rfl) (nc : starEach [c] X.env = (false, eval c X.env) :: starEach [] X.env := by rfl) (hpl : (backTo p2 (starEach [c] X.env)).any (·.1) = false := by rfl)
    (hmk : behindInMarks .In (.Call (.Name "range" p) [b, c] [] p2) = false := by rfl) : EE X W R (.Compare a [.In] [.Call (.Name "range" p) [b, c] [] p2] pos) (.inr ia ib ic) := e_inr ha hg hm hb hc na nc hpl hmk
theorem T_inr (hm : X.mg "range" = none) (ha : EE X W R a ia) (hb : EE X W R b ib) (hc : EE X W R c ic) (hg : Gl X "range" := by rfl) (na : starEach [b, c] X.env = (false, eval b X.env) :: starEach [c] X.env := by rfl) (nc : starEach [c] X.env = (false, eval c X.env) :: starEach [] X.env := by rfl) (hpl : (backTo p2 (starEach [c] X.env)).any (·.1) = false := by rfl)
    (hmk : behindInMarks .In (.Call (.Name "range" p) [b, c] [] p2) = false := by rfl) : ET X W R (.Compare a [.In] [.Call (.Name "range" p) [b, c] [] p2] pos) (.inr ia ib ic) := t_inr ha hg hm hb hc na nc hpl hmk
theorem E_tup (hs : EA X W R es is) : EE X W R (.Tuple es k pos) (.tup is) := e_tup hs
theorem E_lst (hs : EA X W R es is) : EE X W R (.List es pos) (.lst is) := e_lst hs
theorem E_ix (G : Good X) (ha : EE X W R a ia) (hb : EE X W R b ib) (hs : PlainIx b := by intro _ _; rfl) : EE X W R (.Subscript a b pos) (.ix ia ib) := e_ix G ha hb hs
theorem O_none : EO X W R none .none := o_none
theorem O_some (ha : EE X W R a ia) : EO X W R (some a) (.some ia) := o_some ha
theorem E_slc {lo hi : Option Expr} {il ih : IO} (ha : EE X W R a ia) (hl : EO X W R lo il) (hh : EO X W R hi ih) : EE X W R (.Subscript a (.Slice lo hi none p2) pos) (.slc ia il ih) := e_slc ha hl hh
theorem E_rev (ha : EE X W R a ia) : EE X W R (.Subscript a (.Slice none none (some (.UnaryOp .USub (.Constant (.int 1) k p) p2)) p3) pos) (.rev ia) := e_rev ha
theorem E_bi (G : Good X) (bi : Bi) (hm : X.mg (biName bi) = none) (hs : EA X W R (a :: es) is) (hg : Gl X (biName bi) := by rfl) (he : starEach (a :: es) X.env = (false, eval a X.env) :: starEach es X.env := by rfl) (hpl : (backTo pos (starEach es X.env)).any (·.1) = false := by rfl) :
    EE X W R (.Call (.Name (biName bi) p) (a :: es) [] pos) (.bi bi is) := e_bi G bi hg hm hs he hpl
theorem E_isi (t : Ty) (hm : X.mg "isinstance" = none) (hm' : X.mg (Str.ofString (tyName t)) = none) (ha : EE X W R a ia) (hg : Gl X "isinstance" := by rfl) (hg' : Gl X (Str.ofString (tyName t)) := by rfl)
    (he : starEach [a, .Name (Str.ofString (tyName t)) p2] X.env = (false, eval a X.env) :: starEach [.Name (Str.ofString (tyName t)) p2] X.env := by rfl) :
    EE X W R (.Call (.Name "isinstance" p) [a, .Name (Str.ofString (tyName t)) p2] [] pos) (.isi ia t) := e_isi t hg hm hg' hm' ha he
theorem E_mth {o : Expr} {io : IE} (m : Mth) (ho : EE X W R o io) (hs : EA X W R (a :: es) is) (hbase : attributeBase o (mtName m) X.env (eval o X.env) = eval o X.env := by rfl)
    (hfew : ((backTo pos (starEach (a :: es) X.env)).all (fun x => !x.1) && (backToKw pos (keywordEach [] X.env)).all (fun x => x.1.isSome)
      && decide ((a :: es).length + ([] : List Keyword).length + (if ([] : List Keyword).isEmpty then 0 else 1) < 30)) = true := by rfl)
    (hline : (p.endLine == pos.line) = true := by rfl) (he : starEach (a :: es) X.env = (false, eval a X.env) :: starEach es X.env := by rfl) (hpl : (backTo pos (starEach es X.env)).any (·.1) = false := by rfl) :
    EE X W R (.Call (.Attribute o (mtName m) p) (a :: es) [] pos) (.mth m io is) := e_mth m ho hs hbase hfew hline he hpl
theorem E_mth0 {o : Expr} {io : IE} (m : Mth) (ho : EE X W R o io) (hbase : attributeBase o (mtName m) X.env (eval o X.env) = eval o X.env := by rfl) (hline : (p.endLine == pos.line) = true := by rfl) :
    EE X W R (.Call (.Attribute o (mtName m) p) [] [] pos) (.mth m io .nil) := e_mth0 m ho hbase hline
theorem E_dct0 : EE X W R (.Dict [] [] pos) .dct0 := e_dct0
def iesL (R : Cal) : IEs → List (LSt → M LV)
  | .nil => []
  | .cons e es => evE R e :: iesL R es
theorem iesL_eq (R : Cal) : ∀ is : IEs, evEs R is = msOf (iesL R is)
  | .nil => rfl
  | .cons e es => by
    show consM (evE R e) (evEs R es) = consM (evE R e) (msOf (iesL R es))
    rw [iesL_eq R es]
/-- the pairs of a dict display -/
abbrev EP2 (X : Cx) (W : XW) (R : Cal) (pos : Pos) (keys : List (Option Expr)) (values : List Expr) (ks : List Key) (is : IEs) : Prop := PPs X pos keys values (trsOf X.K W ks (iesL R is))
theorem P_nil : EP2 X W R pos [] [] [] .nil := pps_nil
theorem P_str {keys : List (Option Expr)} {values : List Expr} {ks : List Key} {x : Str} (hv : EE X W R a ia) (hr : EP2 X W R pos keys values ks is) : EP2 X W R pos (some (.Constant (.str x) j p) :: keys) (a :: values) (.inr x :: ks) (.cons ia is) :=
  pps_cons pe_str hv hr
theorem P_int {keys : List (Option Expr)} {values : List Expr} {ks : List Key} {x : Int} (hv : EE X W R a ia) (hr : EP2 X W R pos keys values ks is) : EP2 X W R pos (some (.Constant (.int x) j p) :: keys) (a :: values) (.inl x :: ks) (.cons ia is) :=
  pps_cons pe_int hv hr
theorem iesL_len : ∀ is : IEs, (iesL R is).length = is.len
  | .nil => rfl
  | .cons e es => congrArg (· + 1) (iesL_len es)
theorem E_dct {keys : List (Option Expr)} {values : List Expr} {ks : List Key} (h : EP2 X W R pos keys values ks is) (hall : keys.all (·.isSome) = true := by rfl) (hl : keys.length = values.length := by rfl) (h0 : keys ≠ [] := by exact List.cons_ne_nil _ _) (h15 : keys.length ≤ 15 := by decide)
    (hk : ks.length = keys.length := by rfl) (hm : is.len = keys.length := by rfl) : EE X W R (.Dict keys values pos) (.dct ks is) := by
  have q := e_dct (W := W) h hall hl h0 h15 hk (by rw [iesL_len, hm])
  rw [← iesL_eq R is] at q
  exact q
theorem len_ms : ∀ (is : IEs) σ L xs L', evEs R is σ L = some (.ok xs L') → xs.length = is.len
  | .nil, σ, L, xs, L', h => by cases h; rfl
  | .cons e es, σ, L, xs, L', h => by
    have h : M.bind (evE R e σ) (fun x => M.bind (evEs R es σ) fun xs => M.ret (x :: xs)) L = some (.ok xs L') := h
    unfold M.bind at h
    cases e1 : evE R e σ L with
    | none => rw [e1] at h; cases h
    | some o =>
      rw [e1] at h
      cases o with
      | ex c fs L1 => cases h
      | ok x L1 =>
        dsimp only at h
        cases e2 : evEs R es σ L1 with
        | none => rw [e2] at h; cases h
        | some o2 =>
          rw [e2] at h
          cases o2 with
          | ex c fs L2 => cases h
          | ok ys L2 =>
            have h : some (Out.ok (x :: ys) L2) = some (.ok xs L') := h
            cases h
            exact congrArg (· + 1) (len_ms es _ _ _ _ e2)

/-! calls of defs -/
/-- a def that may be called by its name: how it is found, what it does -/
structure CalG (P : Program) (w : World) (K : PySem.W.Frag) (mg : Str → Option Value) (base : Heap) (k : Nat) (x : Str) (f : Addr) (fd : FuncData) (ps : List Str) (R : List LV → M LV) : Prop where
  fn : FnG P w K mg base k f fd ps R
  mg : mg x = some (.ref f)
  kp : PySem.W.keepIn K (.ref f) = true
variable {x : Str} {f : Addr} {fd : FuncData} {ps ks : List Str} {i n np : Nat} {perm : List Nat} {iks : IEs} {kws : List Keyword}
theorem E_call (G : Good X) (C : CalG X.prog X.w X.K X.mg X.base k x f fd ps (R i)) (hr : Room (3 * k + 2) X.A) (hb : BindOk X.K fd ps np ks perm) (ha : EA X W R (a :: es) is) (hkw : EK X W R kws iks)
    (ln : is.len = np := by rfl) (lk : iks.len = ks.length := by rfl) (hg : Gl X x := by rfl)
    (hall : (backToKw pos (keywordEach kws X.env)).all (·.1.isSome) = true := by rfl) (hks : (backToKw pos (keywordEach kws X.env)).filterMap (·.1) = ks := by rfl) (hdb : (x == ("__debug__" : Str)) = false := by decide)
    (he : starEach (a :: es) X.env = (false, eval a X.env) :: starEach es X.env := by rfl) (hpl : ((backTo pos (starEach (a :: es) X.env)).any (·.1) || (backToKw pos (keywordEach kws X.env)).any (·.1.isNone)) = false := by rfl) :
    EE X W R (.Call (.Name x p) (a :: es) kws pos) (.call i is iks perm) :=
  e_call G C.fn hr hg C.mg C.kp hb ha hkw hall hks hdb he hpl (fun σ L xs L' h => (len_ms _ _ _ _ _ h).trans ln) fun σ L xs L' h => (len_ms _ _ _ _ _ h).trans lk
theorem E_callK (G : Good X) (C : CalG X.prog X.w X.K X.mg X.base k x f fd ps (R i)) (hr : Room (3 * k + 2) X.A) (hb : BindOk X.K fd ps 0 ks perm) (hkw : EK X W R kws iks)
    (lk : iks.len = ks.length := by rfl) (hg : Gl X x := by rfl)
    (hall : (backToKw pos (keywordEach kws X.env)).all (·.1.isSome) = true := by rfl) (hks : (backToKw pos (keywordEach kws X.env)).filterMap (·.1) = ks := by rfl) (hdb : (x == ("__debug__" : Str)) = false := by decide)
    (hpl : ((backTo pos (starEach [] X.env)).any (·.1) || (backToKw pos (keywordEach kws X.env)).any (·.1.isNone)) = false := by rfl) :
    EE X W R (.Call (.Name x p) [] kws pos) (.call i .nil iks perm) :=
  e_callK G C.fn hr hg C.mg C.kp hb hkw hall hks hdb hpl fun σ L xs L' h => (len_ms _ _ _ _ _ h).trans lk
theorem E_call0 (G : Good X) (C : CalG X.prog X.w X.K X.mg X.base k x f fd ps (R i)) (hr : Room (3 * k + 2) X.A) (hb : BindOk X.K fd ps 0 [] perm) (hg : Gl X x := by rfl) (hdb : (x == ("__debug__" : Str)) = false := by decide) :
    EE X W R (.Call (.Name x p) [] [] pos) (.call i .nil .nil perm) := e_call0 G C.fn hr hg C.mg C.kp hb hdb
theorem K_nil : EK X W R [] .nil := k_nil
theorem K_cons {nm : Option Str} (ha : EE X W R a ia) (hr : EK X W R kws iks) : EK X W R (⟨nm, a, p⟩ :: kws) (.cons ia iks) := k_cons ha hr

/-! own classes -/
variable {cls : List Str} {csn : List (Str × Nat)} {csb : List (Str × Bool)} {dl : List LV} {o : Expr} {io : IE} {m : Str} {g : Nat}
theorem E_fld {f : Str} (hf : ∀ c ∈ cls, FldOk X.K f c) (ha : EE X W R a ia) (hb : attributeBase a f X.env (eval a X.env) = eval a X.env := by rfl) : EE X W R (.Attribute a f pos) (.fld cls f ia) := e_fld ha hf hb
theorem S_fld {f : Str} (hf : ∀ c ∈ cls, FldOk X.K f c) (ho : EE X W R o io) (he : EE X W R e ie) (hs : swapsWith e (some (.Attribute o f p)) pos.line X.env = pure false := by rfl) :
    ES X W R (.Assign [.Attribute o f p] e pos) (.asg (.fld cls f io) ie) := s_fld ho he hf hs
theorem E_prp {f : Str} (G : Good X) (hp : ∀ q ∈ csn, PrpG X.prog X.w X.K X.mg X.base k q.1 f (R q.2)) (hr : Room (3 * k + 2) X.A) (hx : ∀ e s', X.xe e s' → False) (ha : EE X W R a ia)
    (hb : attributeBase a f X.env (eval a X.env) = eval a X.env := by rfl) : EE X W R (.Attribute a f pos) (.prp csn f ia) := e_prp G ha hp hr hb hx
theorem E_mk {c : Str} (G : Good X) (C : MkG X.prog X.w X.K X.mg X.base k c (R g) np ks dl perm) (hr : Room (3 * k + 2) X.A) (ha : EA X W R (a :: es) is) (hkw : EK X W R kws iks)
    (ln : is.len = np := by rfl) (lk : iks.len = ks.length := by rfl) (hg : Gl X c := by rfl)
    (hall : (backToKw pos (keywordEach kws X.env)).all (·.1.isSome) = true := by rfl) (hks : (backToKw pos (keywordEach kws X.env)).filterMap (·.1) = ks := by rfl) (hdb : (c == ("__debug__" : Str)) = false := by decide)
    (he : starEach (a :: es) X.env = (false, eval a X.env) :: starEach es X.env := by rfl) (hpl : ((backTo pos (starEach (a :: es) X.env)).any (·.1) || (backToKw pos (keywordEach kws X.env)).any (·.1.isNone)) = false := by rfl) :
    EE X W R (.Call (.Name c p) (a :: es) kws pos) (.mk c g is iks dl perm) :=
  e_mk G C hr hg ha hkw hall hks hdb he hpl (fun σ L xs L' h => (len_ms _ _ _ _ _ h).trans ln) fun σ L xs L' h => (len_ms _ _ _ _ _ h).trans lk
theorem E_mkK {c : Str} (G : Good X) (C : MkG X.prog X.w X.K X.mg X.base k c (R g) 0 ks dl perm) (hr : Room (3 * k + 2) X.A) (hkw : EK X W R kws iks)
    (lk : iks.len = ks.length := by rfl) (hg : Gl X c := by rfl)
    (hall : (backToKw pos (keywordEach kws X.env)).all (·.1.isSome) = true := by rfl) (hks : (backToKw pos (keywordEach kws X.env)).filterMap (·.1) = ks := by rfl) (hdb : (c == ("__debug__" : Str)) = false := by decide)
    (hpl : ((backTo pos (starEach [] X.env)).any (·.1) || (backToKw pos (keywordEach kws X.env)).any (·.1.isNone)) = false := by rfl) :
    EE X W R (.Call (.Name c p) [] kws pos) (.mk c g .nil iks dl perm) :=
  e_mkK G C hr hg hkw hall hks hdb hpl fun σ L xs L' h => (len_ms _ _ _ _ _ h).trans lk
theorem E_omt {apos : Pos} {pl : Sem Bool} (G : Good X) (hm : ∀ q ∈ csn, MetG X.prog X.w X.K X.mg X.base k q.1 m (R q.2) np ks dl perm) (hr : Room (3 * k + 2) X.A) (ho : EE X W R o io) (ha : EA X W R (a :: es) is) (hkw : EK X W R kws iks)
    (ln : is.len = np := by rfl) (lk : iks.len = ks.length := by rfl)
    (hall : (backToKw pos (keywordEach kws X.env)).all (·.1.isSome) = true := by rfl) (hks : (backToKw pos (keywordEach kws X.env)).filterMap (·.1) = ks := by rfl)
    (he : starEach (a :: es) X.env = (false, eval a X.env) :: starEach es X.env := by rfl) (hpl : ((backTo pos (starEach (a :: es) X.env)).any (·.1) || (backToKw pos (keywordEach kws X.env)).any (·.1.isNone)) = false := by rfl)
    (ht : eval (.Call (.Attribute o m apos) (a :: es) kws pos) X.env = (do
      let ov ← eval o X.env
      standAt apos.atName
      let (f, first) ← holding [ov] (getMethod ov m pl)
      callWith pos f first (backTo pos (starEach (a :: es) X.env)) (backToKw pos (keywordEach kws X.env))) := by rfl) :
    EE X W R (.Call (.Attribute o m apos) (a :: es) kws pos) (.omt csn m io is iks dl perm) :=
  e_omt G ho hm hr ha hkw hall hks he hpl (fun σ L xs L' h => (len_ms _ _ _ _ _ h).trans ln) (fun σ L xs L' h => (len_ms _ _ _ _ _ h).trans lk) ht
theorem E_omtK {apos : Pos} {pl : Sem Bool} (G : Good X) (hm : ∀ q ∈ csn, MetG X.prog X.w X.K X.mg X.base k q.1 m (R q.2) 0 ks dl perm) (hr : Room (3 * k + 2) X.A) (ho : EE X W R o io) (hkw : EK X W R kws iks)
    (lk : iks.len = ks.length := by rfl)
    (hall : (backToKw pos (keywordEach kws X.env)).all (·.1.isSome) = true := by rfl) (hks : (backToKw pos (keywordEach kws X.env)).filterMap (·.1) = ks := by rfl)
    (hpl : ((backTo pos (starEach [] X.env)).any (·.1) || (backToKw pos (keywordEach kws X.env)).any (·.1.isNone)) = false := by rfl)
    (ht : eval (.Call (.Attribute o m apos) [] kws pos) X.env = (do
      let ov ← eval o X.env
      standAt apos.atName
      let (f, first) ← holding [ov] (getMethod ov m pl)
      callWith pos f first (backTo pos (starEach [] X.env)) (backToKw pos (keywordEach kws X.env))) := by rfl) :
    EE X W R (.Call (.Attribute o m apos) [] kws pos) (.omt csn m io .nil iks dl perm) :=
  e_omtK G ho hm hr hkw hall hks hpl (fun σ L xs L' h => (len_ms _ _ _ _ _ h).trans lk) ht
theorem E_calD (G : Good X) (C : CalG X.prog X.w X.K X.mg X.base k x f fd ps (R i)) (hr : Room (3 * k + 2) X.A) (hb : BindD X.K fd ps np ks dl perm) (ha : EA X W R (a :: es) is) (hkw : EK X W R kws iks)
    (ln : is.len = np := by rfl) (lk : iks.len = ks.length := by rfl) (hg : Gl X x := by rfl)
    (hall : (backToKw pos (keywordEach kws X.env)).all (·.1.isSome) = true := by rfl) (hks : (backToKw pos (keywordEach kws X.env)).filterMap (·.1) = ks := by rfl) (hdb : (x == ("__debug__" : Str)) = false := by decide)
    (he : starEach (a :: es) X.env = (false, eval a X.env) :: starEach es X.env := by rfl) (hpl : ((backTo pos (starEach (a :: es) X.env)).any (·.1) || (backToKw pos (keywordEach kws X.env)).any (·.1.isNone)) = false := by rfl) :
    EE X W R (.Call (.Name x p) (a :: es) kws pos) (.calD i is iks dl perm) :=
  e_calD G C.fn hr hg C.mg C.kp hb ha hkw hall hks hdb he hpl (fun σ L xs L' h => (len_ms _ _ _ _ _ h).trans ln) fun σ L xs L' h => (len_ms _ _ _ _ _ h).trans lk
theorem E_obi (G : Good X) (op : BOp) (hE : ∀ q ∈ csn, OpG X.prog X.w X.K X.mg X.base k op q.1 (R q.2)) (hr : Room (3 * k + 2) X.A) (ha : EE X W R a ia) (hb : EE X W R b ib) : EE X W R (.BinOp a (opOf op) b pos) (.obi op csn ia ib) := e_obi G op hE hr ha hb
theorem E_oeq (G : Good X) (ne : Bool) (hE : ∀ q ∈ csn, EqG X.prog X.w X.K X.mg X.base k q.1 (R q.2)) (hr : Room (3 * k + 2) X.A) (ha : EE X W R a ia) (hb : EE X W R b ib) (hm : behindInMarks (if ne then CmpOp.NotEq else CmpOp.Eq) b = false := by rfl) :
    EE X W R (.Compare a [if ne then CmpOp.NotEq else CmpOp.Eq] [b] pos) (.oeq ne csn ia ib) := e_oeq G ne hE hr ha hb hm
theorem T_oeq (G : Good X) (ne : Bool) (hE : ∀ q ∈ csn, EqG X.prog X.w X.K X.mg X.base k q.1 (R q.2)) (hr : Room (3 * k + 2) X.A) (ha : EE X W R a ia) (hb : EE X W R b ib) (hm : behindInMarks (if ne then CmpOp.NotEq else CmpOp.Eq) b = false := by rfl) :
    ET X W R (.Compare a [if ne then CmpOp.NotEq else CmpOp.Eq] [b] pos) (.oeq ne csn ia ib) := t_oeq G ne hE hr ha hb hm
theorem E_ost (G : Good X) (hE : ∀ q ∈ csn, SpG X.prog X.w X.K X.mg X.base k "__str__" q.1 (R q.2)) (hr : Room (3 * k + 2) X.A) (hm : X.mg "str" = none) (ha : EE X W R a ia) (hg : Gl X "str" := by rfl)
    (he : starEach [a] X.env = (false, eval a X.env) :: starEach [] X.env := by rfl) : EE X W R (.Call (.Name "str" p) [a] [] pos) (.ost csn ia) := e_ost G hE hr hg hm ha he
theorem E_oln (G : Good X) (hE : ∀ q ∈ csn, SpG X.prog X.w X.K X.mg X.base k "__len__" q.1 (R q.2)) (hr : Room (3 * k + 2) X.A) (hm : X.mg "len" = none) (ha : EE X W R a ia) (hg : Gl X "len" := by rfl)
    (he : starEach [a] X.env = (false, eval a X.env) :: starEach [] X.env := by rfl) : EE X W R (.Call (.Name "len" p) [a] [] pos) (.oln csn ia) := e_oln G hE hr hg hm ha he
theorem E_iso {c : Str} (C : IsoG X.K X.mg c csb) (hm : X.mg "isinstance" = none) (ha : EE X W R a ia) (hg : Gl X "isinstance" := by rfl) (hg' : Gl X c := by rfl) (hdb : (c == ("__debug__" : Str)) = false := by decide)
    (he : starEach [a, .Name c p2] X.env = (false, eval a X.env) :: starEach [.Name c p2] X.env := by rfl) (he2 : starEach [.Name c p2] X.env = (false, eval (.Name c p2) X.env) :: starEach [] X.env := by rfl) :
    EE X W R (.Call (.Name "isinstance" p) [a, .Name c p2] [] pos) (.iso csb c ia) := e_iso C hg hm hg' hdb ha he he2
/-- the parts of an f-string -/
abbrev EJ (X : Cx) (W : XW) (R : Cal) (es : List Expr) (is : IEs) : Prop := PJ X es (tsF X.K W R is)
theorem J_nil : EJ X W R [] .nil := .nil
theorem J_cst {z : Str} (h : EJ X W R es is) : EJ X W R (.Constant (.str z) j pos :: es) (.cons (.lit (.str z)) is) := .cons f_cst h
theorem J_fmt (G : Good X) (ha : EE X W R a ia) (h : EJ X W R es is) : EJ X W R (.FormattedValue a (-1) none pos :: es) (.cons ia is) := .cons (f_fmt G ha) h
theorem E_fst {v1 v2 : Expr} {rest : List Expr} (h : EJ X W R (v1 :: v2 :: rest) is) : EE X W R (.JoinedStr (v1 :: v2 :: rest) pos) (.fst is) := e_fst h

/-! targets, what is walked, comprehensions -/
variable {own : List Nat} {ts : ITs} {t : IT} {ii : II} {ifs : List Expr} {co : IO} {iter elt : Expr} {scope : Scope} {ow : List (Str × Nat)}
theorem G_name {i : Nat} (G : Good X) (hi : X.N[i]? = some x) (hx : Loc X.env.scope x) (hf : X.fn x = true ∨ X.env.scope.names.lookup x = some .local) (ho : i ∈ own) : EG X W R own (.Name x pos) (.name i) := g_name G.nd hi hx hf ho
theorem Gs_nil : EGs X W R own [] .nil := PGs.imp gs_nil fun v σV H Q ⟨ι, σ, L, ds, r, h⟩ => ⟨ι, σ, L, ds, r, by cases ds with
  | nil => exact h
  | cons _ _ => exact (At.no h).elim⟩
theorem Gs_cons (hW : WInv W) (h1 : EG X W R own e t) (h2 : EGs X W R own es ts) (hs : (assignEach (e :: es) X.env).map (·.2) = assign e X.env :: (assignEach es X.env).map (·.2) := by rfl) : EGs X W R own (e :: es) (.cons t ts) :=
  PGs.imp (gs_cons hW h1 h2 hs) fun v σV H Q ⟨ι, σ, L, ds, r, h⟩ => ⟨ι, σ, L, ds, r, by cases ds with
  | nil => exact (At.no h).elim
  | cons _ _ => exact h⟩
theorem G_tup (G : Good X) (h : EGs X W R own es ts) (hn : (assignEach es X.env).length = ts.len := by rfl) (hst : (assignEach es X.env).findIdx? (·.1) = none := by rfl) : EG X W R own (.Tuple es k pos) (.tup ts) := g_tup G h hn hst
theorem G_sub {o i : Expr} {io ii : IE} (G : Good X) (ho : EE X W R o io) (hi : EE X W R i ii) (hn : notSlice i = true := by rfl) : EG X W R own (.Subscript o i pos) (.sub io ii) := g_sub G hn ho hi
theorem I_val (h : EE X W R e ie) : EI X W R tg e (.val ie) := i_val h
theorem I_rng1 (hm : X.mg "range" = none) (ha : EE X W R a ia) (hg : Gl X "range" := by rfl) (hs : starEach [a] X.env = [(false, eval a X.env)] := by rfl) : EI X W R tg (.Call (.Name "range" p) [a] [] pos) (.rng1 ia) := i_rng1 hg hm ha hs
theorem I_rng3 (hm : X.mg "range" = none) (ha : EE X W R a ia) (hb : EE X W R b ib) (hc : EE X W R c ic) (hg : Gl X "range" := by rfl) (hs : starEach [a, b, c] X.env = (false, eval a X.env) :: starEach [b, c] X.env := by rfl) (hs2 : starEach [b, c] X.env = (false, eval b X.env) :: starEach [c] X.env := by rfl) (hs3 : starEach [c] X.env = (false, eval c X.env) :: starEach [] X.env := by rfl)
    (hpl : (backTo pos (starEach [b, c] X.env)).any (·.1) = false := by rfl) : EI X W R tg (.Call (.Name "range" p) [a, b, c] [] pos) (.rng3 ia ib ic) := i_rng3 hg hm ha hb hc hs hs2 hs3 hpl
theorem I_rng2 (hm : X.mg "range" = none) (ha : EE X W R a ia) (hb : EE X W R b ib) (hg : Gl X "range" := by rfl) (hs : starEach [a, b] X.env = [(false, eval a X.env), (false, eval b X.env)] := by rfl) (hs2 : starEach [b] X.env = [(false, eval b X.env)] := by rfl) :
    EI X W R tg (.Call (.Name "range" p) [a, b] [] pos) (.rng2 ia ib) := i_rng2 hg hm ha hb hs hs2
theorem I_zip {elts : List Expr} {kk : Nat} {tpos : Pos} (hm : X.mg "zip" = none) (ha : EE X W R a ia) (hb : EE X W R b ib) (hg : Gl X "zip" := by rfl) (hs : starEach [a, b] X.env = (false, eval a X.env) :: starEach [b] X.env := by rfl) (hs2 : starEach [b] X.env = (false, eval b X.env) :: starEach [] X.env := by rfl) (hpl : (backTo pos (starEach [b] X.env)).any (·.1) = false := by rfl) :
    EI X W R (.Tuple elts kk tpos) (.Call (.Name "zip" p) [a, b] [] pos) (.zip ia ib) := i_zip hg hm ha hb hs hs2 hpl
theorem I_zipS {elts : List Expr} {kk j : Nat} {tpos kp kpos : Pos} (hm : X.mg "zip" = none) (ha : EE X W R a ia) (hb : EE X W R b ib) (hg : Gl X "zip" := by rfl) (hs : starEach [a, b] X.env = (false, eval a X.env) :: starEach [b] X.env := by rfl) (hs2 : starEach [b] X.env = (false, eval b X.env) :: starEach [] X.env := by rfl) (hpl : (backTo pos (starEach [b] X.env)).any (·.1) = false := by rfl) :
    EI X W R (.Tuple elts kk tpos) (.Call (.Name "zip" p) [a, b] [⟨some (Str.ofString "strict"), .Constant (.bool true) j kp, kpos⟩] pos) (.zip ia ib) := i_zipS hg hm ha hb hs hs2 hpl
theorem I_enm {elts : List Expr} {kk : Nat} {tpos : Pos} (hm : X.mg "enumerate" = none) (ha : EE X W R a ia) (hg : Gl X "enumerate" := by rfl) (hs : starEach [a] X.env = (false, eval a X.env) :: starEach [] X.env := by rfl) :
    EI X W R (.Tuple elts kk tpos) (.Call (.Name "enumerate" p) [a] [] pos) (.enm ia) := i_enm hg hm ha hs
theorem C_none : EC X W R [] .none := c_none
theorem C_one (h : ET X W R c ic) : EC X W R [c] (.some ic) := c_one h
theorem E_comp (G : Good X) (hW : WInv W) (hi : EI X W R tg iter ii) (ok : BlkOk X.N X.env.scope scope ow) (hg : AllB X scope fun Y => EG Y W R (ow.map (·.2)) tg t) (ht : AllB X scope fun Y => EC Y W R ifs co) (he : AllB X scope fun Y => EE Y W R elt ie)
    (hs : ∀ x, foldedSetIterable iter X.env x = pure x := by intro _; rfl) : EE X W R (.ListComp elt [⟨tg, iter, ifs, 0⟩] scope pos) (.comp (ow.map (·.2)) t ii co ie) := e_comp G hW hi ok hg ht he hs

/-! statements -/
variable {st : Stmt} {sts body : List Stmt} {s : IS} {ss sa sb : List IS}
theorem B_nil : EB X W R [] [] := b_nil
theorem B_cons (hW : WInv W) (h1 : ES X W R st s) (h2 : EB X W R sts ss) : EB X W R (st :: sts) (s :: ss) := b_cons hW h1 h2
theorem S_asg (he : EE X W R e ie) (hg : EG X W R own tg t) (hs : swapsWithSole [tg] e pos.line X.env = pure false := by rfl) (hw : swappedStores [tg] e X.env = pure none := by rfl)
    (h1 : (assignEach [tg] X.env).map (·.2) = [assign tg X.env] := by rfl) : ES X W R (.Assign [tg] e pos) (.asg t ie) := s_asg he hg hs hw h1
theorem S_setLc {i : Nat} {y : Str} {py spos : Pos} (G : Good X) (hW : WInv W) (hy : X.N[i]? = some y) (hyl : X.env.scope.names.lookup y = some .local)
    (hsw : swapsWith (.ListComp elt [⟨tg, iter, ifs, 0⟩] scope pos) (some (.Name y py)) spos.line X.env = pure true) (hi : EI X W R tg iter ii) (ok : BlkOk X.N X.env.scope scope ow)
    (hg : AllB X scope fun Y => EG Y W R (ow.map (·.2)) tg t) (ht : AllB X scope fun Y => EC Y W R ifs co) (he : AllB X scope fun Y => EE Y W R elt ie)
    (hs : ∀ x, foldedSetIterable iter X.env x = pure x := by intro _; rfl) : ES X W R (.Assign [.Name y py] (.ListComp elt [⟨tg, iter, ifs, 0⟩] scope pos) spos) (.asg (.name i) (.comp (ow.map (·.2)) t ii co ie)) :=
  s_setLc G hW hy hyl hsw hi ok hg ht he hs
theorem S_exp (he : EE X W R e ie) (hs : swapsWith e none pos.line X.env = pure false := by rfl) : ES X W R (.Expr e pos) (.exp ie) := s_exp he hs
theorem S_ret (he : EE X W R e ie) : ES X W R (.Return (some e) pos) (.ret ie) := s_ret he
theorem S_retN : ES X W R (.Return none pos) .retN := s_retN
theorem S_pass : ES X W R (.Pass pos) .pss := s_pass
theorem S_brk : ES X W R (.Break pos) .brk := s_brk
theorem S_cnt : ES X W R (.Continue pos) .cnt := s_cnt
theorem S_ifs {sA sB : List Stmt} (hc : ET X W R c ic) (ha : EB X W R sA sa) (hb : EB X W R sB sb) : ES X W R (.If c sA sB pos) (.ifs ic sa sb) := s_ifs hc ha hb
theorem S_aug {i : Nat} (op : BOp) (G : Good X) (hi : X.N[i]? = some x) (hx : Loc X.env.scope x) (he : EE X W R e ie) (hf : X.fn x = true ∨ X.env.scope.names.lookup x = some .local) : ES X W R (.AugAssign (.Name x p) (opOf op) e pos) (.aug i op ie) := s_aug op G hi hx he hf
theorem S_par {i j : Nat} {x y : Str} {px py pt : Pos} {kt k2 pt2} (G : Good X) (hi : X.N[i]? = some x) (hj : X.N[j]? = some y) (hij : i ≠ j) (hx : X.env.scope.names.lookup x = some .local) (hy : X.env.scope.names.lookup y = some .local) (ha : EA X W R [a, b] is)
    (hw : swappedStores [.Tuple [.Name x px, .Name y py] kt pt] (.Tuple [a, b] k2 pt2) X.env = pure (some [x, y]) := by rfl) (hs : swapsWithSole [.Tuple [.Name x px, .Name y py] kt pt] (.Tuple [a, b] k2 pt2) pos.line X.env = pure false := by rfl) :
    ES X W R (.Assign [.Tuple [.Name x px, .Name y py] kt pt] (.Tuple [a, b] k2 pt2) pos) (.par [i, j] is) := s_par G hi hj hij hx hy ha hw hs
theorem S_par3 {i j l : Nat} {x y z : Str} {px py pz pt : Pos} {kt k2 pt2} (G : Good X) (hi : X.N[i]? = some x) (hj : X.N[j]? = some y) (hl : X.N[l]? = some z) (hij : i ≠ j) (hil : i ≠ l) (hjl : j ≠ l)
    (hx : X.env.scope.names.lookup x = some .local) (hy : X.env.scope.names.lookup y = some .local) (hz : X.env.scope.names.lookup z = some .local) (ha : EA X W R [a, b, c] is)
    (hw : swappedStores [.Tuple [.Name x px, .Name y py, .Name z pz] kt pt] (.Tuple [a, b, c] k2 pt2) X.env = pure (some [x, y, z]) := by rfl)
    (hs : swapsWithSole [.Tuple [.Name x px, .Name y py, .Name z pz] kt pt] (.Tuple [a, b, c] k2 pt2) pos.line X.env = pure false := by rfl) :
    ES X W R (.Assign [.Tuple [.Name x px, .Name y py, .Name z pz] kt pt] (.Tuple [a, b, c] k2 pt2) pos) (.par [i, j, l] is) := s_par3 G hi hj hl hij hil hjl hx hy hz ha hw hs
theorem S_for (G : Good X) (hW : WInv W) (hp : PassesOwn (model X.prog X.w) X.A X.env X.xe) (hi : EI X W R tg iter ii) (hg : EG X W R own tg t) (hb : EB X W R body sb) (hs : ∀ x, foldedSetIterable iter X.env x = pure x := by intro _; rfl) : ES X W R (.For tg iter body [] pos) (.for t ii sb) := s_for G hW hp hi hg hb hs
theorem S_whl (G : Good X) (hW : WInv W) (hp : PassesOwn (model X.prog X.w) X.A X.env X.xe) (hc : ET X W R c ic) (hb : EB X W R body sb) : ES X W R (.While c body [] pos) (.whl ic sb) := s_whl G hW hp hc hb
end
end Mv

/-! Mv12: a def by its body; the law's end. -/
namespace Mv
open PySem PySem.Spec PyProof.Rows L2

theorem rs_start {K : PySem.W.Frag} {H : Hp} {ι : Nat → Addr} {n : Nat} {N : List Str} {vs : List V} {ds : List LV} (q : RVs K H ι n vs ds) : RS K H ι n (start N vs) (startL N.length ds) := by
  have hl := q.length
  refine ⟨by unfold L2.start startL; simp [hl], fun i d e => ?_⟩
  unfold startL at e
  by_cases hi : i < ds.length
  · rw [List.getElem?_append_left (by simpa using hi), List.getElem?_map] at e
    cases e1 : ds[i]? with
    | none => rw [e1] at e; cases e
    | some d' =>
      rw [e1] at e
      cases e
      obtain ⟨v, h1, h2⟩ := q.get e1
      refine ⟨v, ?_, h2⟩
      unfold L2.start
      rw [List.getElem?_append_left (by rw [List.length_map, hl]; exact hi), List.getElem?_map, h1]
      rfl
  · rw [List.getElem?_append_right (by simpa using hi), List.getElem?_replicate] at e
    split at e <;> cases e

/-- the context of a def's body -/
abbrev cxG (P : Program) (w : World) (K : PySem.W.Frag) (mg : Str → Option Value) (base : Heap) (N : List Str) (qual : Str) (scope : Scope) (f : Addr) (cdv : Value) (A : Around) (outer : List Env) (s : Shared) (H : Hp) : Cx :=
  (cxOf CX0 P w K mg base N qual scope f cdv A outer s H E0).nox
section
variable {P : Program} {w : World} {K : PySem.W.Frag} {mg : Str → Option Value} {base : Heap} {k : Nat} {f : Addr} {fd : FuncData} {name qual : Str} {N ps : List Str} {R : Cal} {g : Fn}
theorem good_of {scope : Scope} {cdv : Value} {A : Around} {outer : List Env} {s : Shared} {H : Hp} (S : FnScope N ps scope) (hr : Room k (A.deeper (envOfC qual scope s.heap.objs.size f cdv))) (hg : A.guards = some []) (hd : base.NoDigits) : Good (cxG P w K mg base N qual scope f cdv A outer s H) := by
  refine ⟨rfl, hg, ?_, S.nd, hd⟩
  have := hr.un
  show (A.deeper (envOfC qual scope s.heap.objs.size f cdv)).units + 150 < cLine
  omega
/-- a def does what its term does -/
theorem fnG_of {params : Arguments} {body : List Stmt} {scope : Scope} {dV kV doc pm cdv ct oc : Value} {an od : Option Addr} {osl : Array (Option Value)}
    (lk : K.lookup f = some ⟨oc, od, .func (PySem.W.fnOf name qual params body scope dV kV doc pm an cdv ct), osl⟩)
    (hcd : PySem.W.codeIn K cdv qual = true) (S : FnScope N ps scope) (hn : g.n = N.length) (hp : g.p = ps.length)
    (hbody : ∀ (W : XW) (A : Around) (outer : List Env) (s : Shared) (H : Hp), WInv W → Room (3 * k + 2) (A.deeper (envOfC qual scope s.heap.objs.size f cdv)) → A.guards = some [] →
      EB (cxG P w K mg base N qual scope f cdv A outer s H) W R body g.body) :
    FnG P w K mg base (k + 1) f (PySem.W.fnOf name qual params body scope dV kV doc pm an cdv ct) ps (callFn R g) := by
  refine ⟨fun W A outer s H args us vs ds ι L Q hr hgu e0 hb hlen r q h => ?_⟩
  have h : At K W (RVr K) [] [] ι L (M.chk (decide (ds.length = g.p)) (M.bind (evB R g.body (startL g.n ds)) fun (r : Fl × LSt) => match r with
    | (.rt v, _) => M.ret v
    | (.nx, _) => M.ret .non
    | _ => M.no) L) Q H := h
  obtain ⟨c, h⟩ := At.chk h
  have c := of_decide_eq_true c
  have hl : vs.length = ps.length := by
    rw [q.length, c, hp]
  rw [hn] at h
  have KX : K.In s.heap :=
    e0.mod.kin.keeps fun b o e => (e0.bs b o e).1
  have lim : s.heap.NoLimit :=
    e0.mod.nolimit.keeps fun b o e => (e0.bs b o e).1
  have hkind : ∀ y ∈ ps.zip us, scope.names.lookup y.1 = some .local ∨ (scope.names.lookup y.1 = some .cell ∧
      ((cellsFrom (s.heap.objs.size + 1) scope.names []).lookup y.1).isSome = true) := by
    rintro ⟨n, v⟩ hy
    rcases S.par n (List.of_mem_zip hy).1 with z | z
    · exact .inl z
    · exact .inr ⟨z, PySem.W.cellsFrom_some _ _ _ (.inl z)⟩
  refine codeAny_call_function hr.depth
    (KX _ _ lk) rfl S.co S.gen rfl
    (PySem.W.codeRec_of KX hcd) (hb _ _ _ _ ?_)
  refine wpAny_newFunctionEnv_cells S.kind
    hkind fun env he s1 x => ?_
  subst he
  refine ⟨lim.keeps x.toInCall.keep,
    codeAny_func ?_⟩
  have I : Inv (cxOf CX0 P w K mg base N qual scope f cdv A outer s H E0) [] (start N vs) H s1 :=
    inv_start S hr.hd e0 hl r x
  have hS := (hbody (fun c fs L ι H _ => W c fs L ι H []) A outer s H (fun _ _ _ _ _ _ _ _ z => z) ((show Room (3 * k + 2 + 1) A from hr).deeper _) hgu).nox
  have rs := rs_start (N := N) q
  have h1 : At K (fun c fs L ι H _ => W c fs L ι H []) (RVr K) (start N vs) (startL N.length ds) ι L _ Q H := ⟨h.rep, rs, h.go⟩
  have h2 : tS K (fun c fs L ι H _ => W c fs L ι H []) (evB R g.body) { nx := fun _ H' => Q .non H', rt := Q } (start N vs) H := by
    refine ⟨ι, startL N.length ds, L, (At.bind (R := FlR K (start N vs).length) h1).imp fun v H1 ⟨d, ι1, L1, z, ev, h⟩ => ?_⟩
    obtain ⟨fv, σ1V⟩ := v
    obtain ⟨fl, σ1⟩ := d
    obtain ⟨z1, z2, z3⟩ := z
    cases fv with
    | nx =>
      cases fl with
      | nx => exact At.ret (v := V.non) h .non
      | _ => exact False.elim z3
    | bk =>
      cases fl with
      | bk => exact (At.no h).elim
      | _ => exact False.elim z3
    | ct =>
      cases fl with
      | ct => exact (At.no h).elim
      | _ => exact False.elim z3
    | rt u =>
      cases fl with
      | rt d => exact At.ret (v := u) h z3
      | _ => exact False.elim z3
  refine wpAny_mono (hS.run [] s1 _ H _ I h2)
    (fun fl s' hs => ?_) fun e s' hs => hs
  have fin : ∀ {σ' : L2.St} {H' : Hp} {v : V} {u : Value}, Inv (cxOf CX0 P w K mg base N qual scope f cdv A outer s H E0) [] σ' H' s' → RelV v u → Q v H' →
      CE outer P w H s Q u s' := fun {σ' H' v u} J rv q => ⟨v, H', J.os, J.bare, J.base, J.hok, rv, q⟩
  cases fl with
  | ret u => exact let ⟨v, σ', H', J, rv, q⟩ := hs; fin J rv q
  | next => exact let ⟨σ', H', J, q⟩ := hs; fin (v := V.non) (u := Value.none) J rfl q
  | brk => exact let ⟨_, _, _, q⟩ := hs; False.elim q
  | cont => exact let ⟨_, _, _, q⟩ := hs; False.elim q
/-- nothing is said of calls nested deeper than the count -/
theorem fnG_zero {ps : List Str} : FnG P w K mg base 0 f fd ps (fun _ => M.no) := ⟨fun W A outer s H args us vs ds ι L Q _ _ _ _ _ _ _ h => (At.no h).elim⟩

/-! ### the law's own call -/
theorem law_callG {mb : Str → Option Value} {fa a : Addr} {x : Str} {Rl : List LV → M LV} {s₁ : Shared} {vs : List Value} {ns : List Int}
    (KX : K.In s₁.heap) (hns : s₁.heap.Ns mainGlobals mg) (hb : s₁.heap.Ns builtinsNs mb)
    (hbb : ∀ x : Str, x ≠ "__name__" → mb x = bootBuiltins x) (hlim : s₁.heap.NoLimit) (hdig : s₁.heap.NoDigits) (hg : s₁.gens = #[])
    (ha : s₁.heap.get? a = some { cls := .type "list", data := .seq vs.toArray })
    (hi : IntsAre vs ns) (hl : ns.length ≤ sizeLine) (hr : Room (3 * k) callerA)
    (F : ∀ base : Heap, K.In base → base.Ns mainGlobals mg → base.NoDigits → FnG P w K mg base k fa fd [x] Rl)
    (hbind : ∀ (s : Shared) (u : Value), BindsTo s fd ⟨[u], []⟩ [(x, u)])
    (hR : ∃ L', Rl [.ref 0] [.frz ns] = some (.ok (.bl true) L')) :
    codeAny (model P w) callerA (.call (.ref fa) ⟨[.ref a], []⟩)
      (fun r s' => r = .ok (.ret (.bool true)) ∧ OldK s₁.heap s'.heap ∧ s'.os = s₁.os ∧ AllBare s'.gens) s₁ := by
  have rv := vals_ints hi
  have lenV := hi.length
  have core : ∀ H : Hp, Only H → FrzAt K H a (ns.map V.int) → HOk P w H s₁.heap →
      (∀ b, H b ≠ none → b = a) → (H a ≠ none → K.lookup a = none) →
      codeAny (model P w) callerA (.call (.ref fa) ⟨[.ref a], []⟩)
        (fun r s' => r = .ok (.ret (.bool true)) ∧ OldK s₁.heap s'.heap ∧ s'.os = s₁.os ∧ AllBare s'.gens) s₁ := by
    intro H hO hS hok hA hK
    have base_of : ∀ {b : Addr} {o : Obj}, s₁.heap.get? b = some o → H b = none →
        (hidT s₁.heap H).get? b = some o := fun e n => hidT_get e n
    have noA : ∀ {b : Addr} {o : Obj} {es : Array DictEntry} {ep : Nat}, s₁.heap.get? b = some o →
        o.data = .dict es ep → H b = none := by
      intro b o es ep e d
      cases q : H b with
      | none => rfl
      | some u =>
        have e' : b = a := hA b (by simp [q])
        subst e'
        rw [ha] at e
        cases e
        have d' : Data.seq vs.toArray _ = Data.dict es ep := d
        cases d'
    have nsK : ∀ {b : Addr} {m : Str → Option Value}, s₁.heap.Ns b m → (hidT s₁.heap H).Ns b m := by
      rintro b m ⟨o, es, ep, e, d, r⟩
      exact ⟨o, es, ep, base_of e (noA e d), d, r⟩
    have hKb : K.In (hidT s₁.heap H) := by
      intro b o e
      refine base_of (KX b o e) ?_
      cases q : H b with
      | none => rfl
      | some u =>
        have e' : b = a := hA b (by simp [q])
        subst e'
        rw [hK (by simp [q])] at e
        cases e
    have hM : Mod K mg (hidT s₁.heap H) := by
      obtain ⟨mc, h1, h2⟩ := hlim
      exact ⟨hKb, nsK hns, ⟨mb, nsK hb, hbb⟩, ⟨mc, nsK h1, h2⟩⟩
    have e0 : Env0 P w K mg (hidT s₁.heap H) callerA [] s₁ H := by
      refine ⟨rfl, hM, fun b o e => of_hidT e, Nat.le_of_eq (hidT_size _ _), trivial, fun b hb => ?_, hok, .of_eq hg⟩
      exact absurd (show b ∈ ([] : List Addr) from hb) (by simp)
    obtain ⟨L', hR⟩ := hR
    have rep : Rep K (fun _ => a) H [LO.frz ns] := by
      refine ⟨fun j o e => ?_, fun i j x y ei ej mx my _ => ?_⟩
      · cases j with
        | zero => cases e; exact hS
        | succ j => simp at e
      · cases i with
        | zero => cases ei; cases mx
        | succ i => simp at ei
    have st : At K (fun _ _ _ _ _ _ => False) (RVr K) [] [] (fun _ => a) [LO.frz ns] (Rl [.ref 0] [.frz ns]) (fun v _ => v = .bl true) H :=
      ⟨rep, ⟨rfl, fun i d e => by simp at e⟩, _, hR, fun ι' H' v ev rp rv => by cases rv; rfl⟩
    have go := (F _ hKb (nsK hns) (let ⟨mc, h1, h2⟩ := hdig; ⟨mc, nsK h1, h2⟩)).run _ callerA [] s₁ H ⟨[.ref a], []⟩ [.ref a] [.ref a] [.ref 0] (fun _ => a) [.frz ns] (fun v _ => v = .bl true) hr rfl e0 (hbind s₁ (.ref a)) rfl (.cons rfl .nil)
      (.cons (.ref (ι := fun _ => a) 0 (Nat.zero_lt_succ _)) .nil) st
    refine codeAny_mono go fun r s' h => ?_
    cases r with
    | error e => exact False.elim h
    | ok fl =>
      cases fl with
      | ret u =>
        obtain ⟨v, H', os, bare, un, hok', r', q⟩ := h
        have q' : v = .bl true := q
        subst q'
        obtain rfl : u = Value.bool true := r'
        refine ⟨rfl, OldK.of_keep fun b o e => ?_, os, bare⟩
        cases q : H b with
        | none => exact un.keep b o e q (by intro z; exact absurd (show b ∈ ([] : List Addr) from z) (by simp)) (by simp)
        | some u =>
          rcases hO b with z | ⟨ob, xs, z⟩
          · rw [q] at z
            cases z
          · obtain ⟨e1, _⟩ := hok b _ z
            obtain ⟨e2, _⟩ := hok' b _ (un.frzs b ob _ z)
            rw [e] at e1
            cases e1
            exact e2
      | _ => exact False.elim h
  cases hk : K.lookup a with
  | some o =>
    have e := KX a o hk
    rw [ha] at e
    cases e
    refine core (fun _ => none) (fun _ => .inl rfl) (.inr ?_) (fun b u z => ?_) (fun b z => absurd rfl z) fun z => absurd rfl z
    · exact .inr ⟨_, vs.toArray, _, hk, rfl, rfl, rfl, by rw [List.size_toArray, lenV]; exact hl, by simpa using rv⟩
    · have z' : (none : Option HO) = some u := z
      cases z'
  | none =>
    refine core (fun b => if b = a then some (.frz { cls := .type "list", data := .seq vs.toArray } (.lst (ns.map V.int))) else none)
      (fun b => ?_) (.inl ⟨{ cls := .type "list", data := .seq vs.toArray }, if_pos rfl⟩) (fun b u z => ?_) (fun b z => ?_) fun _ => hk
    · by_cases hb : b = a
      · exact .inr ⟨_, _, if_pos hb⟩
      · exact .inl (if_neg hb)
    · by_cases hb : b = a
      · have z' := (if_pos hb).symm.trans z
        cases z'
        subst hb
        exact ⟨ha, by rw [List.length_map]; exact hl, vs, _, rv, ha⟩
      · have z' := (if_neg hb).symm.trans z
        cases z'
    · by_cases hb : b = a
      · exact hb
      · exact absurd (if_neg hb) z
end
/-- the goal that the head leaves, from the term's own law -/
theorem walkG {l : PySem.W.OpenLaw} {n k : Nat} {q : Program} {loose : List Str} {XP : (Str → Option Value) → Heap → Prop} {YP : World → Heap → Prop} {d : DefRec} {K : Params → PySem.W.Frag} {x : Str} {Rl : List LV → M LV}
    (hn : l.most = some n) (hn2 : n ≤ sizeLine) (hdf : d.params.defaults = []) (hr : Room (3 * k) callerA) (hY : ∀ (w : World) (h : Heap), YP w h → (K w.params).In h)
    (F : ∀ (w : World) (mg : Str → Option Value) (fa : Addr) (h : Heap), (K w.params).In h → h.Ns mainGlobals mg → mg d.name = some (.ref fa) →
      ∃ fd : FuncData, (∀ (s : Shared) (u : Value), BindsTo s fd ⟨[u], []⟩ [(x, u)]) ∧
        ∀ base : Heap, (K w.params).In base → base.Ns mainGlobals mg → base.NoDigits → FnG l.prog w (K w.params) mg base k fa fd [x] Rl)
    (hR : ∀ ns : List Int, ns.length ≤ n → ∃ L', Rl [.ref 0] [.frz ns] = some (.ok (.bl true) L')) :
    PySem.W.WalkO q loose XP YP l.row.toRowW d [] (fun f vs => PySem.call f vs) := by
  refine Att.attach_call hn hdf fun w s₀ s₁ mg mb fa o pm cd doc a vs ns G Y ho hd hcd hmg hobj hints hlen hg => ?_
  obtain ⟨fd, hb, hF⟩ := F w mg fa _ (hY w _ Y) G.T.g hmg
  exact law_callG (hY w _ Y) G.T.g G.T.b G.T.builtins G.T.nolimit G.T.nodigits hg hobj hints (Nat.le_trans hlen hn2) hr hF hb (hR ns hlen)
end Mv

/-! Mv13: what a term of the small language gives, step by step (no program's model in sight). -/
namespace Mv
open PySem
/-- it gives something, of which Q holds -/
def wp {α : Type} (m : M α) (L : LH) (Q : α → LH → Prop) : Prop := ∃ a L', m L = some (.ok a L') ∧ Q a L'
section
variable {α β : Type} {L : LH}
theorem wp.imp {m : M α} {Q Q' : α → LH → Prop} (h : wp m L Q) (q : ∀ a L', Q a L' → Q' a L') : wp m L Q' := let ⟨a, L', e, z⟩ := h; ⟨a, L', e, q a L' z⟩
theorem wp_ret {a : α} {Q : α → LH → Prop} : wp (M.ret a) L Q ↔ Q a L := ⟨fun ⟨_, _, e, q⟩ => by cases e; exact q, fun q => ⟨a, L, rfl, q⟩⟩
theorem wp_no {Q : α → LH → Prop} : wp (M.no : M α) L Q ↔ False := ⟨fun ⟨_, _, e, _⟩ => (by cases e), False.elim⟩
theorem wp_bind {m : M α} {f : α → M β} {Q : β → LH → Prop} : wp (M.bind m f) L Q ↔ wp m L fun a L1 => wp (f a) L1 Q := by
  constructor
  · rintro ⟨b, L', e, q⟩
    unfold M.bind at e
    cases h : m L with
    | none => rw [h] at e; cases e
    | some o =>
      rw [h] at e
      cases o with
      | ok a L1 => exact ⟨a, L1, h, b, L', e, q⟩
      | ex c fs L1 => cases e
  · rintro ⟨a, L1, h, b, L', e, q⟩
    refine ⟨b, L', ?_, q⟩
    unfold M.bind
    rw [h]
    exact e
theorem wp_chk {b : Bool} {m : M α} {Q : α → LH → Prop} : wp (M.chk b m) L Q ↔ b = true ∧ wp m L Q := by
  cases b with
  | true => exact ⟨fun h => ⟨rfl, h⟩, fun h => h.2⟩
  | false => exact ⟨fun h => (wp_no.mp h).elim, fun h => by cases h.1⟩
theorem wp_ofO {o : Option α} {f : α → M β} {Q : β → LH → Prop} : wp (M.ofO o f) L Q ↔ ∃ a, o = some a ∧ wp (f a) L Q := by
  cases o with
  | some a => exact ⟨fun h => ⟨a, rfl, h⟩, fun ⟨b, e, h⟩ => by cases e; exact h⟩
  | none => exact ⟨fun h => (wp_no.mp h).elim, fun ⟨b, e, h⟩ => (by cases e)⟩
theorem wp_look {g : LH → Option α} {f : α → M β} {Q : β → LH → Prop} : wp (M.look g f) L Q ↔ ∃ a, g L = some a ∧ wp (f a) L Q := by
  unfold wp M.look
  cases g L with
  | some a => exact ⟨fun h => ⟨a, rfl, h⟩, fun ⟨b, e, h⟩ => by cases e; exact h⟩
  | none => exact ⟨fun ⟨_, _, e, _⟩ => (by cases e), fun ⟨b, e, h⟩ => (by cases e)⟩
theorem wp_new {o : LO} {Q : LV → LH → Prop} : wp (new o) L Q ↔ Q (.ref L.length) (L ++ [o]) := ⟨fun ⟨_, _, e, q⟩ => by cases e; exact q, fun q => ⟨_, _, rfl, q⟩⟩
theorem wp_setO {n : Nat} {o : LO} {Q : Unit → LH → Prop} : wp (setO n o) L Q ↔ Q () (L.set n o) := ⟨fun ⟨_, _, e, q⟩ => by cases e; exact q, fun q => ⟨_, _, rfl, q⟩⟩
/-- the heap is looked at -/
theorem wp_at {f : LH → M α} {Q : α → LH → Prop} : wp (fun L => f L L) L Q ↔ wp (f L) L Q := Iff.rfl
end
/-- which way a test goes -/
def brM {α : Type} (x : LV) (a b : M α) : M α := match x with
  | .bl true => a
  | .bl false => b
  | _ => M.no
theorem wp_br {α : Type} {b : Bool} {m n : M α} {L : LH} {Q : α → LH → Prop} : wp (brM (.bl b) m n) L Q ↔ (b = true → wp m L Q) ∧ (b = false → wp n L Q) := by
  cases b with
  | true => exact ⟨fun h => ⟨fun _ => h, fun z => (by cases z)⟩, fun h => h.1 rfl⟩
  | false => exact ⟨fun h => ⟨fun z => (by cases z), fun _ => h⟩, fun h => h.2 rfl⟩
def seqK (R : Cal) (r : List IS) : Fl × LSt → M (Fl × LSt)
  | (.nx, σ) => evB R r σ
  | (f, σ) => M.ret (f, σ)
def retK : Fl × LSt → M LV
  | (.rt v, _) => M.ret v
  | (.nx, _) => M.ret .non
  | _ => M.no
section
variable {R : Cal} {σ : LSt}
theorem v_var {i : Nat} : evE R (.var i) σ = getV σ i := rfl
theorem v_lit {v : LV} : evE R (.lit v) σ = M.ret v := rfl
theorem v_glo {v : LV} : evE R (.glo v) σ = M.ret v := rfl
theorem v_bin {op : BOp} {a b : IE} : evE R (.bin op a b) σ = M.bind (evE R a σ) fun x => M.bind (evE R b σ) fun y => binV op x y := rfl
def negV : LV → M LV
  | .int i => M.ret (.int (-i))
  | _ => M.no
theorem v_neg {a : IE} : evE R (.neg a) σ = M.bind (evE R a σ) negV := rfl
theorem v_cmp {op : COp} {a b : IE} : evE R (.cmp op a b) σ = M.bind (evE R a σ) fun x => M.bind (evE R b σ) fun y => cmpV op x y := rfl
theorem v_cmp2 {op op' : COp} {a b c : IE} : evE R (.cmp2 op op' a b c) σ = M.bind (evE R a σ) fun x => M.bind (evE R b σ) fun y => M.bind (cmpV op x y) fun r => brM r (M.bind (evE R c σ) fun z => cmpV op' y z) (M.ret (.bl false)) := rfl
theorem v_and {a b : IE} : evE R (.and a b) σ = M.bind (evE R a σ) fun x => brM x (evE R b σ) (M.ret (.bl false)) := rfl
theorem v_or {a b : IE} : evE R (.or a b) σ = M.bind (evE R a σ) fun x => brM x (M.ret (.bl true)) (evE R b σ) := rfl
def notV : LV → M LV
  | .bl b => M.ret (.bl (!b))
  | _ => M.no
theorem v_not {a : IE} : evE R (.not a) σ = M.bind (evE R a σ) notV := rfl
theorem v_ife {c a b : IE} : evE R (.ife c a b) σ = M.bind (evE R c σ) fun x => brM x (evE R a σ) (evE R b σ) := rfl
theorem v_tup {es : IEs} : evE R (.tup es) σ = M.bind (evEs R es σ) fun xs => M.chk (small xs.length) (M.ret (.tup xs)) := rfl
theorem v_lst {es : IEs} : evE R (.lst es) σ = M.bind (evEs R es σ) fun xs => M.chk (small xs.length) (new (.lst xs)) := rfl
theorem v_dct0 : evE R .dct0 σ = new (.dic []) := rfl
def dctE (ks : List L2.Key) (xs : List LV) : LV → M LV
  | .ref n => fun L => dctR n (dmerge [] (ks.zip xs)) L[n]? L
  | _ => M.no
theorem v_dct {ks : List L2.Key} {es : IEs} : evE R (.dct ks es) σ = M.bind (new (.dic [])) fun d => M.bind (evEs R es σ) fun xs => dctE ks xs d := rfl
theorem v_ix {a b : IE} : evE R (.ix a b) σ = M.bind (evE R a σ) fun x => M.bind (evE R b σ) fun y => ixV x y := rfl
theorem v_slc {a : IE} {lo hi : IO} : evE R (.slc a lo hi) σ = M.bind (evE R a σ) fun x => M.bind (evO R lo σ) fun l => M.bind (evO R hi σ) fun h => slV x l h := rfl
theorem v_rev {a : IE} : evE R (.rev a) σ = M.bind (evE R a σ) revV := rfl
theorem v_bi {b : Bi} {es : IEs} : evE R (.bi b es) σ = M.bind (evEs R es σ) fun xs => biV b xs := rfl
theorem v_isi {a : IE} {t : Ty} : evE R (.isi a t) σ = M.bind (evE R a σ) fun x => isiV x t := rfl
theorem v_lset {a : IE} : evE R (.lset a) σ = M.bind (evE R a σ) lsetV := rfl
theorem v_rgl1 {t : Bool} {b : IE} : evE R (.rgl1 t b) σ = M.bind (evE R b σ) (rgl1K t) := rfl
theorem v_rgl2 {t : Bool} {a b : IE} : evE R (.rgl2 t a b) σ = M.bind (evE R a σ) fun x => M.bind (evE R b σ) fun y => rgl2K t x y := rfl
theorem v_inr {x a b : IE} : evE R (.inr x a b) σ = M.bind (evE R x σ) fun u => M.bind (evE R a σ) fun v => M.bind (evE R b σ) fun w => inrV u v w := rfl
theorem v_mth {m : Mth} {o : IE} {es : IEs} : evE R (.mth m o es) σ = M.bind (evE R o σ) fun x => M.look (fun L => lstAt L x) fun _ => M.bind (evEs R es σ) fun xs => mthV m x xs := rfl
theorem v_call {f : Nat} {es ks : IEs} {perm : List Nat} : evE R (.call f es ks perm) σ = M.bind (evEs R es σ) fun xs => M.bind (evEs R ks σ) fun ys => M.ofO (permG (xs ++ ys) perm) fun zs => R f zs := rfl
def turnC (R : Cal) (own : List Nat) (t : IT) (c : IO) (e : IE) (σ : LSt) (x : LV) : M (Option LV) := M.bind (evT R t x (wipeL σ own)) fun σ2 => M.bind (evC R c σ2) fun k =>
        if k then M.bind (evE R e σ2) fun y => M.ret (some y) else M.ret none
def compK (s : Src) (turn : LV → M (Option LV)) : LV → M LV
  | .ref D => compGo s turn D s.len 0
  | _ => M.no
theorem v_comp {own : List Nat} {t : IT} {it : II} {c : IO} {e : IE} : evE R (.comp own t it c e) σ = M.bind (evI R it σ) fun src => M.bind (new (.lst [])) (compK src (turnC R own t c e σ)) := rfl
theorem vs_nil : evEs R .nil σ = M.ret [] := rfl
theorem vs_cons {e : IE} {es : IEs} : evEs R (.cons e es) σ = M.bind (evE R e σ) fun x => M.bind (evEs R es σ) fun xs => M.ret (x :: xs) := rfl
theorem vo_none : evO R .none σ = M.ret none := rfl
def partK : LV → M (Option Int)
  | .int i => M.ret (some i)
  | _ => M.no
theorem vo_some {e : IE} : evO R (.some e) σ = M.bind (evE R e σ) partK := rfl
theorem vc_none : evC R .none σ = M.ret true := rfl
def condK : LV → M Bool
  | .bl b => M.ret b
  | _ => M.no
theorem vc_some {e : IE} : evC R (.some e) σ = M.bind (evE R e σ) condK := rfl
theorem vi_val {e : IE} : evI R (.val e) σ = M.bind (evE R e σ) iterV := rfl
def rng1K : LV → M Src
  | .int j => M.chk (ints62 j) (M.ret (rngV 0 j.toNat))
  | _ => M.no
theorem vi_rng1 {a : IE} : evI R (.rng1 a) σ = M.bind (evE R a σ) rng1K := rfl
def rng2K : LV → LV → M Src
  | .int i, .int j => M.chk (ints62 i && ints62 j) (M.ret (rngV i (j - i).toNat))
  | _, _ => M.no
theorem vi_rng2 {a b : IE} : evI R (.rng2 a b) σ = M.bind (evE R a σ) fun x => M.bind (evE R b σ) fun y => rng2K x y := rfl
def rng3K : LV → LV → LV → M Src
  | .int i, .int j, .int k => M.chk (ints62 i && ints62 j && decide (0 < k ∧ k < 1073741824)) (M.ret (rngC i k ((j - i + (k - 1)) / k).toNat))
  | _, _, _ => M.no
theorem vi_rng3 {a b c : IE} : evI R (.rng3 a b c) σ = M.bind (evE R a σ) fun x => M.bind (evE R b σ) fun y => M.bind (evE R c σ) fun z => rng3K x y z := rfl
theorem vi_zip {a b : IE} : evI R (.zip a b) σ = M.bind (evE R a σ) fun x => M.bind (evE R b σ) fun y => zipK x y := rfl
theorem vi_enm {a : IE} : evI R (.enm a) σ = M.bind (evE R a σ) enmK := rfl
theorem vt_name {i : Nat} {v : LV} : evT R (.name i) v σ = M.chk (decide (i < σ.length)) (M.ret (σ.set i (some v))) := rfl
theorem vt_tup {ts : ITs} {v : LV} : evT R (.tup ts) v σ = M.look (fun L => items L v) fun xs => M.chk (decide (xs.length = ts.len)) (evTs R ts xs σ) := rfl
theorem vt_sub {o i : IE} {v : LV} : evT R (.sub o i) v σ = M.bind (evE R o σ) fun x => M.bind (evE R i σ) fun y => M.bind (setV x y v) fun _ => M.ret σ := rfl
theorem vts_nil : evTs R .nil [] σ = M.ret σ := rfl
theorem vts_cons {t : IT} {ts : ITs} {x : LV} {xs : List LV} : evTs R (.cons t ts) (x :: xs) σ = M.bind (evT R t x σ) fun σ1 => evTs R ts xs σ1 := rfl
theorem x_asg {t : IT} {e : IE} : evS R (.asg t e) σ = M.bind (evE R e σ) fun x => M.bind (evT R t x σ) fun σ1 => M.ret (.nx, σ1) := rfl
theorem x_par {is : List Nat} {es : IEs} : evS R (.par is es) σ = M.bind (evEs R es σ) fun xs => M.ofO (setAll σ is xs) fun σ1 => M.ret (.nx, σ1) := rfl
theorem x_aug {i : Nat} {op : BOp} {e : IE} : evS R (.aug i op e) σ = M.bind (getV σ i) fun x => M.bind (evE R e σ) fun y => M.bind (augV op x y) fun z => M.ret (.nx, σ.set i (some z)) := rfl
theorem x_exp {e : IE} : evS R (.exp e) σ = M.bind (evE R e σ) fun _ => M.ret (.nx, σ) := rfl
theorem x_ret {e : IE} : evS R (.ret e) σ = M.bind (evE R e σ) fun x => M.ret (.rt x, σ) := rfl
theorem x_retN : evS R .retN σ = M.ret (.rt .non, σ) := rfl
theorem x_ifs {c : IE} {a b : List IS} : evS R (.ifs c a b) σ = M.bind (evE R c σ) fun x => brM x (evB R a σ) (evB R b σ) := rfl
theorem x_for {t : IT} {it : II} {b : List IS} : evS R (.for t it b) σ = M.bind (evI R it σ) fun src => forGo src (fun x σ1 => M.bind (evT R t x σ1) fun σ2 => evB R b σ2) src.len 0 σ := rfl
theorem x_whl {c : IE} {b : List IS} : evS R (.whl c b) σ = whlGo (evE R c) (evB R b) fuel σ := rfl
theorem x_brk : evS R .brk σ = M.ret (.bk, σ) := rfl
theorem x_cnt : evS R .cnt σ = M.ret (.ct, σ) := rfl
theorem x_pss : evS R .pss σ = M.ret (.nx, σ) := rfl
theorem b_nil' : evB R [] σ = M.ret (.nx, σ) := rfl
theorem b_cons' {s : IS} {r : List IS} : evB R (s :: r) σ = M.bind (evS R s σ) (seqK R r) := by
  rfl
theorem sq_nx {r : List IS} : seqK R r (.nx, σ) = evB R r σ := rfl
theorem sq_rt {r : List IS} {v : LV} : seqK R r (.rt v, σ) = M.ret (.rt v, σ) := rfl
theorem sq_bk {r : List IS} : seqK R r (.bk, σ) = M.ret (.bk, σ) := rfl
theorem sq_ct {r : List IS} : seqK R r (.ct, σ) = M.ret (.ct, σ) := rfl
theorem call_eq {g : Fn} {vs : List LV} : callFn R g vs = M.chk (decide (vs.length = g.p)) (M.bind (evB R g.body (startL g.n vs)) retK) := by
  rfl
end
/-- what is wanted behind a turn of a for -/
def turnQ (I : LSt → LH → Prop) (Q : Fl × LSt → LH → Prop) : Fl × LSt → LH → Prop
  | (.nx, σ), L => I σ L
  | (.ct, σ), L => I σ L
  | (.bk, σ), L => Q (.nx, σ) L
  | (.rt v, σ), L => Q (.rt v, σ) L
theorem wp_forGo {s : Src} {turn : LV → LSt → M (Fl × LSt)} {Q : Fl × LSt → LH → Prop} (I : Nat → LSt → LH → Prop) (n : Nat)
    (step : ∀ i σ L, i < n → I i σ L → ∃ x, s.at i L = some x ∧ wp (turn x σ) L (turnQ (I (i + 1)) Q)) (fin : ∀ σ L, I n σ L → s.fin L = true ∧ Q (.nx, σ) L) :
    ∀ (m i : Nat) (σ : LSt) (L : LH), m + i = n → I i σ L → wp (forGo s turn m i σ) L Q
  | 0, i, σ, L, e, h => by
    have e : i = n := by omega
    subst e
    obtain ⟨h1, h2⟩ := fin σ L h
    refine ⟨(.nx, σ), L, ?_, h2⟩
    show (if s.fin L then some (Out.ok (Fl.nx, σ) L) else none) = _
    rw [h1]
    rfl
  | m + 1, i, σ, L, e, h => by
    obtain ⟨x, hx, h1⟩ := step i σ L (by omega) h
    have h2 : wp (M.bind (turn x σ) (fun (r : Fl × LSt) => match r with
      | (.nx, σ1) => forGo s turn m (i + 1) σ1
      | (.ct, σ1) => forGo s turn m (i + 1) σ1
      | (.bk, σ1) => M.ret (.nx, σ1)
      | (.rt v, σ1) => M.ret (.rt v, σ1))) L Q := by
      refine wp_bind.mpr (h1.imp fun r L1 q => ?_)
      obtain ⟨f, σ1⟩ := r
      cases f with
      | nx => exact wp_forGo I n step fin m (i + 1) σ1 L1 (by omega) q
      | ct => exact wp_forGo I n step fin m (i + 1) σ1 L1 (by omega) q
      | bk => exact wp_ret.mpr q
      | rt v => exact wp_ret.mpr q
    obtain ⟨a, L', e2, q⟩ := h2
    refine ⟨a, L', ?_, q⟩
    show (match s.at i L with
      | none => none
      | some x => M.bind (turn x σ) (fun (r : Fl × LSt) => match r with
        | (.nx, σ1) => forGo s turn m (i + 1) σ1
        | (.ct, σ1) => forGo s turn m (i + 1) σ1
        | (.bk, σ1) => M.ret (.nx, σ1)
        | (.rt v, σ1) => M.ret (.rt v, σ1)) L) = _
    rw [hx]
    exact e2
theorem wp_for {s : Src} {turn : LV → LSt → M (Fl × LSt)} {Q : Fl × LSt → LH → Prop} {σ : LSt} {L : LH} (I : Nat → LSt → LH → Prop) (h0 : I 0 σ L)
    (step : ∀ i σ L, i < s.len → I i σ L → ∃ x, s.at i L = some x ∧ wp (turn x σ) L (turnQ (I (i + 1)) Q)) (fin : ∀ σ L, I s.len σ L → s.fin L = true ∧ Q (.nx, σ) L) : wp (forGo s turn s.len 0 σ) L Q :=
  wp_forGo I s.len step fin s.len 0 σ L rfl h0
/-- a comprehension: the new list at D holds ys i -/
theorem wp_compGo {s : Src} {turn : LV → M (Option LV)} {Q : LV → LH → Prop} {D : Nat} (I : Nat → List LV → LH → Prop) (n : Nat)
    (step : ∀ i ys L, i < n → L[D]? = some (.lst ys) → I i ys L → ∃ x, s.at i L = some x ∧ wp (turn x) L fun r L' => L'[D]? = some (.lst ys) ∧ match r with
      | none => I (i + 1) ys L'
      | some y => ys.length < sizeLine ∧ I (i + 1) (ys ++ [y]) (L'.set D (.lst (ys ++ [y]))))
    (fin : ∀ ys L, L[D]? = some (.lst ys) → I n ys L → s.fin L = true ∧ Q (.ref D) L) :
    ∀ (m i : Nat) (ys : List LV) (L : LH), m + i = n → L[D]? = some (.lst ys) → I i ys L → wp (compGo s turn D m i) L Q
  | 0, i, ys, L, e, hD, h => by
    have e : i = n := by omega
    subst e
    obtain ⟨h1, h2⟩ := fin ys L hD h
    refine ⟨.ref D, L, ?_, h2⟩
    show (if s.fin L then some (Out.ok (LV.ref D) L) else none) = _
    rw [h1]
    rfl
  | m + 1, i, ys, L, e, hD, h => by
    obtain ⟨x, hx, h1⟩ := step i ys L (by omega) hD h
    have h2 : wp (M.bind (turn x) (fun r => match r with
      | none => compGo s turn D m (i + 1)
      | some y => M.bind (appM D y) fun _ => compGo s turn D m (i + 1))) L Q := by
      refine wp_bind.mpr (h1.imp fun r L1 q => ?_)
      obtain ⟨qD, q⟩ := q
      cases r with
      | none => exact wp_compGo I n step fin m (i + 1) ys L1 (by omega) qD q
      | some y =>
        refine wp_bind.mpr ?_
        have hl : D < L1.length := (List.getElem?_eq_some_iff.mp qD).1
        refine ⟨.non, L1.set D (.lst (ys ++ [y])), ?_, wp_compGo I n step fin m (i + 1) (ys ++ [y]) _ (by omega) (List.getElem?_set_self hl) q.2⟩
        show mthR D .append L1[D]? [y] L1 = _
        rw [qD]
        show M.chk (decide (ys.length < sizeLine)) _ L1 = _
        rw [decide_eq_true q.1]
        rfl
    obtain ⟨a, L', e2, q⟩ := h2
    refine ⟨a, L', ?_, q⟩
    show (match s.at i L with
      | none => none
      | some x => M.bind (turn x) (fun r => match r with
        | none => compGo s turn D m (i + 1)
        | some y => M.bind (appM D y) fun _ => compGo s turn D m (i + 1)) L) = _
    rw [hx]
    exact e2
theorem wp_comp {s : Src} {turn : LV → M (Option LV)} {Q : LV → LH → Prop} {L : LH} (I : Nat → List LV → LH → Prop) (h0 : I 0 [] (L ++ [.lst []]))
    (step : ∀ i ys L', i < s.len → L'[L.length]? = some (.lst ys) → I i ys L' → ∃ x, s.at i L' = some x ∧ wp (turn x) L' fun r L2 => L2[L.length]? = some (.lst ys) ∧ match r with
      | none => I (i + 1) ys L2
      | some y => ys.length < sizeLine ∧ I (i + 1) (ys ++ [y]) (L2.set L.length (.lst (ys ++ [y]))))
    (fin : ∀ ys L', L'[L.length]? = some (.lst ys) → I s.len ys L' → s.fin L' = true ∧ Q (.ref L.length) L') : wp (M.bind (new (.lst [])) (compK s turn)) L Q := by
  refine wp_bind.mpr (wp_new.mpr ?_)
  exact wp_compGo I s.len step fin s.len 0 [] _ rfl (by simp) h0
end Mv
namespace Mv
open PySem
section
variable {R : Cal} {σ : LSt} {L : LH}
theorem gv_0 {v : LV} {l : LSt} : getV (some v :: l) 0 = M.ret v := rfl
theorem gv_S {a : Option LV} {l : LSt} {n : Nat} : getV (a :: l) (n + 1) = getV l n := rfl
theorem wt_0 {a : Option LV} {l : LSt} {v : LV} {Q : LSt → LH → Prop} : wp (evT R (.name 0) v (a :: l)) L Q ↔ Q (some v :: l) L := by
  rw [vt_name, wp_chk, wp_ret]
  exact ⟨fun h => h.2, fun h => ⟨by simp, h⟩⟩
theorem wt_S {a : Option LV} {l : LSt} {v : LV} {n : Nat} {Q : LSt → LH → Prop} : wp (evT R (.name (n + 1)) v (a :: l)) L Q ↔ wp (evT R (.name n) v l) L fun l' L' => Q (a :: l') L' := by
  rw [vt_name, vt_name, wp_chk, wp_chk, wp_ret, wp_ret]
  simp
theorem wp_if {α : Type} {c : Bool} {m n : M α} {Q : α → LH → Prop} : wp (if c = true then m else n) L Q ↔ (c = true → wp m L Q) ∧ (c = false → wp n L Q) := by cases c <;> simp
/-! operators, of ints -/
theorem o_add {i j : Int} : binV .add (.int i) (.int j) = M.ret (.int (i + j)) := rfl
theorem o_sub {i j : Int} : binV .sub (.int i) (.int j) = M.ret (.int (i - j)) := rfl
theorem o_mul {i j : Int} : binV .mul (.int i) (.int j) = M.chk (mulOk i j) (M.ret (.int (i * j))) := rfl
theorem o_fdiv {i j : Int} : binV .fdiv (.int i) (.int j) = M.chk (divOk j) (M.ret (.int (i / j))) := rfl
theorem o_mod {i j : Int} : binV .mod (.int i) (.int j) = M.chk (decide (0 < j)) (M.ret (.int (i % j))) := rfl
theorem o_pow {i j : Int} : binV .pow (.int i) (.int j) = M.chk (decide (0 ≤ j ∧ j ≤ 1000000 ∧ i.natAbs < 2 ^ 64)) (M.ret (.int (i ^ j.toNat))) := rfl
theorem o_addT {a b : List LV} : binV .add (.tup a) (.tup b) = M.chk (small (a.length + b.length)) (M.ret (.tup (a ++ b))) := rfl
theorem o_mulT {xs : List LV} {k : Int} : binV .mul (.tup xs) (.int k) = M.chk (decide (-(2 ^ 63) ≤ k ∧ k < 2 ^ 63) && small (xs.length * k.toNat)) (M.ret (.tup (reps xs k))) := rfl
theorem c_lt {i j : Int} : cmpV .lt (.int i) (.int j) = M.ret (.bl (decide (i < j))) := rfl
theorem c_le {i j : Int} : cmpV .le (.int i) (.int j) = M.ret (.bl (decide (i ≤ j))) := rfl
theorem c_gt {i j : Int} : cmpV .gt (.int i) (.int j) = M.ret (.bl (decide (j < i))) := rfl
theorem c_ge {i j : Int} : cmpV .ge (.int i) (.int j) = M.ret (.bl (decide (j ≤ i))) := rfl
theorem eqV_int {i j : Int} : eqV L (.int i) (.int j) = some (i == j) := rfl
theorem wp_eq_int {i j : Int} {Q : LV → LH → Prop} : wp (cmpV .eq (.int i) (.int j)) L Q ↔ Q (.bl (decide (i = j))) L := by
  show wp (M.look (fun L => eqV L (.int i) (.int j)) fun b => M.ret (.bl b)) L Q ↔ _
  rw [wp_look]
  constructor
  · rintro ⟨b, e, h⟩
    rw [eqV_int] at e
    cases e
    rw [wp_ret] at h
    exact h
  · intro h
    exact ⟨i == j, eqV_int, wp_ret.mpr h⟩
theorem wp_ne_int {i j : Int} {Q : LV → LH → Prop} : wp (cmpV .ne (.int i) (.int j)) L Q ↔ Q (.bl (!decide (i = j))) L := by
  show wp (M.look (fun L => eqV L (.int i) (.int j)) fun b => M.ret (.bl (!b))) L Q ↔ _
  rw [wp_look]
  constructor
  · rintro ⟨b, e, h⟩
    rw [eqV_int] at e
    cases e
    rw [wp_ret] at h
    exact h
  · intro h
    exact ⟨i == j, eqV_int, wp_ret.mpr h⟩
theorem n_bl {b : Bool} : notV (.bl b) = M.ret (.bl (!b)) := rfl
theorem n_int {i : Int} : negV (.int i) = M.ret (.int (-i)) := rfl
theorem bi_int {i : Int} : biV .int [.int i] = M.ret (.int i) := rfl
theorem bi_len {x : LV} : biV .len [x] = M.look (fun L => lenV L x) fun n => M.ret (.int n) := rfl
theorem bi_tuple {x : LV} : biV .tuple [x] = M.look (fun L => items L x) fun ys => M.ret (.tup ys) := rfl
theorem bi_list {x : LV} : biV .list [x] = M.look (fun L => items L x) fun ys => new (.lst ys) := rfl
theorem it_tup {xs : List LV} : iterV (.tup xs) = M.ret (.fixed xs) := rfl
theorem r_tup {xs : List LV} : revV (.tup xs) = M.ret (.tup xs.reverse) := rfl
theorem r_ref {n : Nat} : revV (.ref n) = M.look (fun L => itemsL L (.ref n)) fun xs => new (.lst xs.reverse) := rfl
theorem ix_tup {xs : List LV} {i : Int} : ixV (.tup xs) (.int i) = M.ofO (L2.atI xs i) M.ret := rfl
theorem wp_ix_ref {n : Nat} {k : LV} {Q : LV → LH → Prop} : wp (ixV (.ref n) k) L Q ↔ wp (ixR L[n]? k) L Q := Iff.rfl
theorem ixR_lst {xs : List LV} {i : Int} : ixR (some (.lst xs)) (.int i) = M.ofO (L2.atI xs i) M.ret := rfl
theorem ixR_dic {kvs : List (L2.Key × LV)} {s : Str} : ixR (some (.dic kvs)) (.str s) = M.ofO (dval kvs (.inr s)) M.ret := rfl
theorem wp_set_ref {n : Nat} {k v : LV} {Q : Unit → LH → Prop} : wp (setV (.ref n) k v) L Q ↔ wp (setR n v L[n]? k) L Q := Iff.rfl
theorem setR_dic {n : Nat} {v : LV} {kvs : List (L2.Key × LV)} {s : Str} : setR n v (some (.dic kvs)) (.str s) = M.chk (decide (kvs.length < sizeLine)) (setO n (.dic (dput kvs (.inr s) v))) := rfl
theorem sl_tup {xs : List LV} {lo hi : Option Int} : slV (.tup xs) lo hi = M.ret (.tup (cut xs lo hi)) := rfl
theorem sl_ref {n : Nat} {lo hi : Option Int} : slV (.ref n) lo hi = M.look (fun L => itemsL L (.ref n)) fun xs => new (.lst (cut xs lo hi)) := rfl
theorem pk_int {i : Int} : partK (.int i) = M.ret (some i) := rfl
theorem rg1_int {t : Bool} {j : Int} : rgl1K t (.int j) = rglV t 0 j := rfl
theorem rg2_int {t : Bool} {i j : Int} : rgl2K t (.int i) (.int j) = rglV t i j := rfl
theorem inr_int {i a b : Int} : inrV (.int i) (.int a) (.int b) = M.ret (.bl (decide (a ≤ i ∧ i < b))) := rfl
theorem r2_int {i j : Int} : rng2K (.int i) (.int j) = M.chk (ints62 i && ints62 j) (M.ret (rngV i (j - i).toNat)) := rfl
theorem r3_int {i j k : Int} : rng3K (.int i) (.int j) (.int k) = M.chk (ints62 i && ints62 j && decide (0 < k ∧ k < 1073741824)) (M.ret (rngC i k ((j - i + (k - 1)) / k).toNat)) := rfl
theorem r1_int {j : Int} : rng1K (.int j) = M.chk (ints62 j) (M.ret (rngV 0 j.toNat)) := rfl
theorem ck_bl {b : Bool} : condK (.bl b) = M.ret b := rfl
theorem rk_rt {v : LV} : retK (.rt v, σ) = M.ret v := rfl
theorem rk_nx : retK (.nx, σ) = M.ret .non := rfl
theorem wp_mth {m : Mth} {n : Nat} {xs : List LV} {Q : LV → LH → Prop} : wp (mthV m (.ref n) xs) L Q ↔ wp (mthR n m L[n]? xs) L Q := Iff.rfl
theorem m_append {n : Nat} {ys : List LV} {x : LV} : mthR n .append (some (.lst ys)) [x] = M.chk (decide (ys.length < sizeLine)) (M.bind (setO n (.lst (ys ++ [x]))) fun _ => M.ret .non) := rfl
theorem m_pop {n : Nat} {ys : List LV} : mthR n .pop (some (.lst ys)) [] = M.ofO ys[ys.length - 1]? fun y => M.bind (setO n (.lst ys.dropLast)) fun _ => M.ret y := rfl
theorem m_count {n : Nat} {ys : List LV} {x : LV} : mthR n .count (some (.lst ys)) [x] = M.chk (flat x && ys.all flat) (M.ret (.int ((ys.countP fun y => flatEq y x : Nat) : Int))) := rfl
theorem perm2 {α : Type} {a b : α} : permG [a, b] [0, 1] = some [a, b] := rfl
end
end Mv

/-! Mv18: what the terms of own classes give, step by step. -/
namespace Mv
open PySem
section
variable {R : Cal} {σ : LSt} {L : LH}
theorem v_fld {cs : List Str} {f : Str} {a : IE} : evE R (.fld cs f a) σ = M.bind (evE R a σ) (fldV cs f) := rfl
theorem v_prp {cs : List (Str × Nat)} {f : Str} {a : IE} : evE R (.prp cs f a) σ = M.bind (evE R a σ) fun x => M.look (fun L => clsAt cs f L x) fun g => R g [x] := rfl
theorem v_omt {cs : List (Str × Nat)} {m : Str} {o : IE} {es ks : IEs} {ds : List LV} {perm : List Nat} : evE R (.omt cs m o es ks ds perm) σ = M.bind (evE R o σ) fun x => M.look (fun L => clsAt cs m L x) fun g =>
      M.bind (evEs R es σ) fun xs => M.bind (evEs R ks σ) fun ys => M.ofO (permG (xs ++ ys ++ ds) perm) fun zs => R g (x :: zs) := rfl
theorem v_mk {c : Str} {g : Nat} {es ks : IEs} {ds : List LV} {perm : List Nat} : evE R (.mk c g es ks ds perm) σ = M.bind (evEs R es σ) fun xs => M.bind (evEs R ks σ) fun ys => M.ofO (permG (xs ++ ys ++ ds) perm) fun zs => mkV R c g zs := rfl
theorem v_calD {f : Nat} {es ks : IEs} {ds : List LV} {perm : List Nat} : evE R (.calD f es ks ds perm) σ = M.bind (evEs R es σ) fun xs => M.bind (evEs R ks σ) fun ys => M.ofO (permG (xs ++ ys ++ ds) perm) fun zs => R f zs := rfl
theorem v_obi {op : BOp} {cs : List (Str × Nat)} {a b : IE} : evE R (.obi op cs a b) σ = M.bind (evE R a σ) fun x => M.bind (evE R b σ) fun y => M.look (fun L => opAt cs (opName op) L x y) fun g => R g [x, y] := rfl
theorem v_oeq {ne : Bool} {cs : List (Str × Nat)} {a b : IE} : evE R (.oeq ne cs a b) σ = M.bind (evE R a σ) fun x => M.bind (evE R b σ) fun y => M.look (fun L => eqAt cs L x y) fun g => M.bind (R g [x, y]) (eqK ne) := rfl
theorem v_ost {cs : List (Str × Nat)} {a : IE} : evE R (.ost cs a) σ = M.bind (evE R a σ) (ostK R cs) := rfl
theorem v_oln {cs : List (Str × Nat)} {a : IE} : evE R (.oln cs a) σ = M.bind (evE R a σ) (olnK R cs) := rfl
theorem v_iso {cs : List (Str × Bool)} {c : Str} {a : IE} : evE R (.iso cs c a) σ = M.bind (evE R a σ) fun x => M.look (fun L => isoAt cs L x) fun b => M.ret (.bl b) := rfl
theorem v_fst {es : IEs} : evE R (.fst es) σ = M.bind (evFs R es σ Str.empty) fun s => M.ret (.str s) := rfl
theorem vf_nil {acc : Str} : evFs R .nil σ acc = M.ret acc := rfl
theorem vf_cons {e : IE} {es : IEs} {acc : Str} : evFs R (.cons e es) σ acc = M.bind (evE R e σ) fun x => M.bind (fmtV x) fun y => M.chk (small (acc ++ y).length) (evFs R es σ (acc ++ y)) := rfl
theorem vt_fld {cs : List Str} {f : Str} {o : IE} {v : LV} : evT R (.fld cs f o) v σ = M.bind (evE R o σ) fun x => M.bind (fsetV cs f x v) fun _ => M.ret σ := rfl
theorem wp_fld {cs : List Str} {f : Str} {n : Nat} {Q : LV → LH → Prop} : wp (fldV cs f (.ref n)) L Q ↔ wp (fldR cs f L[n]?) L Q := Iff.rfl
theorem fldR_ins {cs : List Str} {f c : Str} {fs : List (Str × LV)} : fldR cs f (some (.ins c fs)) = M.chk (cs.contains c) (M.ofO (fs.lookup f) M.ret) := rfl
theorem wp_fset {cs : List Str} {f : Str} {n : Nat} {v : LV} {Q : Unit → LH → Prop} : wp (fsetV cs f (.ref n) v) L Q ↔ wp (fsetR cs f n v L[n]?) L Q := Iff.rfl
theorem fsetR_ins {cs : List Str} {f c : Str} {n : Nat} {v : LV} {fs : List (Str × LV)} : fsetR cs f n v (some (.ins c fs)) = M.chk (cs.contains c && decide (fs.length < 1000)) (setO n (.ins c (fput f v fs))) := rfl
theorem fmt_str {s : Str} : fmtV (.str s) = M.chk (small s.length) (M.ret s) := rfl
theorem fmt_int {i : Int} : fmtV (.int i) = M.chk (decide (i.natAbs < digLim)) (M.ret (toString i : Str)) := rfl
theorem eq_bl {ne k : Bool} : eqK ne (.bl k) = M.ret (.bl (if ne then !k else k)) := rfl
theorem bi_strB {i : Int} : biV .strB [.int i] = M.chk (decide (i.natAbs < digLim)) (M.ret (.str (toString i))) := rfl
theorem bi_reprB {x : LV} : biV .reprB [x] = M.look (fun L => toR L x) fun d => M.chk (showB d && small d.shown.length && decide (d.depth ≤ 64)) (M.ret (.str d.shown)) := rfl
/-- a new instance -/
theorem wp_mk {c : Str} {g : Nat} {zs : List LV} {Q : LV → LH → Prop} (h : wp (R g (.ref L.length :: zs)) (L ++ [.ins c []]) fun r L1 => r = .non ∧ Q (.ref L.length) L1) : wp (mkV R c g zs) L Q := by
  show wp (M.bind (new (.ins c [])) fun x => M.bind (R g (x :: zs)) fun r => match r with
    | .non => M.ret x
    | _ => M.no) L Q
  rw [wp_bind, wp_new, wp_bind]
  refine h.imp fun r L1 ⟨e, q⟩ => ?_
  subst e
  exact wp_ret.mpr q
theorem cls_ins {α : Type} {cs : List (Str × α)} {m : Str} {n : Nat} {c : Str} {fs : List (Str × LV)} (e : L[n]? = some (.ins c fs)) (hm : fs.lookup m = none) : clsAt cs m L (.ref n) = cs.lookup c := by
  unfold clsAt
  dsimp only
  rw [e]
  dsimp only
  rw [hm]
  rfl
theorem nm_ins {n : Nat} {c : Str} {fs : List (Str × LV)} (e : L[n]? = some (.ins c fs)) : clsNm L (.ref n) = some c := by
  unfold clsNm
  dsimp only
  rw [e]
theorem op_ins {cs : List (Str × Nat)} {m : Str} {n k : Nat} {c : Str} {fs gs : List (Str × LV)} (e : L[n]? = some (.ins c fs)) (e' : L[k]? = some (.ins c gs)) (hm : fs.lookup m = none) : opAt cs m L (.ref n) (.ref k) = cs.lookup c := by
  unfold opAt
  rw [nm_ins e, nm_ins e', if_pos rfl, cls_ins e hm]
theorem eq_ins {cs : List (Str × Nat)} {n : Nat} {y : LV} {c : Str} {fs : List (Str × LV)} (e : L[n]? = some (.ins c fs)) (hy : yOk L (.ref n) y = true) (hm : fs.lookup ("__eq__" : Str) = none) : eqAt cs L (.ref n) y = cs.lookup c := by
  unfold eqAt
  rw [hy, if_pos rfl, cls_ins e hm]
end
end Mv

namespace K15
open PySem Mv
/-! the text by terms of the small language (printed by a program of mine from the linked text) -/
def n_greatest_divisor : List Str := ["one", "other", "here", "rest"]
def f_greatest_divisor : Fn := ⟨4, 2, [.par [2, 3] (.cons (.var 0) (.cons (.var 1) .nil)), .whl (.cmp .ne (.var 3) (.lit (.int 0))) [.par [2, 3] (.cons (.var 3) (.cons (.bin .mod (.var 2) (.var 3)) .nil))], .ret (.var 2)]⟩
def n_Flow___init__ : List Str := ["self", "top", "bottom", "common"]
def f_Flow___init__ : Fn := ⟨4, 3, [.asg (.name 3) (.call 0 (.cons (.var 1) (.cons (.var 2) .nil)) .nil [0, 1]), .asg (.fld ["Flow"] "top" (.var 0)) (.bin .fdiv (.var 1) (.var 3)), .asg (.fld ["Flow"] "bottom" (.var 0)) (.bin .fdiv (.var 2) (.var 3))]⟩
def n_Flow___mul__ : List Str := ["self", "other"]
def f_Flow___mul__ : Fn := ⟨2, 2, [.ret (.mk "Flow" 1 (.cons (.bin .mul (.fld ["Flow"] "top" (.var 0)) (.fld ["Flow"] "top" (.var 1))) (.cons (.bin .mul (.fld ["Flow"] "bottom" (.var 0)) (.fld ["Flow"] "bottom" (.var 1))) .nil)) .nil [(.int 1)] [0, 1])]⟩
def n_Flow___eq__ : List Str := ["self", "other"]
def f_Flow___eq__ : Fn := ⟨2, 2, [.ret (.and (.iso [("Flow", true)] "Flow" (.var 1)) (.and (.cmp .eq (.fld ["Flow"] "top" (.var 0)) (.fld ["Flow"] "top" (.var 1))) (.cmp .eq (.fld ["Flow"] "bottom" (.var 0)) (.fld ["Flow"] "bottom" (.var 1)))))]⟩
def n_Flow___str__ : List Str := ["self"]
def f_Flow___str__ : Fn := ⟨1, 1, [.ifs (.cmp .eq (.fld ["Flow"] "bottom" (.var 0)) (.lit (.int 1))) [.ret (.bi .str (.cons (.fld ["Flow"] "top" (.var 0)) .nil))] [], .ret (.fst (.cons (.fld ["Flow"] "top" (.var 0)) (.cons (.lit (.str "/")) (.cons (.fld ["Flow"] "bottom" (.var 0)) .nil))))]⟩
def n_Flow_is_below : List Str := ["self", "other"]
def f_Flow_is_below : Fn := ⟨2, 2, [.ret (.cmp .lt (.bin .mul (.fld ["Flow"] "top" (.var 0)) (.fld ["Flow"] "bottom" (.var 1))) (.bin .mul (.fld ["Flow"] "top" (.var 1)) (.fld ["Flow"] "bottom" (.var 0))))]⟩
def n_Flow_up : List Str := ["self"]
def f_Flow_up : Fn := ⟨1, 1, [.ret (.neg (.bin .fdiv (.neg (.fld ["Flow"] "top" (.var 0))) (.fld ["Flow"] "bottom" (.var 0))))]⟩
def n_l_deck : List Str := ["_law_script", "_law_mixed", "_law_cell"]
def f_l_deck : Fn := ⟨3, 1, [.asg (.name 1) (.lit (.int 990150)), .for (.name 2) (.val (.slc (.var 0) .none (.some (.lit (.int 63))))) [.asg (.name 1) (.bin .mod (.bi .int (.cons (.bin .add (.bin .add (.bin .mul (.var 1) (.lit (.int 48271))) (.bin .mod (.bi .int (.cons (.var 2) .nil)) (.lit (.int 2147483629)))) (.lit (.int 47))) .nil)) (.lit (.int 2147483587)))], .ret (.dct [.inr "great", .inr "mixed"] (.cons (.rev (.comp [2] (.name 2) (.val (.slc (.var 0) .none (.some (.lit (.int 63))))) (.some (.cmp .ge (.var 2) (.bin .pow (.lit (.int 10)) (.lit (.int 18))))) (.var 2))) (.cons (.var 1) .nil)))]⟩
def n_l_draw : List Str := ["_law_deck_here", "_law_many", "_law_cell"]
def f_l_draw : Fn := ⟨3, 2, [.ifs (.cmp .ne (.ix (.var 0) (.lit (.str "great"))) (.lst .nil)) [.asg (.name 2) (.bi .int (.cons (.mth .pop (.ix (.var 0) (.lit (.str "great"))) .nil) .nil)), .ifs (.cmp .ge (.var 2) (.var 1)) [.exp (.mth .append (.ix (.var 0) (.lit (.str "great"))) (.cons (.bin .fdiv (.var 2) (.var 1)) .nil))] [], .ret (.bin .mod (.var 2) (.var 1))] [], .asg (.sub (.var 0) (.lit (.str "mixed"))) (.bin .mod (.bi .int (.cons (.bin .add (.bin .mul (.bi .int (.cons (.ix (.var 0) (.lit (.str "mixed"))) .nil)) (.lit (.int 69621))) (.lit (.int 31))) .nil)) (.lit (.int 2147483587))), .ret (.bin .mod (.bin .fdiv (.bi .int (.cons (.ix (.var 0) (.lit (.str "mixed"))) .nil)) (.lit (.int 128))) (.var 1))]⟩
def n_l_near : List Str := ["_law_deck_here", "_law_a", "_law_b", "_law_many"]
def f_l_near : Fn := ⟨4, 3, [.asg (.name 3) (.ix (.lst (.cons (.lit (.int 1)) (.cons (.lit (.int 2)) (.cons (.lit (.int 10)) (.cons (.lit (.int 1000)) (.cons (.bin .pow (.lit (.int 10)) (.lit (.int 9))) .nil)))))) (.call 8 (.cons (.var 0) (.cons (.lit (.int 5)) .nil)) .nil [0, 1])), .ret (.tup (.cons (.bin .add (.bin .mul (.var 1) (.var 3)) (.call 8 (.cons (.var 0) (.cons (.lit (.int 3)) .nil)) .nil [0, 1])) (.cons (.bin .add (.bin .mul (.var 2) (.var 3)) (.call 8 (.cons (.var 0) (.cons (.lit (.int 3)) .nil)) .nil [0, 1])) .nil)))]⟩
def n_l_fraction : List Str := ["_law_deck_here", "_law_ahead", "_law_kind", "_law_a", "_law_b", "_law_many"]
def f_l_fraction : Fn := ⟨6, 2, [.asg (.name 2) (.call 8 (.cons (.var 0) (.cons (.lit (.int 6)) .nil)) .nil [0, 1]), .ifs (.and (.cmp .lt (.var 2) (.lit (.int 2))) (.cmp .ne (.var 1) (.lst .nil))) [.asg (.tup (.cons (.name 3) (.cons (.name 4) .nil))) (.ix (.var 1) (.call 8 (.cons (.var 0) (.cons (.bi .len (.cons (.var 1) .nil)) .nil)) .nil [0, 1])), .ret (.call 9 (.cons (.var 0) (.cons (.var 3) (.cons (.var 4) .nil))) .nil [0, 1, 2])] [], .ifs (.cmp .eq (.var 2) (.lit (.int 2))) [.ret (.call 9 (.cons (.var 0) (.cons (.bin .add (.lit (.int 1)) (.call 8 (.cons (.var 0) (.cons (.lit (.int 12)) .nil)) .nil [0, 1])) (.cons (.lit (.int 1)) .nil))) .nil [0, 1, 2])] [], .ifs (.cmp .eq (.var 2) (.lit (.int 3))) [.asg (.name 5) (.bin .add (.bin .pow (.lit (.int 10)) (.lit (.int 18))) (.call 8 (.cons (.var 0) (.cons (.bin .pow (.lit (.int 10)) (.lit (.int 12))) .nil)) .nil [0, 1])), .ret (.tup (.cons (.bin .mul (.var 5) (.bin .add (.lit (.int 1)) (.call 8 (.cons (.var 0) (.cons (.bin .pow (.lit (.int 10)) (.lit (.int 9))) .nil)) .nil [0, 1]))) (.cons (.bin .mul (.var 5) (.bin .add (.lit (.int 1)) (.call 8 (.cons (.var 0) (.cons (.bin .pow (.lit (.int 10)) (.lit (.int 9))) .nil)) .nil [0, 1]))) .nil)))] [], .ifs (.cmp .eq (.var 2) (.lit (.int 4))) [.ret (.tup (.cons (.lit (.int 1)) (.cons (.bin .add (.lit (.int 1)) (.call 8 (.cons (.var 0) (.cons (.lit (.int 40)) .nil)) .nil [0, 1])) .nil)))] [], .ret (.tup (.cons (.bin .add (.lit (.int 1)) (.call 8 (.cons (.var 0) (.cons (.lit (.int 40)) .nil)) .nil [0, 1])) (.cons (.bin .add (.lit (.int 1)) (.call 8 (.cons (.var 0) (.cons (.lit (.int 40)) .nil)) .nil [0, 1])) .nil)))]⟩
def n_l_up : List Str := ["_law_a", "_law_b", "_law_found"]
def f_l_up : Fn := ⟨3, 2, [.asg (.name 2) (.bin .fdiv (.var 0) (.var 1)), .whl (.cmp .lt (.bin .mul (.var 2) (.var 1)) (.var 0)) [.asg (.name 2) (.bin .add (.var 2) (.lit (.int 1)))], .ret (.var 2)]⟩
def n_law : List Str := ["_law_script", "_law_deck_here", "_law_k", "_law_pairs", "_law_again", "_law_made", "_law_x", "_law_a", "_law_b", "_law_due", "_law_y", "_law_c", "_law_d", "_law_told"]
def f_law : Fn := ⟨14, 1, [.asg (.name 1) (.call 7 (.cons (.var 0) .nil) .nil [0]), .for (.name 2) (.rng1 (.lit (.int 6))) [.asg (.name 3) (.lst .nil), .for (.name 4) (.rng1 (.bin .add (.lit (.int 2)) (.call 8 (.cons (.var 1) (.cons (.lit (.int 8)) .nil)) .nil [0, 1]))) [.exp (.mth .append (.var 3) (.cons (.call 10 (.cons (.var 1) (.cons (.var 3) .nil)) .nil [0, 1]) .nil))], .asg (.name 5) (.comp [7, 8] (.tup (.cons (.name 7) (.cons (.name 8) .nil))) (.val (.var 3)) .none (.mk "Flow" 1 (.cons (.var 7) (.cons (.var 8) .nil)) .nil [(.int 1)] [0, 1])), .for (.tup (.cons (.name 6) (.cons (.tup (.cons (.name 7) (.cons (.name 8) .nil))) .nil))) (.enm (.var 3)) [.asg (.name 9) (.call 11 (.cons (.var 7) (.cons (.var 8) .nil)) .nil [0, 1]), .ifs (.or (.cmp .ne (.bi .repr (.cons (.lst (.cons (.omt [("Flow", 6)] "up" (.ix (.var 5) (.var 6)) .nil .nil [] []) (.cons (.omt [("Flow", 6)] "up" (.ix (.var 5) (.var 6)) .nil .nil [] []) .nil))) .nil)) (.bi .repr (.cons (.lst (.cons (.var 9) (.cons (.var 9) .nil))) .nil))) (.cmp .lt (.var 9) (.lit (.int 1)))) [.ret (.lit (.bl false))] [], .for (.tup (.cons (.name 10) (.cons (.tup (.cons (.name 11) (.cons (.name 12) .nil))) .nil))) (.enm (.var 3)) [.asg (.name 13) (.lst (.cons (.omt [("Flow", 5)] "is_below" (.ix (.var 5) (.var 6)) (.cons (.ix (.var 5) (.var 10)) .nil) .nil [] [0]) (.cons (.omt [("Flow", 5)] "is_below" (.ix (.var 5) (.var 6)) .nil (.cons (.ix (.var 5) (.var 10)) .nil) [] [0]) (.cons (.omt [("Flow", 5)] "is_below" (.ix (.var 5) (.var 6)) (.cons (.ix (.var 5) (.var 10)) .nil) .nil [] [0]) .nil)))), .ifs (.cmp .ne (.bi .repr (.cons (.var 13) .nil)) (.bi .repr (.cons (.bin .mul (.lst (.cons (.cmp .lt (.bin .mul (.var 7) (.var 12)) (.bin .mul (.var 11) (.var 8))) .nil)) (.lit (.int 3))) .nil))) [.ret (.lit (.bl false))] [], .ifs (.cmp .ne (.mth .count (.lst (.cons (.omt [("Flow", 5)] "is_below" (.ix (.var 5) (.var 6)) (.cons (.ix (.var 5) (.var 10)) .nil) .nil [] [0]) (.cons (.omt [("Flow", 5)] "is_below" (.ix (.var 5) (.var 10)) (.cons (.ix (.var 5) (.var 6)) .nil) .nil [] [0]) (.cons (.oeq false [("Flow", 3)] (.ix (.var 5) (.var 6)) (.ix (.var 5) (.var 10))) .nil)))) (.cons (.lit (.bl true)) .nil)) (.lit (.int 1))) [.ret (.lit (.bl false))] []]], .ifs (.cmp .ne (.comp [6, 7, 8] (.tup (.cons (.name 6) (.cons (.tup (.cons (.name 7) (.cons (.name 8) .nil))) .nil))) (.enm (.var 3)) .none (.cmp .eq (.bin .mul (.fld ["Flow"] "top" (.ix (.var 5) (.var 6))) (.var 8)) (.bin .mul (.fld ["Flow"] "bottom" (.ix (.var 5) (.var 6))) (.var 7)))) (.bin .mul (.lst (.cons (.lit (.bl true)) .nil)) (.bi .len (.cons (.var 3) .nil)))) [.ret (.lit (.bl false))] []], .ret (.lit (.bl true))]⟩
def prog : List Fn := [f_greatest_divisor, f_Flow___init__, f_Flow___mul__, f_Flow___eq__, f_Flow___str__, f_Flow_is_below, f_Flow_up, f_l_deck, f_l_draw, f_l_near, f_l_fraction, f_l_up, f_law]

end K15
/-! Mv14: more for plain laws. -/
namespace Mv
open PySem
def iv (xs : List Int) : List LV := xs.map .int
theorem iv_len (xs : List Int) : (iv xs).length = xs.length := by simp [iv]
theorem iv_get {xs : List Int} {i : Nat} (h : i < xs.length) : (iv xs)[i]? = some (.int xs[i]) := by simp [iv, h]
theorem mulOk_r {i j : Int} (h : -(2 ^ 64) < j ∧ j < 2 ^ 64) : mulOk i j = true := decide_eq_true (.inr (.inl h))
theorem mulOk_l {i j : Int} (h : -(2 ^ 64) < i ∧ i < 2 ^ 64) : mulOk i j = true := decide_eq_true (.inl h)
theorem take_succ' {α : Type} {xs : List α} {i : Nat} (h : i < xs.length) : xs.take (i + 1) = xs.take i ++ [xs[i]] := by
  rw [List.take_succ, List.getElem?_eq_getElem h]
  rfl
def Grow (L L' : LH) : Prop := ∃ E, L' = L ++ E
theorem Grow.refl (L : LH) : Grow L L := ⟨[], by simp⟩
theorem Grow.trans {L L' L2 : LH} (a : Grow L L') (b : Grow L' L2) : Grow L L2 := by
  obtain ⟨E, rfl⟩ := a
  obtain ⟨F, rfl⟩ := b
  exact ⟨E ++ F, by simp⟩
theorem divOk_of {j : Int} (h : 0 < j ∧ j < 1000) : divOk j = true := by
  have e : j.natAbs.log2 ≤ j.natAbs := Nat.log2_le_self _
  exact decide_eq_true ⟨h.1, by omega⟩
theorem b_app (R : Cal) (b : List IS) : ∀ (a : List IS) (σ : LSt), evB R (a ++ b) σ = M.bind (evB R a σ) (seqK R b)
  | [], σ => rfl
  | s :: a, σ => by
    rw [List.cons_append, b_cons', b_cons', M.bind_bind]
    congr 1
    funext x
    obtain ⟨f, σ1⟩ := x
    cases f with
    | nx => exact b_app R b a σ1
    | _ => rfl
theorem toD_iv (L : LH) (n : Nat) : ∀ xs : List Int, optAll (toD L (n + 1)) (iv xs) = some (xs.map .int)
  | [] => rfl
  | x :: xs => by
    have ih := toD_iv L n xs
    have e : toD L (n + 1) (.int x) = some (.int x) := rfl
    show optAll (toD L (n + 1)) (.int x :: iv xs) = _
    unfold optAll
    rw [ih, e]
    rfl
theorem toD_lst {L : LH} {h : Nat} {xs : List Int} (n : Nat) (e : L[h]? = some (.lst (iv xs))) : toD L (n + 2) (.ref h) = some (.list (xs.map .int)) := by
  unfold toD
  simp only [e]
  rw [toD_iv]
  rfl
theorem toD_tup {L : LH} {xs : List Int} (n : Nat) : toD L (n + 2) (.tup (iv xs)) = some (.tuple (xs.map .int)) := by
  unfold toD
  dsimp only
  rw [toD_iv]
  rfl
theorem lay_ints : ∀ xs : List Int, PyData.canLayAll0 (xs.map .int) = true
  | [] => by simp [PyData.canLayAll0]
  | x :: xs => by simp [PyData.canLayAll0, PyData.canLay0, lay_ints xs]
theorem depth_ints : ∀ xs : List Int, PyData.depthAll (xs.map .int) = 0
  | [] => by simp [PyData.depthAll]
  | x :: xs => by simp [PyData.depthAll, PyData.depth, depth_ints xs]
theorem shaped_lst (xs : List Int) : SeqAt.shaped (.list (xs.map .int)) = true := by simp [SeqAt.shaped, PyData.canLay0, lay_ints, PyData.depth, depth_ints]
theorem shaped_tup (xs : List Int) : SeqAt.shaped (.tuple (xs.map .int)) = true := by simp [SeqAt.shaped, PyData.canLay0, lay_ints, PyData.depth, depth_ints]
theorem eqvAll_ints : ∀ xs ys : List Int, PyData.eqvAll (xs.map .int) (ys.map .int) = decide (xs = ys)
  | [], [] => by simp [PyData.eqvAll]
  | [], _ :: _ => by simp [PyData.eqvAll]
  | _ :: _, [] => by simp [PyData.eqvAll]
  | x :: xs, y :: ys => by
    simp only [List.map_cons, PyData.eqvAll, eqvAll_ints xs ys, PyData.eqv]
    by_cases h : x = y <;> by_cases h2 : xs = ys <;> simp [h, h2]
theorem wp_eq {op : COp} {x y : LV} {L : LH} {b : Bool} {Q : LV → LH → Prop} (e : Mv.eqV L x y = some b) (ho : op = .eq) (h : Q (.bl b) L) : wp (cmpV op x y) L Q := by
  subst ho
  exact wp_look.mpr ⟨b, e, wp_ret.mpr h⟩
theorem wp_ne {op : COp} {x y : LV} {L : LH} {b : Bool} {Q : LV → LH → Prop} (e : Mv.eqV L x y = some b) (ho : op = .ne) (h : Q (.bl (!b)) L) : wp (cmpV op x y) L Q := by
  subst ho
  exact wp_look.mpr ⟨b, e, wp_ret.mpr h⟩
theorem emp_lst {L : LH} {a b : Nat} {xs ys : List LV} (e1 : L[a]? = some (.lst xs)) (e2 : L[b]? = some (.lst ys)) : empPair L (.ref a) (.ref b) = if ys = [] then some xs.isEmpty else none := by
  unfold empPair
  simp only [e1, e2]
  cases ys <;> rfl
theorem emp_tup {L : LH} {xs ys : List LV} : empPair L (.tup xs) (.tup ys) = if ys = [] then some xs.isEmpty else none := by
  unfold empPair
  cases ys <;> rfl
/-- beside an empty list -/
theorem eq_lst0 {L : LH} {a b : Nat} {xs : List LV} (e1 : L[a]? = some (.lst xs)) (e2 : L[b]? = some (.lst [])) : Mv.eqV L (.ref a) (.ref b) = some xs.isEmpty := by
  show (match empPair L (.ref a) (.ref b) with
    | some b => some b
    | none => eqVd L (.ref a) (.ref b)) = _
  rw [emp_lst e1 e2, if_pos rfl]
theorem eq_tup0 {L : LH} {xs : List LV} : Mv.eqV L (.tup xs) (.tup []) = some xs.isEmpty := rfl
theorem eq_lst {L : LH} {a b : Nat} {xs ys : List Int} (e1 : L[a]? = some (.lst (iv xs))) (e2 : L[b]? = some (.lst (iv ys))) : Mv.eqV L (.ref a) (.ref b) = some (decide (xs = ys)) := by
  show (match empPair L (.ref a) (.ref b) with
    | some b => some b
    | none => eqVd L (.ref a) (.ref b)) = _
  rw [emp_lst e1 e2]
  cases ys with
  | nil => cases xs <;> simp [iv]
  | cons y ys =>
  rw [if_neg (by simp [iv])]
  dsimp only
  unfold eqVd
  rw [toD_lst 64 e1, toD_lst 64 e2]
  simp only [shaped_lst, PyData.eqv, eqvAll_ints, Bool.and_self, if_true]
theorem eq_tup {L : LH} {xs ys : List Int} : Mv.eqV L (.tup (iv xs)) (.tup (iv ys)) = some (decide (xs = ys)) := by
  show (match empPair L (.tup (iv xs)) (.tup (iv ys)) with
    | some b => some b
    | none => eqVd L (.tup (iv xs)) (.tup (iv ys))) = _
  rw [emp_tup]
  cases ys with
  | nil => cases xs <;> simp [iv]
  | cons y ys =>
  rw [if_neg (by simp [iv])]
  dsimp only
  unfold eqVd
  rw [toD_tup 64, toD_tup 64]
  simp only [shaped_tup, PyData.eqv, eqvAll_ints, Bool.and_self, if_true]
structure Fr (d h : Nat) (L L' : LH) : Prop where
  le : L.length ≤ L'.length
  at_ : ∀ i, i < L.length → i ≠ d → i ≠ h → L'[i]? = L[i]?
theorem Fr.trans {d h : Nat} {L L1 L2 : LH} (a : Fr d h L L1) (b : Fr d h L1 L2) : Fr d h L L2 :=
  ⟨Nat.le_trans a.le b.le, fun i hi h1 h2 => (b.at_ i (Nat.lt_of_lt_of_le hi a.le) h1 h2).trans (a.at_ i hi h1 h2)⟩
theorem Fr.refl {d h : Nat} {L : LH} : Fr d h L L := ⟨Nat.le_refl _, fun _ _ _ _ => rfl⟩
theorem Fr.grow {d h : Nat} {L L' : LH} (g : Grow L L') : Fr d h L L' := by
  obtain ⟨E, rfl⟩ := g
  exact ⟨by simp, fun i hi _ _ => by rw [List.getElem?_append_left hi]⟩
theorem Fr.setD {d h : Nat} {L : LH} {o : LO} : Fr d h L (L.set d o) := ⟨by simp, fun i _ h1 _ => by rw [List.getElem?_set_ne (Ne.symm h1)]⟩
theorem Fr.setH {d h : Nat} {L : LH} {o : LO} : Fr d h L (L.set h o) := ⟨by simp, fun i _ _ h2 => by rw [List.getElem?_set_ne (Ne.symm h2)]⟩
theorem lt_of {L : LH} {i : Nat} {o : LO} (h : L[i]? = some o) : i < L.length := (List.getElem?_eq_some_iff.mp h).1
theorem pm0 {a : LV} : permG ([a] ++ []) [0] = some [a] := rfl
theorem pm01 {a b : LV} : permG ([a, b] ++ []) [0, 1] = some [a, b] := rfl
theorem pm012 {a b c : LV} : permG ([a, b, c] ++ []) [0, 1, 2] = some [a, b, c] := rfl
theorem pm10 {a b : LV} : permG ([] ++ [a, b]) [1, 0] = some [b, a] := rfl
theorem pm210 {a b c : LV} : permG ([] ++ [a, b, c]) [2, 1, 0] = some [c, b, a] := rfl
theorem dct_ref {ks : List L2.Key} {xs : List LV} {n : Nat} {L : LH} {Q : LV → LH → Prop} (e : L[n]? = some (.dic [])) (q : Q (.ref n) (L.set n (.dic (dmerge [] (ks.zip xs))))) : wp (dctE ks xs (.ref n)) L Q := by
  show wp (fun L => dctR n (dmerge [] (ks.zip xs)) L[n]? L) L Q
  rw [wp_at, e]
  show wp (M.bind (setO n (.dic (dmerge [] (ks.zip xs)))) fun _ => M.ret (.ref n)) L Q
  rw [wp_bind, wp_setO, wp_ret]
  exact q
theorem it_ref {n : Nat} {xs : List LV} {L : LH} {Q : Src → LH → Prop} (e : L[n]? = some (.lst xs)) (q : Q (.live n xs.length) L) : wp (iterV (.ref n)) L Q := by
  show wp (fun L => iterR n L[n]? L) L Q
  rw [wp_at, e]
  exact wp_ret.mpr q
theorem len_lst {L : LH} {n : Nat} {xs : List LV} (e : L[n]? = some (.lst xs)) : lenV L (.ref n) = some xs.length := by
  unfold lenV
  simp only [e]
theorem wp_mulR {n : Nat} {xs : List LV} {c : Int} {L : LH} {Q : LV → LH → Prop} (e : L[n]? = some (.lst xs)) (hc : 0 ≤ c ∧ c < 1000) (hx : xs.length < 1000) (q : Q (.ref L.length) (L ++ [.lst (reps xs c)])) : wp (binV .mul (.ref n) (.int c)) L Q := by
  show wp (fun L => repR c L[n]? L) L Q
  rw [wp_at, e]
  refine wp_chk.mpr ⟨?_, wp_new.mpr q⟩
  rw [Bool.and_eq_true]
  refine ⟨decide_eq_true (by omega), decide_eq_true ?_⟩
  have h1 : xs.length * c.toNat ≤ 1000 * 1000 := Nat.mul_le_mul (by omega) (by omega)
  exact Nat.le_trans h1 (by decide)
theorem wp_catR {n m : Nat} {xs ys : List LV} {L : LH} {Q : LV → LH → Prop} (e : L[n]? = some (.lst xs)) (e2 : L[m]? = some (.lst ys)) (hx : xs.length < 10000 ∧ ys.length < 10000) (q : Q (.ref L.length) (L ++ [.lst (xs ++ ys)])) : wp (binV .add (.ref n) (.ref m)) L Q := by
  show wp (fun L => catR L[n]? L[m]? L) L Q
  rw [wp_at, e, e2]
  refine wp_chk.mpr ⟨decide_eq_true ?_, wp_new.mpr q⟩
  have h1 : xs.length + ys.length ≤ 20000 := by omega
  exact Nat.le_trans h1 (by decide)
theorem items_lst {n : Nat} {xs : List LV} {L : LH} (e : L[n]? = some (.lst xs)) : itemsL L (.ref n) = some xs := by
  unfold itemsL
  simp only [e]
theorem reps_one {v c : Int} : reps (iv [v]) c = iv (List.replicate c.toNat v) := by simp [reps, iv]
theorem cut_lo {xs : List Int} {c : Int} (hc : 0 ≤ c) : cut (iv xs) (some c) none = iv (xs.drop c.toNat) := by
  unfold cut
  have e1 : HT.sIx (iv xs).length 0 (some c) = min c.toNat xs.length := by
    show (if c < 0 then _ else min c.toNat (iv xs).length) = _
    rw [if_neg (by omega), iv_len]
  have e2 : HT.sIx (iv xs).length (iv xs).length none = xs.length := iv_len xs
  rw [e1, e2]
  simp only [iv, ← List.map_drop, ← List.map_take]
  congr 1
  by_cases h : c.toNat ≤ xs.length
  · rw [Nat.min_eq_left h, List.take_of_length_le (by simp)]
  · rw [Nat.min_eq_right (by omega), List.drop_of_length_le (by omega), List.drop_of_length_le (by omega)]
    simp
theorem cut_hi {xs : List Int} {c : Int} (hc : 0 ≤ c) : cut (iv xs) none (some c) = iv (xs.take c.toNat) := by
  unfold cut
  have e1 : HT.sIx (iv xs).length (iv xs).length (some c) = min c.toNat xs.length := by
    show (if c < 0 then _ else min c.toNat (iv xs).length) = _
    rw [if_neg (by omega), iv_len]
  have e2 : HT.sIx (iv xs).length 0 none = 0 := rfl
  rw [e1, e2]
  simp only [iv, ← List.map_drop, ← List.map_take, List.drop_zero, Nat.sub_zero]
  congr 1
  by_cases h : c.toNat ≤ xs.length
  · rw [Nat.min_eq_left h]
  · rw [Nat.min_eq_right (by omega), List.take_of_length_le (by omega), List.take_of_length_le (by omega)]
theorem Fr.setNew {d h i : Nat} {o : LO} {L L' : LH} (F : Fr d h L L') (hi : L.length ≤ i) : Fr d h L (L'.set i o) :=
  ⟨by rw [List.length_set]; exact F.le, fun j hj h1 h2 => by rw [List.getElem?_set_ne (by omega)]; exact F.at_ j hj h1 h2⟩
theorem show_ints {b : Nat} (hb : b ≤ 500) {xs : List Int} (h : ∀ x ∈ xs, x.natAbs.log2 < b) : PyData.showableAll (xs.map .int) = true ∧ PyData.leavesShortAll 501 (xs.map .int) = true ∧ PyData.weightAll (xs.map .int) ≤ (b + 2) * xs.length := by
  induction xs with
  | nil => simp [PyData.showableAll, PyData.leavesShortAll, PyData.weightAll]
  | cons x xs ih =>
    obtain ⟨i1, i2, i3⟩ := ih fun y hy => h y (List.mem_cons_of_mem _ hy)
    have hx := h x (List.mem_cons_self ..)
    refine ⟨?_, ?_, ?_⟩
    · simp only [List.map_cons, PyData.showableAll, PyData.showable, i1, Bool.and_true]
      exact decide_eq_true (by omega)
    · simp only [List.map_cons, PyData.leavesShortAll, PyData.leavesShort, i2, Bool.and_true]
      refine decide_eq_true ?_
      rw [PyData.shown_int]
      show (Str.ofString (toString x)).length ≤ 501
      rw [PySem.ofString_length]
      exact PySem.int_text_length_le (k := 500) (by decide) (Nat.lt_of_lt_of_le hx hb)
    · simp only [List.map_cons, PyData.weightAll, PyData.weight, List.length_cons, Nat.mul_add, Nat.mul_one]
      split <;> omega
theorem repr_chk {d : PyData} (h1 : d.showable = true) (h2 : d.leavesShort 501 = true) (h3 : d.weight ≤ 30000) (h4 : d.depth ≤ 64) : (d.showable && small d.shown.length && decide (d.depth ≤ 64)) = true := by
  have h := PyData.shown_le 501 (by decide) d h2
  have e : d.shown.length ≤ sizeLine := by
    have : (501 + 2) * d.weight + 501 ≤ 503 * 30000 + 501 := by omega
    exact Nat.le_trans h (Nat.le_trans this (by decide))
  rw [h1, show small d.shown.length = true from decide_eq_true e, decide_eq_true h4]
  rfl
theorem wp_repr {x : LV} {d : PyData} {L : LH} {Q : LV → LH → Prop} (e : toR L x = some d) (c : (d.showable && small d.shown.length && decide (d.depth ≤ 64)) = true) (q : Q (.str d.shown) L) : wp (biV .repr [x]) L Q :=
  wp_look.mpr ⟨d, e, wp_chk.mpr ⟨c, wp_ret.mpr q⟩⟩
theorem toD_int {L : LH} {i : Int} {n : Nat} : toD L (n + 1) (.int i) = some (.int i) := rfl
theorem mth_append {n : Nat} {ys : List LV} {x : LV} {L : LH} {Q : LV → LH → Prop} (e : L[n]? = some (.lst ys)) (hl : ys.length < sizeLine) (q : Q .non (L.set n (.lst (ys ++ [x])))) : wp (mthV .append (.ref n) [x]) L Q := by
  rw [wp_mth, e, m_append, wp_chk, wp_bind, wp_setO, wp_ret]
  exact ⟨decide_eq_true hl, q⟩
theorem Grow.set {L L' : LH} {i : Nat} {o : LO} (g : Grow L L') (hi : L.length ≤ i) : Grow L (L'.set i o) := by
  obtain ⟨E, rfl⟩ := g
  exact ⟨E.set (i - L.length) o, by rw [List.set_append_right _ _ hi]⟩
theorem wp_isi {x : LV} {t : Ty} {ts : List Ty} {L : LH} {Q : LV → LH → Prop} (e : tyOf L x = some ts) (q : Q (.bl (decide (t ∈ ts))) L) : wp (isiV x t) L Q := wp_look.mpr ⟨ts, e, wp_ret.mpr q⟩
theorem isi_tup {xs : List LV} {L : LH} {Q : LV → LH → Prop} : wp (isiV (.tup xs) .tuple) L Q ↔ Q (.bl true) L := by
  constructor
  · intro h
    obtain ⟨ts, e, q⟩ := wp_look.mp h
    cases e
    exact wp_ret.mp q
  · intro q
    exact wp_isi rfl q
theorem isi_int {i : Int} {L : LH} {Q : LV → LH → Prop} : wp (isiV (.int i) .int) L Q ↔ Q (.bl true) L := by
  constructor
  · intro h
    obtain ⟨ts, e, q⟩ := wp_look.mp h
    cases e
    exact wp_ret.mp q
  · intro q
    exact wp_isi rfl q
theorem turnQ.imp {I I' : LSt → LH → Prop} {Q : Fl × LSt → LH → Prop} {r : Fl × LSt} {L : LH} (h : turnQ I Q r L) (q : ∀ σ L, I σ L → I' σ L) : turnQ I' Q r L := by
  obtain ⟨f, σ⟩ := r
  cases f with
  | nx => exact q _ _ h
  | ct => exact q _ _ h
  | bk => exact h
  | rt v => exact h
theorem eqV_bl {L : LH} {a b : Bool} : Mv.eqV L (.bl a) (.bl b) = some (a == b) := rfl
theorem intL_iv : ∀ xs : List Int, intL (iv xs) = some xs
  | [] => rfl
  | x :: xs => by
    show (intL (iv xs)).map (x :: ·) = _
    rw [intL_iv xs]
    rfl
theorem lt_tup {xs ys : List Int} : cmpV .lt (.tup (iv xs)) (.tup (iv ys)) = M.ret (.bl (HT.lexLt xs ys)) := by
  show M.ofO (intL (iv xs)) (fun m => M.ofO (intL (iv ys)) fun n => M.ret (LV.bl (HT.lexLt m n))) = _
  rw [intL_iv, intL_iv]
  rfl
end Mv

/-! Mv15: values that are data: what they are as data, at most so deep; plain. -/
namespace Mv
open PySem
def okV (L : LH) (v : LV) : Prop := ∃ ts, tyOf L v = some ts
mutual
/-- the value is such data, at most n levels deep, its leaves at most B signs long -/
inductive Dt (L : LH) (B : Nat) : Nat → LV → PyData → Prop
  | non (n : Nat) : Dt L B n .non .none
  | bl (n : Nat) (b : Bool) : Dt L B n (.bl b) (.bool b)
  | int (n : Nat) (i : Int) : i.natAbs.log2 < 1920 → (PyData.shown (.int i)).length ≤ B → Dt L B n (.int i) (.int i)
  | str (n : Nat) (s : Str) : PyData.strOk s = true → (s.cps.toList.all fun c => decide (c < 16 ^ 8)) = true → Dt L B n (.str s) (.str s)
  | tup {n : Nat} {xs : List LV} {ds : List PyData} : Dts L B n xs ds → xs.length < sizeLine → Dt L B (n + 1) (.tup xs) (.tuple ds)
  | lst {n k : Nat} {xs : List LV} {ds : List PyData} : L[k]? = some (.lst xs) → Dts L B n xs ds → Dt L B (n + 1) (.ref k) (.list ds)
inductive Dts (L : LH) (B : Nat) : Nat → List LV → List PyData → Prop
  | nil (n : Nat) : Dts L B n [] []
  | cons {n : Nat} {x : LV} {xs : List LV} {d : PyData} {ds : List PyData} : Dt L B n x d → Dts L B n xs ds → Dts L B n (x :: xs) (d :: ds)
end
section
variable {L L' : LH} {B : Nat}
theorem grow_at {k : Nat} {o : LO} (g : Grow L L') (h : L[k]? = some o) : L'[k]? = some o := by
  obtain ⟨E, rfl⟩ := g
  rw [List.getElem?_append_left (lt_of h)]
  exact h
mutual
theorem Dt.grow (g : Grow L L') : ∀ {n : Nat} {v : LV} {d : PyData}, Dt L B n v d → Dt L' B n v d
  | _, _, _, .non n => .non n
  | _, _, _, .bl n b => .bl n b
  | _, _, _, .int n i h1 h2 => .int n i h1 h2
  | _, _, _, .str n s h1 h2 => .str n s h1 h2
  | _, _, _, .tup h1 h2 => .tup (Dts.grow g h1) h2
  | _, _, _, .lst h1 h2 => .lst (grow_at g h1) (Dts.grow g h2)
theorem Dts.grow (g : Grow L L') : ∀ {n : Nat} {v : List LV} {d : List PyData}, Dts L B n v d → Dts L' B n v d
  | _, _, _, .nil n => .nil n
  | _, _, _, .cons h1 h2 => .cons (Dt.grow g h1) (Dts.grow g h2)
end
mutual
theorem Dt.up : ∀ {n : Nat} {v : LV} {d : PyData}, Dt L B n v d → Dt L B (n + 1) v d
  | _, _, _, .non n => .non _
  | _, _, _, .bl n b => .bl _ b
  | _, _, _, .int n i h1 h2 => .int _ i h1 h2
  | _, _, _, .str n s h1 h2 => .str _ s h1 h2
  | _, _, _, .tup h1 h2 => .tup (Dts.up h1) h2
  | _, _, _, .lst h1 h2 => .lst h1 (Dts.up h2)
theorem Dts.up : ∀ {n : Nat} {v : List LV} {d : List PyData}, Dts L B n v d → Dts L B (n + 1) v d
  | _, _, _, .nil n => .nil _
  | _, _, _, .cons h1 h2 => .cons (Dt.up h1) (Dts.up h2)
end
theorem Dt.le {n m : Nat} {v : LV} {d : PyData} (h : Dt L B n v d) (e : n ≤ m) : Dt L B m v d := by
  induction e with
  | refl => exact h
  | step _ ih => exact ih.up
theorem Dt.ok : ∀ {n : Nat} {v : LV} {d : PyData}, Dt L B n v d → okV L v
  | _, _, _, .non n => ⟨_, rfl⟩
  | _, _, _, .bl n b => ⟨_, rfl⟩
  | _, _, _, .int n i _ _ => ⟨_, rfl⟩
  | _, _, _, .str n s _ _ => ⟨_, rfl⟩
  | _, _, _, .tup _ _ => ⟨_, rfl⟩
  | _, _, _, .lst h1 _ => ⟨[.list], by unfold tyOf; simp only [h1]⟩
mutual
theorem Dt.toD : ∀ {n : Nat} {v : LV} {d : PyData}, Dt L B n v d → ∀ m, n < m → Mv.toD L m v = some d
  | _, _, _, .non n, m + 1, _ => rfl
  | _, _, _, .bl n b, m + 1, _ => rfl
  | _, _, _, .int n i _ _, m + 1, _ => rfl
  | _, _, _, .str n s _ _, m + 1, _ => rfl
  | _, _, _, .tup (xs := xs) (ds := ds) h1 _, m + 1, h => by
    show (optAll (Mv.toD L m) xs).map PyData.tuple = _
    rw [Dts.toD h1 m (by omega)]
    rfl
  | _, _, _, .lst (xs := xs) h0 h1, m + 1, h => by
    unfold Mv.toD
    simp only [h0]
    rw [Dts.toD h1 m (by omega)]
    rfl
theorem Dts.toD : ∀ {n : Nat} {v : List LV} {d : List PyData}, Dts L B n v d → ∀ m, n < m → optAll (Mv.toD L m) v = some d
  | _, _, _, .nil _, _, _ => rfl
  | _, _, _, .cons h1 h2, m, h => by
    unfold optAll
    rw [Dt.toD h1 m h, Dts.toD h2 m h]
end
mutual
theorem Dt.toRD : ∀ {n : Nat} {v : LV} {d : PyData}, Dt L B n v d → ∀ m, n < m → Mv.toRD L m v = some d
  | _, _, _, .non n, m + 1, _ => rfl
  | _, _, _, .bl n b, m + 1, _ => rfl
  | _, _, _, .int n i _ _, m + 1, _ => rfl
  | _, _, _, .str n s _ _, m + 1, _ => rfl
  | _, _, _, .tup (xs := xs) (ds := ds) h1 _, m + 1, h => by
    show (optAll (Mv.toRD L m) xs).map PyData.tuple = _
    rw [Dts.toRD h1 m (by omega)]
    rfl
  | _, _, _, .lst (xs := xs) h0 h1, m + 1, h => by
    unfold Mv.toRD
    simp only [h0]
    rw [Dts.toRD h1 m (by omega)]
    rfl
theorem Dts.toRD : ∀ {n : Nat} {v : List LV} {d : List PyData}, Dts L B n v d → ∀ m, n < m → optAll (Mv.toRD L m) v = some d
  | _, _, _, .nil _, _, _ => rfl
  | _, _, _, .cons h1 h2, m, h => by
    unfold optAll
    rw [Dt.toRD h1 m h, Dts.toRD h2 m h]
end
theorem Dt.toR {n : Nat} {v : LV} {d : PyData} (h : Dt L B n v d) (hn : n < 66) : Mv.toR L v = some d := h.toRD 66 hn
mutual
theorem Dt.lay : ∀ {n : Nat} {v : LV} {d : PyData}, Dt L B n v d → d.canLay0 = true
  | _, _, _, .non n => rfl
  | _, _, _, .bl n b => rfl
  | _, _, _, .int n i _ _ => rfl
  | _, _, _, .str n s h _ => h
  | _, _, _, .tup h1 _ => by unfold PyData.canLay0; exact Dts.lay h1
  | _, _, _, .lst _ h1 => by unfold PyData.canLay0; exact Dts.lay h1
theorem Dts.lay : ∀ {n : Nat} {v : List LV} {d : List PyData}, Dts L B n v d → PyData.canLayAll0 d = true
  | _, _, _, .nil _ => rfl
  | _, _, _, .cons h1 h2 => by unfold PyData.canLayAll0; rw [Dt.lay h1, Dts.lay h2]; rfl
end
mutual
theorem Dt.dep : ∀ {n : Nat} {v : LV} {d : PyData}, Dt L B n v d → d.depth ≤ n
  | _, _, _, .non n => by simp [PyData.depth]
  | _, _, _, .bl n b => by simp [PyData.depth]
  | _, _, _, .int n i _ _ => by simp [PyData.depth]
  | _, _, _, .str n s h _ => by simp [PyData.depth]
  | _, _, _, .tup h1 _ => by
    have := Dts.dep h1
    simp only [PyData.depth]
    omega
  | _, _, _, .lst _ h1 => by
    have := Dts.dep h1
    simp only [PyData.depth]
    omega
theorem Dts.dep : ∀ {n : Nat} {v : List LV} {d : List PyData}, Dts L B n v d → PyData.depthAll d ≤ n
  | _, _, _, .nil _ => by simp [PyData.depthAll]
  | _, _, _, .cons h1 h2 => by
    have a := Dt.dep h1
    have b := Dts.dep h2
    simp only [PyData.depthAll]
    omega
end
mutual
theorem Dt.sh : ∀ {n : Nat} {v : LV} {d : PyData}, Dt L B n v d → d.showable = true
  | _, _, _, .non n => rfl
  | _, _, _, .bl n b => rfl
  | _, _, _, .int n i h _ => by unfold PyData.showable; exact decide_eq_true h
  | _, _, _, .str n s h _ => rfl
  | _, _, _, .tup h1 _ => by unfold PyData.showable; exact Dts.sh h1
  | _, _, _, .lst _ h1 => by unfold PyData.showable; exact Dts.sh h1
theorem Dts.sh : ∀ {n : Nat} {v : List LV} {d : List PyData}, Dts L B n v d → PyData.showableAll d = true
  | _, _, _, .nil _ => rfl
  | _, _, _, .cons h1 h2 => by unfold PyData.showableAll; rw [Dt.sh h1, Dts.sh h2]; rfl
end
mutual
theorem Dt.lf : ∀ {n : Nat} {v : LV} {d : PyData}, Dt L B n v d → d.leavesShort B = true
  | _, _, _, .non n => rfl
  | _, _, _, .bl n b => rfl
  | _, _, _, .int n i _ h => by unfold PyData.leavesShort; exact decide_eq_true h
  | _, _, _, .str n s _ h => by unfold PyData.leavesShort; exact h
  | _, _, _, .tup h1 _ => by unfold PyData.leavesShort; exact Dts.lf h1
  | _, _, _, .lst _ h1 => by unfold PyData.leavesShort; exact Dts.lf h1
theorem Dts.lf : ∀ {n : Nat} {v : List LV} {d : List PyData}, Dts L B n v d → PyData.leavesShortAll B d = true
  | _, _, _, .nil _ => rfl
  | _, _, _, .cons h1 h2 => by unfold PyData.leavesShortAll; rw [Dt.lf h1, Dts.lf h2]; rfl
end
theorem Dts.len : ∀ {n : Nat} {v : List LV} {d : List PyData}, Dts L B n v d → d.length = v.length
  | _, _, _, .nil _ => rfl
  | _, _, _, .cons _ h2 => congrArg (· + 1) (Dts.len h2)
/-- shown: as text -/
theorem Dt.rep {n W : Nat} {v : LV} {d : PyData} (h : Dt L B n v d) (hn : n < 60) (hB : 8 ≤ B) (hw : d.weight ≤ W) (hW : (B + 2) * W + B ≤ 16000000) : (d.showable && small d.shown.length && decide (d.depth ≤ 64)) = true := by
  have h2 := PyData.shown_le B hB d h.lf
  have h3 : (B + 2) * d.weight ≤ (B + 2) * W := Nat.mul_le_mul_left _ hw
  have e : d.shown.length ≤ sizeLine := Nat.le_trans h2 (Nat.le_trans (by omega) (show 16000000 ≤ sizeLine by decide))
  rw [h.sh, show small d.shown.length = true from decide_eq_true e, decide_eq_true (by have := h.dep; omega)]
  rfl
theorem Dt.shp {n : Nat} {v : LV} {d : PyData} (h : Dt L B n v d) (hn : n < 60) : SeqAt.shaped d = true := by
  unfold SeqAt.shaped
  rw [h.lay, decide_eq_true (by have := h.dep; omega)]
  rfl
/-- data of a weight -/
def GD (L : LH) (B n w : Nat) (v : LV) : Prop := ∃ d, Dt L B n v d ∧ d.weight ≤ w
def GDs (L : LH) (B n w : Nat) (xs : List LV) : Prop := ∃ ds, Dts L B n xs ds ∧ PyData.weightAll ds ≤ w
theorem GD.grow {n w : Nat} {v : LV} (h : GD L B n w v) (g : Grow L L') : GD L' B n w v := by
  obtain ⟨d, h1, h2⟩ := h
  exact ⟨d, h1.grow g, h2⟩
theorem GDs.grow {n w : Nat} {v : List LV} (h : GDs L B n w v) (g : Grow L L') : GDs L' B n w v := by
  obtain ⟨d, h1, h2⟩ := h
  exact ⟨d, h1.grow g, h2⟩
theorem GD.le {n m w w' : Nat} {v : LV} (h : GD L B n w v) (e : n ≤ m) (e2 : w ≤ w') : GD L B m w' v := by
  obtain ⟨d, h1, h2⟩ := h
  exact ⟨d, h1.le e, Nat.le_trans h2 e2⟩
theorem Dts.le {n m : Nat} : ∀ {v : List LV} {d : List PyData}, Dts L B n v d → n ≤ m → Dts L B m v d
  | _, _, .nil _, _ => .nil _
  | _, _, .cons h1 h2, e => .cons (h1.le e) (Dts.le h2 e)
theorem GDs.le {n m w w' : Nat} {v : List LV} (h : GDs L B n w v) (e : n ≤ m) (e2 : w ≤ w') : GDs L B m w' v := by
  obtain ⟨d, h1, h2⟩ := h
  exact ⟨d, h1.le e, Nat.le_trans h2 e2⟩
theorem GD.ok {n w : Nat} {v : LV} (h : GD L B n w v) : okV L v := by
  obtain ⟨d, h1, h2⟩ := h
  exact h1.ok
theorem GD.non {n w : Nat} : GD L B n w .non := ⟨_, .non n, Nat.zero_le _⟩
theorem GD.bl {n w : Nat} (b : Bool) : GD L B n w (.bl b) := ⟨_, .bl n b, Nat.zero_le _⟩
/-- an int of few bits -/
theorem GD.int {n w b : Nat} {i : Int} (h : i.natAbs.log2 < b) (hb : b + 1 ≤ B) (hb2 : b ≤ 1920) (hw : b ≤ w) : GD L B n w (.int i) := by
  refine ⟨_, .int n i (by omega) ?_, ?_⟩
  · rw [PyData.shown_int]
    show (Str.ofString (toString i)).length ≤ B
    rw [PySem.ofString_length]
    rcases Nat.eq_zero_or_pos b with rfl | hb3
    · omega
    · exact Nat.le_trans (PySem.int_text_length_le (k := b) hb3 h) (by omega)
  · simp only [PyData.weight]
    split <;> omega
theorem GD.str {n w : Nat} {s : Str} (h1 : PyData.strOk s = true) (h2 : (s.cps.toList.all fun c => decide (c < 16 ^ 8)) = true) (hw : s.cps.size ≤ w) : GD L B n w (.str s) := ⟨_, .str n s h1 h2, hw⟩
theorem GD.tup {n w : Nat} {xs : List LV} (h : GDs L B n w xs) (hl : xs.length < sizeLine) : GD L B (n + 1) w (.tup xs) := by
  obtain ⟨ds, h1, h2⟩ := h
  exact ⟨_, .tup h1 hl, by simpa only [PyData.weight] using h2⟩
theorem GD.lst {n w k : Nat} {xs : List LV} (e : L[k]? = some (.lst xs)) (h : GDs L B n w xs) : GD L B (n + 1) w (.ref k) := by
  obtain ⟨ds, h1, h2⟩ := h
  exact ⟨_, .lst e h1, by simpa only [PyData.weight] using h2⟩
theorem GDs.nil {n w : Nat} : GDs L B n w [] := ⟨_, .nil n, Nat.zero_le _⟩
theorem GDs.cons {n w1 w2 w : Nat} {x : LV} {xs : List LV} (h1 : GD L B n w1 x) (h2 : GDs L B n w2 xs) (hw : w1 + 1 + w2 ≤ w) : GDs L B n w (x :: xs) := by
  obtain ⟨d, a, b⟩ := h1
  obtain ⟨ds, a2, b2⟩ := h2
  exact ⟨_, .cons a a2, by simp only [PyData.weightAll]; omega⟩
theorem GDs.all {n w : Nat} : ∀ {xs : List LV}, (∀ x ∈ xs, GD L B n w x) → GDs L B n ((w + 1) * xs.length) xs
  | [], _ => .nil
  | x :: xs, h => .cons (h x (List.mem_cons_self ..)) (GDs.all fun y hy => h y (List.mem_cons_of_mem _ hy)) (by rw [List.length_cons, Nat.mul_add]; omega)
theorem GDs.mem {n w : Nat} : ∀ {xs : List LV}, GDs L B n w xs → ∀ x ∈ xs, GD L B n w x
  | [], _, _, h => by cases h
  | x :: xs, ⟨_, .cons h1 h2, hw⟩, y, hy => by
    simp only [PyData.weightAll] at hw
    rcases List.mem_cons.mp hy with rfl | hy
    · exact ⟨_, h1, by omega⟩
    · exact GDs.mem (w := w) ⟨_, h2, by omega⟩ y hy
theorem GDs.append {n w1 w2 w : Nat} : ∀ {xs ys : List LV}, GDs L B n w1 xs → GDs L B n w2 ys → w1 + w2 ≤ w → GDs L B n w (xs ++ ys)
  | [], ys, _, h, e => h.le (Nat.le_refl _) (by omega)
  | x :: xs, ys, ⟨_, .cons (d := d) (ds := ds) h1 h2, hw⟩, h, e => by
    simp only [PyData.weightAll] at hw
    exact .cons (w1 := d.weight) (w2 := PyData.weightAll ds + w2) ⟨_, h1, Nat.le_refl _⟩ (GDs.append (w1 := PyData.weightAll ds) (w2 := w2) ⟨_, h2, Nat.le_refl _⟩ h (Nat.le_refl _)) (by omega)
/-- some of its items -/
theorem GDs.sub {n w : Nat} {ys : List LV} : ∀ {xs : List LV}, GDs L B n w xs → ys.Sublist xs → GDs L B n w ys
  | [], h, s => by
    have := List.sublist_nil.mp s
    subst this
    exact h
  | x :: xs, ⟨_, .cons (d := d) h1 h2, hw⟩, s => by
    simp only [PyData.weightAll] at hw
    cases s with
    | cons _ s => exact GDs.sub (w := w) ⟨_, h2, by omega⟩ s
    | cons_cons _ s => exact .cons (w1 := d.weight) (w2 := w - (d.weight + 1)) ⟨_, h1, Nat.le_refl _⟩ (GDs.sub ⟨_, h2, by omega⟩ s) (by omega)
theorem GD.tupInv {n w : Nat} {xs : List LV} (h : GD L B n w (.tup xs)) : xs.length < sizeLine ∧ GDs L B (n - 1) w xs := by
  obtain ⟨d, h1, h2⟩ := h
  cases h1 with
  | tup a b => exact ⟨b, _, a, by simpa only [PyData.weight] using h2⟩
theorem GD.ofString {n w : Nat} (s : String) (hw : s.length ≤ w) : GD L B n w (.str (Str.ofString s)) := by
  have e : ∀ c ∈ (Str.ofString s).cps.toList, c < 0x110000 := by
    rw [Str.ofString_eq_toList]
    intro c hc
    obtain ⟨ch, _, rfl⟩ := List.mem_map.mp (show c ∈ s.toList.map Char.toNat from hc)
    have := ch.valid
    have h : ch.toNat.isValidChar := ch.valid
    rcases h with h | h <;> omega
  refine .str ?_ ?_ ?_
  · unfold PyData.strOk
    rw [Array.all_eq_true']
    intro c hc
    exact decide_eq_true (e c (by simpa using hc))
  · rw [List.all_eq_true]
    intro c hc
    exact decide_eq_true (Nat.lt_of_lt_of_le (e c hc) (by decide))
  · have := PySem.ofString_length s
    have h2 : (Str.ofString s).cps.size = s.length := this
    omega
theorem GDs.set {n w w1 w2 : Nat} {x : LV} (hx : GD L B n w1 x) : ∀ {xs : List LV} {i : Nat}, GDs L B n w xs → w + w1 ≤ w2 → GDs L B n w2 (xs.set i x)
  | [], _, h, e => h.le (Nat.le_refl _) (by omega)
  | y :: xs, 0, ⟨_, .cons (d := d) (ds := ds) h1 h2, hw⟩, e => by
    simp only [PyData.weightAll] at hw
    exact .cons hx (w2 := PyData.weightAll ds) ⟨_, h2, Nat.le_refl _⟩ (by omega)
  | y :: xs, i + 1, ⟨_, .cons (d := d) (ds := ds) h1 h2, hw⟩, e => by
    simp only [PyData.weightAll] at hw
    exact .cons (w1 := d.weight) (w2 := PyData.weightAll ds + w1) ⟨_, h1, Nat.le_refl _⟩ (GDs.set hx (w := PyData.weightAll ds) (i := i) ⟨_, h2, Nat.le_refl _⟩ (Nat.le_refl _)) (by omega)
theorem cut_sub (xs : List LV) (lo hi : Option Int) : (cut xs lo hi).Sublist xs := (List.take_sublist _ _).trans (List.drop_sublist _ _)
theorem GDs.ints {n b : Nat} {xs : List Int} (h : ∀ x ∈ xs, x.natAbs.log2 < b) (hb : b + 1 ≤ B) (hb2 : b ≤ 1920) : GDs L B n ((b + 1) * xs.length) (iv xs) := by
  have e := GDs.all (L := L) (B := B) (n := n) (w := b) (xs := iv xs) fun x hx => by
    obtain ⟨i, hi, rfl⟩ := List.mem_map.mp hx
    exact .int (h i hi) hb hb2 (Nat.le_refl _)
  rw [iv_len] at e
  exact e
/-- repr of data -/
theorem wp_reprD {n w : Nat} {v : LV} {Q : LV → LH → Prop} (h : GD L B n w v) (hn : n < 60) (hB : 8 ≤ B) (hW : (B + 2) * w + B ≤ 16000000) (q : ∀ s, (∀ L', Grow L L' → ∀ Q' : LV → LH → Prop, Q' (.str s) L' → wp (biV .repr [v]) L' Q') → Q (.str s) L) : wp (biV .repr [v]) L Q := by
  obtain ⟨d, h1, h2⟩ := h
  exact wp_repr (h1.toR (by omega)) (h1.rep hn hB h2 hW) (q _ fun L' g Q' q' => wp_repr ((h1.grow g).toR (by omega)) ((h1.grow g).rep hn hB h2 hW) q')
end
end Mv

/-! Mv16: data with dicts of one pair; while; plain. -/
namespace Mv
open PySem
theorem divOk_w {j : Int} (h : 0 < j ∧ j < 1152921504606846976) : divOk j = true := by
  refine decide_eq_true ⟨h.1, ?_⟩
  have : j.natAbs.log2 < 60 := by
    rw [Nat.log2_lt (by omega)]
    omega
  omega
/-! a while, by a measure -/
def whlQ (I : Nat → LSt → LH → Prop) (Q : Fl × LSt → LH → Prop) (m : Nat) : Fl × LSt → LH → Prop
  | (.nx, σ), L => ∃ m', m' < m ∧ I m' σ L
  | (.ct, σ), L => ∃ m', m' < m ∧ I m' σ L
  | (.bk, σ), L => Q (.nx, σ) L
  | (.rt v, σ), L => Q (.rt v, σ) L
theorem wp_whlGo {c : LSt → M LV} {b : LSt → M (Fl × LSt)} {Q : Fl × LSt → LH → Prop} (I : Nat → LSt → LH → Prop)
    (step : ∀ m σ L, I m σ L → wp (c σ) L fun x L1 => ∃ k, x = .bl k ∧ (k = false → Q (.nx, σ) L1) ∧ (k = true → wp (b σ) L1 (whlQ I Q m))) :
    ∀ (k m : Nat) (σ : LSt) (L : LH), m < k → I m σ L → wp (whlGo c b k σ) L Q
  | 0, m, _, _, h, _ => absurd h (Nat.not_lt_zero _)
  | k + 1, m, σ, L, hk, h => by
    show wp (M.bind (c σ) fun x => match x with
      | .bl false => M.ret (.nx, σ)
      | .bl true => M.bind (b σ) fun (r : Fl × LSt) => match r with
        | (.nx, σ1) => whlGo c b k σ1
        | (.ct, σ1) => whlGo c b k σ1
        | (.bk, σ1) => M.ret (.nx, σ1)
        | (.rt v, σ1) => M.ret (.rt v, σ1)
      | _ => M.no) L Q
    refine wp_bind.mpr ((step m σ L h).imp fun x L1 ⟨k', e, h0, h1⟩ => ?_)
    subst e
    cases k' with
    | false => exact wp_ret.mpr (h0 rfl)
    | true =>
      refine wp_bind.mpr ((h1 rfl).imp fun r L2 q => ?_)
      obtain ⟨f, σ1⟩ := r
      cases f with
      | nx =>
        obtain ⟨m', hm, q⟩ := q
        exact wp_whlGo I step k m' σ1 L2 (by omega) q
      | ct =>
        obtain ⟨m', hm, q⟩ := q
        exact wp_whlGo I step k m' σ1 L2 (by omega) q
      | bk => exact wp_ret.mpr q
      | rt v => exact wp_ret.mpr q
theorem fuel_lt {m : Nat} (h : m ≤ 1000000000000) : m < fuel := by
  unfold fuel
  exact Nat.lt_of_le_of_lt h (Nat.lt_of_lt_of_le (show 1000000000000 < 10 ^ 13 by decide) (Nat.pow_le_pow_right (by decide) (by decide)))
theorem wp_whl {c : LSt → M LV} {b : LSt → M (Fl × LSt)} {Q : Fl × LSt → LH → Prop} {σ : LSt} {L : LH} (I : Nat → LSt → LH → Prop) (m : Nat) (hm : m ≤ 1000000000000) (h0 : I m σ L)
    (step : ∀ m σ L, I m σ L → wp (c σ) L fun x L1 => ∃ k, x = .bl k ∧ (k = false → Q (.nx, σ) L1) ∧ (k = true → wp (b σ) L1 (whlQ I Q m))) : wp (whlGo c b fuel σ) L Q :=
  wp_whlGo I step fuel m σ L (fuel_lt hm) h0
/-! data, dicts too -/
def KeyOk (B : Nat) : L2.Key → Prop
  | .inl i => i.natAbs.log2 < 1920 ∧ (PyData.shown (.int i)).length ≤ B
  | .inr s => (s.cps.toList.all fun c => decide (c < 16 ^ 8)) = true
mutual
/-- the value is such data, at most n levels deep, its leaves at most B signs long, its tuples at most 4000 items -/
inductive Dq (L : LH) (B : Nat) : Nat → LV → PyData → Prop
  | non (n : Nat) : Dq L B n .non .none
  | bl (n : Nat) (b : Bool) : Dq L B n (.bl b) (.bool b)
  | int (n : Nat) (i : Int) : i.natAbs.log2 < 1920 → (PyData.shown (.int i)).length ≤ B → Dq L B n (.int i) (.int i)
  | str (n : Nat) (s : Str) : (s.cps.toList.all fun c => decide (c < 16 ^ 8)) = true → Dq L B n (.str s) (.str s)
  | tup {n : Nat} {xs : List LV} {ds : List PyData} : Dqs L B n xs ds → xs.length ≤ 4000 → Dq L B (n + 1) (.tup xs) (.tuple ds)
  | lst {n k : Nat} {xs : List LV} {ds : List PyData} : L[k]? = some (.lst xs) → Dqs L B n xs ds → Dq L B (n + 1) (.ref k) (.list ds)
  | dic0 {n k : Nat} : L[k]? = some (.dic []) → Dq L B (n + 1) (.ref k) (.dict [])
  | dic1 {n k : Nat} {key : L2.Key} {v : LV} {d : PyData} : L[k]? = some (.dic [(key, v)]) → KeyOk B key → Dq L B n v d → Dq L B (n + 1) (.ref k) (.dict [(keyD key, d)])
inductive Dqs (L : LH) (B : Nat) : Nat → List LV → List PyData → Prop
  | nil (n : Nat) : Dqs L B n [] []
  | cons {n : Nat} {x : LV} {xs : List LV} {d : PyData} {ds : List PyData} : Dq L B n x d → Dqs L B n xs ds → Dqs L B n (x :: xs) (d :: ds)
end
section
variable {L L' : LH} {B : Nat}
mutual
theorem Dq.grow (g : Grow L L') : ∀ {n : Nat} {v : LV} {d : PyData}, Dq L B n v d → Dq L' B n v d
  | _, _, _, .non n => .non n
  | _, _, _, .bl n b => .bl n b
  | _, _, _, .int n i h1 h2 => .int n i h1 h2
  | _, _, _, .str n s h1 => .str n s h1
  | _, _, _, .tup h1 h2 => .tup (Dqs.grow g h1) h2
  | _, _, _, .lst h1 h2 => .lst (grow_at g h1) (Dqs.grow g h2)
  | _, _, _, .dic0 h1 => .dic0 (grow_at g h1)
  | _, _, _, .dic1 h1 h2 h3 => .dic1 (grow_at g h1) h2 (Dq.grow g h3)
theorem Dqs.grow (g : Grow L L') : ∀ {n : Nat} {v : List LV} {d : List PyData}, Dqs L B n v d → Dqs L' B n v d
  | _, _, _, .nil n => .nil n
  | _, _, _, .cons h1 h2 => .cons (Dq.grow g h1) (Dqs.grow g h2)
end
mutual
theorem Dq.up : ∀ {n : Nat} {v : LV} {d : PyData}, Dq L B n v d → Dq L B (n + 1) v d
  | _, _, _, .non n => .non _
  | _, _, _, .bl n b => .bl _ b
  | _, _, _, .int n i h1 h2 => .int _ i h1 h2
  | _, _, _, .str n s h1 => .str _ s h1
  | _, _, _, .tup h1 h2 => .tup (Dqs.up h1) h2
  | _, _, _, .lst h1 h2 => .lst h1 (Dqs.up h2)
  | _, _, _, .dic0 h1 => .dic0 h1
  | _, _, _, .dic1 h1 h2 h3 => .dic1 h1 h2 (Dq.up h3)
theorem Dqs.up : ∀ {n : Nat} {v : List LV} {d : List PyData}, Dqs L B n v d → Dqs L B (n + 1) v d
  | _, _, _, .nil n => .nil _
  | _, _, _, .cons h1 h2 => .cons (Dq.up h1) (Dqs.up h2)
end
theorem Dq.le {n m : Nat} {v : LV} {d : PyData} (h : Dq L B n v d) (e : n ≤ m) : Dq L B m v d := by
  induction e with
  | refl => exact h
  | step _ ih => exact ih.up
theorem Dqs.le {n m : Nat} {v : List LV} {d : List PyData} (h : Dqs L B n v d) (e : n ≤ m) : Dqs L B m v d := by
  induction e with
  | refl => exact h
  | step _ ih => exact ih.up
theorem Dq.ok : ∀ {n : Nat} {v : LV} {d : PyData}, Dq L B n v d → okV L v
  | _, _, _, .non n => ⟨_, rfl⟩
  | _, _, _, .bl n b => ⟨_, rfl⟩
  | _, _, _, .int n i _ _ => ⟨_, rfl⟩
  | _, _, _, .str n s _ => ⟨_, rfl⟩
  | _, _, _, .tup _ _ => ⟨_, rfl⟩
  | _, _, _, .lst h1 _ => ⟨[.list], by unfold tyOf; simp only [h1]⟩
  | _, _, _, .dic0 h1 => ⟨[.dict], by unfold tyOf; simp only [h1]⟩
  | _, _, _, .dic1 h1 _ _ => ⟨[.dict], by unfold tyOf; simp only [h1]⟩
mutual
theorem Dq.toRD : ∀ {n : Nat} {v : LV} {d : PyData}, Dq L B n v d → ∀ m, n < m → Mv.toRD L m v = some d
  | _, _, _, .non n, m + 1, _ => rfl
  | _, _, _, .bl n b, m + 1, _ => rfl
  | _, _, _, .int n i _ _, m + 1, _ => rfl
  | _, _, _, .str n s _, m + 1, _ => rfl
  | _, _, _, .tup (xs := xs) (ds := ds) h1 _, m + 1, h => by
    show (optAll (Mv.toRD L m) xs).map PyData.tuple = _
    rw [Dqs.toRD h1 m (by omega)]
    rfl
  | _, _, _, .lst (xs := xs) h0 h1, m + 1, h => by
    unfold Mv.toRD
    simp only [h0]
    rw [Dqs.toRD h1 m (by omega)]
    rfl
  | _, _, _, .dic0 h0, m + 1, h => by
    unfold Mv.toRD
    simp only [h0]
    rfl
  | _, _, _, .dic1 (v := v) (d := d) h0 _ h1, m + 1, h => by
    unfold Mv.toRD
    simp only [h0]
    have e : optAll (Mv.toRD L m) [v] = some [d] := by
      unfold optAll
      rw [Dq.toRD h1 m (by omega)]
      rfl
    show Option.map _ (optAll (Mv.toRD L m) [v]) = _
    rw [e]
    rfl
theorem Dqs.toRD : ∀ {n : Nat} {v : List LV} {d : List PyData}, Dqs L B n v d → ∀ m, n < m → optAll (Mv.toRD L m) v = some d
  | _, _, _, .nil _, _, _ => rfl
  | _, _, _, .cons h1 h2, m, h => by
    unfold optAll
    rw [Dq.toRD h1 m h, Dqs.toRD h2 m h]
end
theorem Dq.toR {n : Nat} {v : LV} {d : PyData} (h : Dq L B n v d) (hn : n < 66) : Mv.toR L v = some d := h.toRD 66 hn
mutual
theorem Dq.dep : ∀ {n : Nat} {v : LV} {d : PyData}, Dq L B n v d → d.depth ≤ n
  | _, _, _, .non n => by simp [PyData.depth]
  | _, _, _, .bl n b => by simp [PyData.depth]
  | _, _, _, .int n i _ _ => by simp [PyData.depth]
  | _, _, _, .str n s h => by simp [PyData.depth]
  | _, _, _, .tup h1 _ => by
    have := Dqs.dep h1
    simp only [PyData.depth]
    omega
  | _, _, _, .lst _ h1 => by
    have := Dqs.dep h1
    simp only [PyData.depth]
    omega
  | _, _, _, .dic0 h1 => by simp [PyData.depth, PyData.depthKv]
  | _, _, _, .dic1 (key := key) _ _ h1 => by
    have := Dq.dep h1
    have e : (keyD key).depth = 0 := by cases key <;> simp [keyD, PyData.depth]
    simp only [PyData.depth, PyData.depthKv, e]
    omega
theorem Dqs.dep : ∀ {n : Nat} {v : List LV} {d : List PyData}, Dqs L B n v d → PyData.depthAll d ≤ n
  | _, _, _, .nil _ => by simp [PyData.depthAll]
  | _, _, _, .cons h1 h2 => by
    have a := Dq.dep h1
    have b := Dqs.dep h2
    simp only [PyData.depthAll]
    omega
end
theorem KeyOk.sh {k : L2.Key} (h : KeyOk B k) : (keyD k).showable = true ∧ (keyD k).leavesShort B = true := by
  cases k with
  | inl i => exact ⟨by simp only [keyD, PyData.showable]; exact decide_eq_true h.1, by simp only [keyD, PyData.leavesShort]; exact decide_eq_true h.2⟩
  | inr s => exact ⟨rfl, by simp only [keyD, PyData.leavesShort]; exact h⟩
mutual
theorem Dq.sh : ∀ {n : Nat} {v : LV} {d : PyData}, Dq L B n v d → d.showable = true
  | _, _, _, .non n => rfl
  | _, _, _, .bl n b => rfl
  | _, _, _, .int n i h _ => by unfold PyData.showable; exact decide_eq_true h
  | _, _, _, .str n s h => rfl
  | _, _, _, .tup h1 _ => by unfold PyData.showable; exact Dqs.sh h1
  | _, _, _, .lst _ h1 => by unfold PyData.showable; exact Dqs.sh h1
  | _, _, _, .dic0 _ => by simp [PyData.showable, PyData.showableKv]
  | _, _, _, .dic1 _ hk h1 => by simp only [PyData.showable, PyData.showableKv, hk.sh.1, Dq.sh h1, Bool.and_self]
theorem Dqs.sh : ∀ {n : Nat} {v : List LV} {d : List PyData}, Dqs L B n v d → PyData.showableAll d = true
  | _, _, _, .nil _ => rfl
  | _, _, _, .cons h1 h2 => by unfold PyData.showableAll; rw [Dq.sh h1, Dqs.sh h2]; rfl
end
mutual
theorem Dq.lf : ∀ {n : Nat} {v : LV} {d : PyData}, Dq L B n v d → d.leavesShort B = true
  | _, _, _, .non n => rfl
  | _, _, _, .bl n b => rfl
  | _, _, _, .int n i _ h => by unfold PyData.leavesShort; exact decide_eq_true h
  | _, _, _, .str n s h => by unfold PyData.leavesShort; exact h
  | _, _, _, .tup h1 _ => by unfold PyData.leavesShort; exact Dqs.lf h1
  | _, _, _, .lst _ h1 => by unfold PyData.leavesShort; exact Dqs.lf h1
  | _, _, _, .dic0 _ => by simp [PyData.leavesShort, PyData.leavesShortKv]
  | _, _, _, .dic1 _ hk h1 => by simp only [PyData.leavesShort, PyData.leavesShortKv, hk.sh.2, Dq.lf h1, Bool.and_self]
theorem Dqs.lf : ∀ {n : Nat} {v : List LV} {d : List PyData}, Dqs L B n v d → PyData.leavesShortAll B d = true
  | _, _, _, .nil _ => rfl
  | _, _, _, .cons h1 h2 => by unfold PyData.leavesShortAll; rw [Dq.lf h1, Dqs.lf h2]; rfl
end
theorem Dq.rep {n W : Nat} {v : LV} {d : PyData} (h : Dq L B n v d) (hn : n < 60) (hB : 8 ≤ B) (hw : d.weight ≤ W) (hW : (B + 2) * W + B ≤ 16000000) : (d.showable && small d.shown.length && decide (d.depth ≤ 64)) = true := by
  have h2 := PyData.shown_le B hB d h.lf
  have h3 : (B + 2) * d.weight ≤ (B + 2) * W := Nat.mul_le_mul_left _ hw
  have e : d.shown.length ≤ sizeLine := Nat.le_trans h2 (Nat.le_trans (by omega) (show 16000000 ≤ sizeLine by decide))
  rw [h.sh, show small d.shown.length = true from decide_eq_true e, decide_eq_true (by have := h.dep; omega)]
  rfl
/-- data of a weight -/
def GQ (L : LH) (B n w : Nat) (v : LV) : Prop := ∃ d, Dq L B n v d ∧ d.weight ≤ w
def GQs (L : LH) (B n w : Nat) (xs : List LV) : Prop := ∃ ds, Dqs L B n xs ds ∧ PyData.weightAll ds ≤ w
theorem GQ.grow {n w : Nat} {v : LV} (h : GQ L B n w v) (g : Grow L L') : GQ L' B n w v := by
  obtain ⟨d, h1, h2⟩ := h
  exact ⟨d, h1.grow g, h2⟩
theorem GQs.grow {n w : Nat} {v : List LV} (h : GQs L B n w v) (g : Grow L L') : GQs L' B n w v := by
  obtain ⟨d, h1, h2⟩ := h
  exact ⟨d, h1.grow g, h2⟩
theorem GQ.le {n m w w' : Nat} {v : LV} (h : GQ L B n w v) (e : n ≤ m) (e2 : w ≤ w') : GQ L B m w' v := by
  obtain ⟨d, h1, h2⟩ := h
  exact ⟨d, h1.le e, Nat.le_trans h2 e2⟩
theorem GQs.le {n m w w' : Nat} {v : List LV} (h : GQs L B n w v) (e : n ≤ m) (e2 : w ≤ w') : GQs L B m w' v := by
  obtain ⟨d, h1, h2⟩ := h
  exact ⟨d, h1.le e, Nat.le_trans h2 e2⟩
theorem GQ.ok {n w : Nat} {v : LV} (h : GQ L B n w v) : okV L v := by
  obtain ⟨d, h1, h2⟩ := h
  exact h1.ok
theorem GQ.non {n w : Nat} : GQ L B n w .non := ⟨_, .non n, Nat.zero_le _⟩
theorem GQ.bl {n w : Nat} (b : Bool) : GQ L B n w (.bl b) := ⟨_, .bl n b, Nat.zero_le _⟩
theorem GQ.int {n w b : Nat} {i : Int} (h : i.natAbs.log2 < b) (hb : b + 1 ≤ B) (hb2 : b ≤ 1920) (hw : b ≤ w) : GQ L B n w (.int i) := by
  refine ⟨_, .int n i (by omega) ?_, ?_⟩
  · rw [PyData.shown_int]
    show (Str.ofString (toString i)).length ≤ B
    rw [PySem.ofString_length]
    rcases Nat.eq_zero_or_pos b with rfl | hb3
    · omega
    · exact Nat.le_trans (PySem.int_text_length_le (k := b) hb3 h) (by omega)
  · simp only [PyData.weight]
    split <;> omega
theorem str_cps (s : String) : ((Str.ofString s).cps.toList.all fun c => decide (c < 16 ^ 8)) = true := by
  rw [List.all_eq_true]
  intro c hc
  rw [Str.ofString_eq_toList] at hc
  obtain ⟨ch, _, rfl⟩ := List.mem_map.mp (show c ∈ s.toList.map Char.toNat from hc)
  have h : ch.toNat.isValidChar := ch.valid
  refine decide_eq_true (Nat.lt_of_lt_of_le (show ch.toNat < 0x110000 from ?_) (by decide))
  rcases h with h | h <;> omega
theorem GQ.ofString {n w : Nat} (s : String) (hw : s.length ≤ w) : GQ L B n w (.str (Str.ofString s)) := by
  refine ⟨_, .str n _ (str_cps s), ?_⟩
  have := PySem.ofString_length s
  have h2 : (Str.ofString s).cps.size = s.length := this
  show (Str.ofString s).cps.size ≤ w
  omega
theorem GQ.tup {n w : Nat} {xs : List LV} (h : GQs L B n w xs) (hl : xs.length ≤ 4000) : GQ L B (n + 1) w (.tup xs) := by
  obtain ⟨ds, h1, h2⟩ := h
  exact ⟨_, .tup h1 hl, by simpa only [PyData.weight] using h2⟩
theorem GQ.lst {n w k : Nat} {xs : List LV} (e : L[k]? = some (.lst xs)) (h : GQs L B n w xs) : GQ L B (n + 1) w (.ref k) := by
  obtain ⟨ds, h1, h2⟩ := h
  exact ⟨_, .lst e h1, by simpa only [PyData.weight] using h2⟩
theorem GQ.dic0 {n w k : Nat} (e : L[k]? = some (.dic [])) : GQ L B (n + 1) w (.ref k) := ⟨_, .dic0 e, by simp [PyData.weight, PyData.weightKv]⟩
theorem GQ.dic1 {n w w2 k : Nat} {key : L2.Key} {v : LV} (e : L[k]? = some (.dic [(key, v)])) (hk : KeyOk B key) (h : GQ L B n w v) (hw : (keyD key).weight + w + 2 ≤ w2) : GQ L B (n + 1) w2 (.ref k) := by
  obtain ⟨d, h1, h2⟩ := h
  exact ⟨_, .dic1 e hk h1, by simp only [PyData.weight, PyData.weightKv]; omega⟩
theorem GQs.nil {n w : Nat} : GQs L B n w [] := ⟨_, .nil n, Nat.zero_le _⟩
theorem GQs.cons {n w1 w2 w : Nat} {x : LV} {xs : List LV} (h1 : GQ L B n w1 x) (h2 : GQs L B n w2 xs) (hw : w1 + 1 + w2 ≤ w) : GQs L B n w (x :: xs) := by
  obtain ⟨d, a, b⟩ := h1
  obtain ⟨ds, a2, b2⟩ := h2
  exact ⟨_, .cons a a2, by simp only [PyData.weightAll]; omega⟩
theorem GQs.all {n w : Nat} : ∀ {xs : List LV}, (∀ x ∈ xs, GQ L B n w x) → GQs L B n ((w + 1) * xs.length) xs
  | [], _ => .nil
  | x :: xs, h => .cons (h x (List.mem_cons_self ..)) (GQs.all fun y hy => h y (List.mem_cons_of_mem _ hy)) (by rw [List.length_cons, Nat.mul_add]; omega)
theorem GQs.mem {n w : Nat} : ∀ {xs : List LV}, GQs L B n w xs → ∀ x ∈ xs, GQ L B n w x
  | [], _, _, h => by cases h
  | x :: xs, ⟨_, .cons h1 h2, hw⟩, y, hy => by
    simp only [PyData.weightAll] at hw
    rcases List.mem_cons.mp hy with rfl | hy
    · exact ⟨_, h1, by omega⟩
    · exact GQs.mem (w := w) ⟨_, h2, by omega⟩ y hy
theorem GQs.append {n w1 w2 w : Nat} : ∀ {xs ys : List LV}, GQs L B n w1 xs → GQs L B n w2 ys → w1 + w2 ≤ w → GQs L B n w (xs ++ ys)
  | [], ys, _, h, e => h.le (Nat.le_refl _) (by omega)
  | x :: xs, ys, ⟨_, .cons (d := d) (ds := ds) h1 h2, hw⟩, h, e => by
    simp only [PyData.weightAll] at hw
    exact .cons (w1 := d.weight) (w2 := PyData.weightAll ds + w2) ⟨_, h1, Nat.le_refl _⟩ (GQs.append (w1 := PyData.weightAll ds) (w2 := w2) ⟨_, h2, Nat.le_refl _⟩ h (Nat.le_refl _)) (by omega)
theorem GQs.sub {n w : Nat} {ys : List LV} : ∀ {xs : List LV}, GQs L B n w xs → ys.Sublist xs → GQs L B n w ys
  | [], h, s => by
    have := List.sublist_nil.mp s
    subst this
    exact h
  | x :: xs, ⟨_, .cons (d := d) h1 h2, hw⟩, s => by
    simp only [PyData.weightAll] at hw
    cases s with
    | cons _ s => exact GQs.sub (w := w) ⟨_, h2, by omega⟩ s
    | cons_cons _ s => exact .cons (w1 := d.weight) (w2 := w - (d.weight + 1)) ⟨_, h1, Nat.le_refl _⟩ (GQs.sub ⟨_, h2, by omega⟩ s) (by omega)
theorem GQs.set {n w w1 w2 : Nat} {x : LV} (hx : GQ L B n w1 x) : ∀ {xs : List LV} {i : Nat}, GQs L B n w xs → w + w1 ≤ w2 → GQs L B n w2 (xs.set i x)
  | [], _, h, e => h.le (Nat.le_refl _) (by omega)
  | y :: xs, 0, ⟨_, .cons (d := d) (ds := ds) h1 h2, hw⟩, e => by
    simp only [PyData.weightAll] at hw
    exact .cons hx (w2 := PyData.weightAll ds) ⟨_, h2, Nat.le_refl _⟩ (by omega)
  | y :: xs, i + 1, ⟨_, .cons (d := d) (ds := ds) h1 h2, hw⟩, e => by
    simp only [PyData.weightAll] at hw
    exact .cons (w1 := d.weight) (w2 := PyData.weightAll ds + w1) ⟨_, h1, Nat.le_refl _⟩ (GQs.set hx (w := PyData.weightAll ds) (i := i) ⟨_, h2, Nat.le_refl _⟩ (Nat.le_refl _)) (by omega)
theorem GQ.tupInv {n w : Nat} {xs : List LV} (h : GQ L B n w (.tup xs)) : xs.length ≤ 4000 ∧ GQs L B (n - 1) w xs := by
  obtain ⟨d, h1, h2⟩ := h
  cases h1 with
  | tup a b => exact ⟨b, _, a, by simpa only [PyData.weight] using h2⟩
theorem GQs.ints {n b : Nat} {xs : List Int} (h : ∀ x ∈ xs, x.natAbs.log2 < b) (hb : b + 1 ≤ B) (hb2 : b ≤ 1920) : GQs L B n ((b + 1) * xs.length) (iv xs) := by
  have e := GQs.all (L := L) (B := B) (n := n) (w := b) (xs := iv xs) fun x hx => by
    obtain ⟨i, hi, rfl⟩ := List.mem_map.mp hx
    exact .int (h i hi) hb hb2 (Nat.le_refl _)
  rw [iv_len] at e
  exact e
end
/-! kinds -/
def isInt : LV → Bool
  | .int _ => true
  | _ => false
def isBool : LV → Bool
  | .bl _ => true
  | _ => false
def isStr : LV → Bool
  | .str _ => true
  | _ => false
def isTup : LV → Bool
  | .tup _ => true
  | _ => false
theorem ty_kind {L : LH} {v : LV} {ts : List Ty} (h : tyOf L v = some ts) : decide (Ty.int ∈ ts) = (isInt v || isBool v) ∧ decide (Ty.bool ∈ ts) = isBool v ∧ decide (Ty.str ∈ ts) = isStr v ∧ decide (Ty.tuple ∈ ts) = isTup v := by
  cases v with
  | ref n =>
    unfold tyOf at h
    dsimp only at h
    split at h
    · cases h
      exact ⟨rfl, rfl, rfl, rfl⟩
    · cases h
      exact ⟨rfl, rfl, rfl, rfl⟩
    · cases h
  | _ =>
    cases h
    exact ⟨rfl, rfl, rfl, rfl⟩
theorem isi_i {L : LH} {v : LV} {Q : LV → LH → Prop} (h : okV L v) (q : Q (.bl (isInt v || isBool v)) L) : wp (isiV v .int) L Q := by
  obtain ⟨ts, e⟩ := h
  exact wp_isi e (by rw [(ty_kind e).1]; exact q)
theorem isi_b {L : LH} {v : LV} {Q : LV → LH → Prop} (h : okV L v) (q : Q (.bl (isBool v)) L) : wp (isiV v .bool) L Q := by
  obtain ⟨ts, e⟩ := h
  exact wp_isi e (by rw [(ty_kind e).2.1]; exact q)
theorem isi_s {L : LH} {v : LV} {Q : LV → LH → Prop} (h : okV L v) (q : Q (.bl (isStr v)) L) : wp (isiV v .str) L Q := by
  obtain ⟨ts, e⟩ := h
  exact wp_isi e (by rw [(ty_kind e).2.2.1]; exact q)
theorem isi_t {L : LH} {v : LV} {Q : LV → LH → Prop} (h : okV L v) (q : Q (.bl (isTup v)) L) : wp (isiV v .tuple) L Q := by
  obtain ⟨ts, e⟩ := h
  exact wp_isi e (by rw [(ty_kind e).2.2.2]; exact q)
theorem okV.grow {L L' : LH} {v : LV} (h : okV L v) (g : Grow L L') : okV L' v := by
  obtain ⟨ts, e⟩ := h
  cases v with
  | ref n =>
    unfold tyOf at e
    dsimp only at e
    cases e1 : L[n]? with
    | none => rw [e1] at e; cases e
    | some o =>
      refine ⟨ts, ?_⟩
      unfold tyOf
      dsimp only
      rw [grow_at g e1]
      rw [e1] at e
      exact e
  | _ => exact ⟨ts, e⟩
/-- an int between -/
def inB (a b : Int) : LV → Bool
  | .int i => decide (a ≤ i) && decide (i ≤ b)
  | _ => false
theorem len_tup {L : LH} {xs : List LV} : lenV L (.tup xs) = some xs.length := rfl
theorem intL_inB {a b : Int} : ∀ {xs : List LV}, xs.all (inB a b) = true → ∃ ns : List Int, xs = iv ns ∧ ∀ i ∈ ns, a ≤ i ∧ i ≤ b
  | [], _ => ⟨[], rfl, fun _ h => by cases h⟩
  | x :: xs, h => by
    rw [List.all_cons, Bool.and_eq_true] at h
    obtain ⟨ns, rfl, h2⟩ := intL_inB h.2
    cases x with
    | int i =>
      have h1 := h.1
      unfold inB at h1
      rw [Bool.and_eq_true, decide_eq_true_eq, decide_eq_true_eq] at h1
      refine ⟨i :: ns, rfl, fun j hj => ?_⟩
      rcases List.mem_cons.mp hj with rfl | hj
      · exact h1
      · exact h2 j hj
    | _ => exact absurd h.1 Bool.false_ne_true
end Mv

/-! Mv17: comprehensions that change nothing else; plain. -/
namespace Mv
open PySem
theorem compS {s : Src} {src : List LV} {turn : LV → M (Option LV)} {Q : LV → LH → Prop} {L : LH} (f : LV → Option LV) (hl : src.length ≤ 1000000) (hlen : s.len = src.length)
    (hat : ∀ i x ys, src[i]? = some x → s.at i (L ++ [.lst ys]) = some x) (hfin : ∀ ys, s.fin (L ++ [.lst ys]) = true)
    (step : ∀ x ∈ src, ∀ ys, wp (turn x) (L ++ [.lst ys]) fun r L2 => r = f x ∧ L2 = L ++ [.lst ys]) (fin : Q (.ref L.length) (L ++ [.lst (src.filterMap f)])) :
    wp (compK s turn (.ref L.length)) (L ++ [.lst []]) Q := by
  have h := wp_comp (s := s) (turn := turn) (Q := Q) (L := L) (fun i ys L' => ys = (src.take i).filterMap f ∧ L' = L ++ [.lst ys]) ⟨rfl, rfl⟩ ?_ ?_
  · rw [wp_bind, wp_new] at h
    exact h
  · rintro i ys L' hi eD ⟨e1, e2⟩
    subst e2
    rw [hlen] at hi
    have hx : src[i]? = some src[i] := List.getElem?_eq_getElem hi
    refine ⟨src[i], hat i _ _ hx, (step _ (List.getElem_mem hi) ys).imp fun r L2 ⟨z1, z2⟩ => ?_⟩
    subst z2
    subst z1
    refine ⟨eD, ?_⟩
    have ey : ys.length ≤ i := by
      rw [e1]
      exact Nat.le_trans (List.length_filterMap_le _ _) (by rw [List.length_take]; omega)
    have et : (src.take (i + 1)).filterMap f = ys ++ (match f src[i] with | none => [] | some y => [y]) := by
      rw [take_succ' hi, List.filterMap_append, ← e1]
      congr 1
      cases hf : f src[i] <;> simp [hf]
    cases hf : f src[i] with
    | none =>
      rw [hf] at et
      exact ⟨by rw [et]; simp, rfl⟩
    | some y =>
      rw [hf] at et
      refine ⟨Nat.lt_of_le_of_lt (show ys.length ≤ 1000000 by omega) (by decide), by rw [et], ?_⟩
      rw [List.set_append_right _ _ (Nat.le_refl _), Nat.sub_self]
      rfl
  · rintro ys L' eD ⟨e1, e2⟩
    subst e2
    have et : (src.take s.len).filterMap f = src.filterMap f := by rw [hlen, List.take_length]
    rw [et] at e1
    subst e1
    exact ⟨hfin _, fin⟩
/-- over a tuple, a range -/
theorem compF {src : List LV} {turn : LV → M (Option LV)} {Q : LV → LH → Prop} {L : LH} (f : LV → Option LV) (hl : src.length ≤ 1000000)
    (step : ∀ x ∈ src, ∀ ys, wp (turn x) (L ++ [.lst ys]) fun r L2 => r = f x ∧ L2 = L ++ [.lst ys]) (fin : Q (.ref L.length) (L ++ [.lst (src.filterMap f)])) :
    wp (compK (.fixed src) turn (.ref L.length)) (L ++ [.lst []]) Q :=
  compS f hl rfl (fun i x ys h => h) (fun _ => rfl) step fin
/-- over a list -/
theorem compL {n k : Nat} {src : List LV} {turn : LV → M (Option LV)} {Q : LV → LH → Prop} {L : LH} (f : LV → Option LV) (e : L[n]? = some (.lst src)) (hk : k = src.length) (hl : src.length ≤ 1000000)
    (step : ∀ x ∈ src, ∀ ys, wp (turn x) (L ++ [.lst ys]) fun r L2 => r = f x ∧ L2 = L ++ [.lst ys]) (fin : Q (.ref L.length) (L ++ [.lst (src.filterMap f)])) :
    wp (compK (.live n k) turn (.ref L.length)) (L ++ [.lst []]) Q := by
  have ea : ∀ ys, itemsL (L ++ [LO.lst ys]) (.ref n) = some src := fun ys => items_lst (by rw [List.getElem?_append_left (lt_of e)]; exact e)
  refine compS f hl hk (fun i x ys h => ?_) (fun ys => ?_) step fin
  · show (itemsL (L ++ [LO.lst ys]) (.ref n)).bind (fun xs => xs[i]?) = some x
    rw [ea]
    exact h
  · show (match itemsL (L ++ [LO.lst ys]) (.ref n) with
      | some xs => decide (xs.length ≤ k)
      | none => false) = true
    rw [ea]
    exact decide_eq_true (by omega)
end Mv

namespace K15
open PySem Mv
/-! ### numbers below a power of 2 -/
def Bt (m a : Nat) : Prop := 0 < a ∧ a < 2 ^ m
theorem Bt.le {m n a : Nat} (h : Bt m a) (e : m ≤ n) : Bt n a := ⟨h.1, Nat.lt_of_lt_of_le h.2 (Nat.pow_le_pow_right (by decide) e)⟩
theorem Bt.mul {m n a b : Nat} (h : Bt m a) (h' : Bt n b) : Bt (m + n) (a * b) := ⟨Nat.mul_pos h.1 h'.1, by rw [Nat.pow_add]; exact Nat.mul_lt_mul'' h.2 h'.2⟩
theorem Bt.of_le {m a b : Nat} (h : Bt m a) (hb : 0 < b) (e : b ≤ a) : Bt m b := ⟨hb, Nat.lt_of_le_of_lt e h.2⟩
theorem Bt.log {m a : Nat} (h : Bt m a) : a.log2 < m := (Nat.log2_lt (by have := h.1; omega)).mpr h.2
theorem Bt.lim {m a : Nat} (h : Bt m a) (e : m ≤ 12900) : ((a : Nat) : Int).natAbs < digLim := by
  have h1 : a < 2 ^ 12900 := (h.le e).2
  exact Nat.lt_of_lt_of_le h1 PyProof.Rows.pow_lo
theorem Bt.txt {m a : Nat} (h : Bt m a) : (Str.ofString (toString ((a : Nat) : Int))).length ≤ m + 1 := by
  rw [PySem.ofString_length]
  exact PySem.int_text_length_le (k := m) (by have := h.log; omega) h.log
theorem Bt.div {m a : Nat} (h : Bt m a) : divOk ((a : Nat) : Int) = true ∨ 9000 ≤ m := by
  by_cases e : m < 9000
  · exact .inl (decide_eq_true ⟨by have := h.1; omega, by have := h.log; show a.log2 < 9000; omega⟩)
  · exact .inr (by omega)
theorem Bt.divOk {m a : Nat} (h : Bt m a) (e : m < 9000) : Mv.divOk ((a : Nat) : Int) = true := h.div.elim id fun z => by omega
theorem Bt.mulOk {m n a b : Nat} (h : Bt m a) (h' : Bt n b) (e : m + n ≤ 1000000) : Mv.mulOk ((a : Nat) : Int) ((b : Nat) : Int) = true :=
  decide_eq_true (.inr (.inr (by have h1 := h.log; have h2 := h'.log; show a.log2 + b.log2 < 1000000; omega)))
theorem Bt.small {a n : Nat} (h : 0 < a) (e : a < n) (m : Nat) (he : n ≤ 2 ^ m) : Bt m a := ⟨h, Nat.lt_of_lt_of_le e he⟩

/-! ### lowest terms -/
theorem gcd_pos {a b : Nat} (h : 0 < a) : 0 < Nat.gcd a b := Nat.gcd_pos_of_pos_left _ h
theorem low_pos {a b : Nat} (ha : 0 < a) (hb : 0 < b) : 0 < a / Nat.gcd a b ∧ 0 < b / Nat.gcd a b :=
  ⟨Nat.div_pos (Nat.le_of_dvd ha (Nat.gcd_dvd_left a b)) (gcd_pos ha), Nat.div_pos (Nat.le_of_dvd hb (Nat.gcd_dvd_right a b)) (gcd_pos ha)⟩
theorem low_back {a b : Nat} : a / Nat.gcd a b * Nat.gcd a b = a ∧ b / Nat.gcd a b * Nat.gcd a b = b := ⟨Nat.div_mul_cancel (Nat.gcd_dvd_left a b), Nat.div_mul_cancel (Nat.gcd_dvd_right a b)⟩
theorem cop_eq {p q r s : Nat} (hp : Nat.Coprime p q) (hr : Nat.Coprime r s) (hq : 0 < q) (hs : 0 < s) (hpp : 0 < p) (h : p * s = r * q) : p = r ∧ q = s := by
  have d1 : p ∣ r := hp.dvd_of_dvd_mul_right (h ▸ Nat.dvd_mul_right p s)
  have d2 : r ∣ p := hr.dvd_of_dvd_mul_right (h ▸ Nat.dvd_mul_right r q)
  have e := Nat.dvd_antisymm d1 d2
  subst e
  exact ⟨rfl, (Nat.eq_of_mul_eq_mul_left hpp h).symm⟩
theorem low_cop {a b : Nat} (ha : 0 < a) : Nat.Coprime (a / Nat.gcd a b) (b / Nat.gcd a b) := Nat.coprime_div_gcd_div_gcd (gcd_pos ha)
theorem low_eq {a b c d : Nat} (ha : 0 < a) (hb : 0 < b) (hc : 0 < c) (hd : 0 < d) (h : a * d = c * b) : a / Nat.gcd a b = c / Nat.gcd c d ∧ b / Nat.gcd a b = d / Nat.gcd c d := by
  obtain ⟨e1, e2⟩ := low_back (a := a) (b := b)
  obtain ⟨e3, e4⟩ := low_back (a := c) (b := d)
  refine cop_eq (low_cop ha) (low_cop hc) (low_pos ha hb).2 (low_pos hc hd).2 (low_pos ha hb).1 ?_
  refine Nat.eq_of_mul_eq_mul_right (Nat.mul_pos (gcd_pos (b := b) ha) (gcd_pos (b := d) hc)) ?_
  calc a / Nat.gcd a b * (d / Nat.gcd c d) * (Nat.gcd a b * Nat.gcd c d) = (a / Nat.gcd a b * Nat.gcd a b) * (d / Nat.gcd c d * Nat.gcd c d) := Nat.mul_mul_mul_comm ..
    _ = (c / Nat.gcd c d * Nat.gcd c d) * (b / Nat.gcd a b * Nat.gcd a b) := by rw [e1, e2, e3, e4]; exact h
    _ = c / Nat.gcd c d * (b / Nat.gcd a b) * (Nat.gcd c d * Nat.gcd a b) := Nat.mul_mul_mul_comm ..
    _ = c / Nat.gcd c d * (b / Nat.gcd a b) * (Nat.gcd a b * Nat.gcd c d) := by rw [Nat.mul_comm (Nat.gcd c d)]
theorem low_inv {a b c d : Nat} (h1 : a / Nat.gcd a b = c / Nat.gcd c d) (h2 : b / Nat.gcd a b = d / Nat.gcd c d) : a * d = c * b := by
  obtain ⟨e1, e2⟩ := low_back (a := a) (b := b)
  obtain ⟨e3, e4⟩ := low_back (a := c) (b := d)
  calc a * d = (a / Nat.gcd a b * Nat.gcd a b) * (d / Nat.gcd c d * Nat.gcd c d) := by rw [e1, e4]
    _ = (c / Nat.gcd c d * Nat.gcd a b) * (b / Nat.gcd a b * Nat.gcd c d) := by rw [h1, h2]
    _ = (c / Nat.gcd c d * Nat.gcd c d) * (b / Nat.gcd a b * Nat.gcd a b) := by
      rw [Nat.mul_mul_mul_comm, Nat.mul_mul_mul_comm (c / Nat.gcd c d) (Nat.gcd c d), Nat.mul_comm (Nat.gcd a b)]
    _ = c * b := by rw [e3, e2]
/-! ### Euclid's turns -/
def meas (h r : Nat) : Nat := if r = 0 then 0 else 1 + h.log2 + r.log2 + (if h < r then 1 else 0)
theorem meas_lt {h r : Nat} (hh : 0 < h) (hr : 0 < r) : meas r (h % r) < meas h r := by
  unfold meas
  rw [if_neg (by omega : ¬ r = 0)]
  by_cases e : h % r = 0
  · rw [if_pos e]
    omega
  · rw [if_neg e, if_neg (by have := Nat.mod_lt h hr; omega)]
    by_cases hl : h < r
    · rw [if_pos hl, Nat.mod_eq_of_lt hl]
      omega
    · rw [if_neg hl]
      have h1 : h % r < r := Nat.mod_lt h hr
      have h2 : r + h % r ≤ h := by
        have := Nat.div_add_mod h r
        have h3 : 1 ≤ h / r := Nat.div_pos (by omega) hr
        have h4 : r * 1 ≤ r * (h / r) := Nat.mul_le_mul_left r h3
        omega
      have h3 : (h % r).log2 < h.log2 := by
        have h4 : 2 ^ ((h % r).log2 + 1) ≤ h := by
          have h5 := Nat.log2_self_le e
          rw [Nat.pow_succ]
          omega
        have h6 : (h % r).log2 + 1 ≤ h.log2 := (Nat.le_log2 (by omega)).mpr h4
        omega
      omega
theorem meas_le {m n a b : Nat} (ha : Bt m a) (hb : Bt n b) (e : m + n ≤ 100000) : meas a b ≤ 1000000000000 := by
  have h1 := ha.log
  have h2 := hb.log
  unfold meas
  split
  · omega
  · split <;> omega
theorem gcd_step (h r : Nat) : Nat.gcd r (h % r) = Nat.gcd h r := by
  rw [Nat.gcd_comm r, ← Nat.gcd_rec, Nat.gcd_comm]
end K15



namespace K15
open PySem Mv
/-! ### the deck: the great ones (the last one is drawn next), a mixed number -/
abbrev dk (a b : LV) : List (L2.Key × LV) := [(.inr "great", a), (.inr "mixed", b)]
structure Deck (d h : Nat) (L : LH) : Prop where
  ne : d ≠ h
  ex : ∃ (xs : List Int) (m : Int), xs.length ≤ 63 ∧ L[d]? = some (.dic (dk (.ref h) (.int m))) ∧ L[h]? = some (.lst (iv xs))
theorem Deck.grow {d h : Nat} {L L' : LH} (D : Deck d h L) (g : Grow L L') : Deck d h L' := by
  obtain ⟨E, rfl⟩ := g
  obtain ⟨n, xs, m, l, e1, e2⟩ := D
  exact ⟨n, xs, m, l, by rw [List.getElem?_append_left (lt_of e1)]; exact e1, by rw [List.getElem?_append_left (lt_of e2)]; exact e2⟩
theorem Deck.setO {d h i : Nat} {o : LO} {L : LH} (D : Deck d h L) (hi : i ≠ d ∧ i ≠ h) : Deck d h (L.set i o) := by
  obtain ⟨n, xs, m, l, e1, e2⟩ := D
  exact ⟨n, xs, m, l, by rw [List.getElem?_set_ne hi.1]; exact e1, by rw [List.getElem?_set_ne hi.2]; exact e2⟩
theorem Deck.lt {d h : Nat} {L : LH} (D : Deck d h L) : d < L.length ∧ h < L.length := by
  obtain ⟨_, _, _, _, e1, e2⟩ := D
  exact ⟨lt_of e1, lt_of e2⟩
theorem k1 : ((Sum.inr (Str.ofString "great") : L2.Key) = Sum.inr (Str.ofString "mixed")) ↔ False := iff_false_intro (by decide +kernel)
theorem dv_great {a b : LV} : dval (dk a b) (.inr "great") = some a := by simp only [dval, List.find?, decide_true, Option.map]
theorem dv_mixed {a b : LV} : dval (dk a b) (.inr "mixed") = some b := by simp only [dval, List.find?, k1, decide_false, decide_true, Option.map]
theorem dp_mixed {a b v : LV} : dput (dk a b) (.inr "mixed") v = dk a v := by
  simp only [dput, List.any, k1, decide_false, decide_true, Bool.false_or, Bool.or_false, Bool.or_true, if_true, List.map, if_false]
def drawTail : List IS := f_l_draw.body.drop 1
theorem draw_tail {R : Cal} {L : LH} {d h : Nat} {n : Nat} {m : Int} {x : Option LV} {Q : LV → LH → Prop} (hn : 0 < n) (e : L[d]? = some (.dic (dk (.ref h) (.int m))))
    (q : ∀ (z : Nat) (m' : Int), z < n → Q (.int z) (L.set d (.dic (dk (.ref h) (.int m'))))) :
    wp (evB R drawTail [some (.ref d), some (.int n), x]) L fun a L1 => wp (retK a) L1 Q := by
  have hs1 : ∀ o, (L.set d o)[d]? = some o := fun o => List.getElem?_set_self (lt_of e)
  simp only [drawTail, f_l_draw, List.drop_succ_cons, List.drop_zero, e, hs1, dv_mixed, dp_mixed, wp_bind, wp_ret, wp_chk, wp_ofO, wp_look, wp_new, wp_setO, wp_br, v_var, v_lit, v_glo, v_bin, v_neg, v_cmp, v_cmp2, v_and, v_or, v_not, v_ife, v_tup, v_lst, v_dct0, v_dct, v_ix, v_slc, v_rev, v_bi, v_isi, v_mth, v_lset, v_rgl1, v_rgl2, v_inr, v_call, v_comp, vs_nil, vs_cons, vo_none, vo_some, vc_none, vc_some, vi_val, vi_rng1, vi_rng2, vi_rng3, vi_zip, vi_enm, vt_tup, vt_sub, vts_nil, vts_cons, x_asg, x_par, x_aug, x_exp, x_ret, x_retN, x_ifs, x_for, x_whl, x_brk, x_cnt, x_pss, b_nil', b_cons', sq_nx, sq_rt, sq_bk, sq_ct, gv_0, gv_S, wt_0, wt_S, o_add, o_sub, o_mul, o_fdiv, o_mod, o_pow, o_addT, o_mulT, c_lt, c_le, c_gt, c_ge, wp_eq_int, wp_ne_int, n_bl, n_int, bi_int, bi_len, bi_tuple, bi_list, it_tup, r_tup, r_ref, ix_tup, wp_ix_ref, ixR_lst, ixR_dic, wp_set_ref, setR_dic, sl_tup, sl_ref, pk_int, rg1_int, rg2_int, inr_int, r1_int, r2_int, r3_int, ck_bl, rk_rt, rk_nx, wp_mth, m_append, m_pop, m_count, v_fld, v_prp, v_omt, v_mk, v_calD, v_obi, v_oeq, v_ost, v_oln, v_iso, v_fst, vf_nil, vf_cons, vt_fld, wp_fld, fldR_ins, wp_fset, fsetR_ins, fmt_str, fmt_int, eq_bl, bi_strB, bi_reprB, Option.some.injEq, exists_eq_left', setAll, List.length_cons, List.length_nil, List.set_cons_succ, List.set_cons_zero, List.length_set, Nat.reduceAdd, Nat.reduceLT, if_true, Nat.zero_add]
  refine ⟨mulOk_r (by decide), by decide, by decide, by decide, decide_eq_true (by omega), ?_⟩
  have fin : ∀ X Y : Int, Q (.int (X % (n : Int))) (L.set d (.dic (dk (.ref h) (.int Y)))) := fun X Y => by
    have h0 := Int.emod_nonneg X (b := (n : Int)) (by omega)
    have h1 := Int.emod_lt_of_pos X (b := (n : Int)) (by omega)
    have z := q (X % (n : Int)).toNat Y (by omega)
    rw [Int.toNat_of_nonneg h0] at z
    exact z
  exact fin _ _
theorem draw_ok {k d h : Nat} {n : Nat} {L : LH} {Q : LV → LH → Prop} (D : Deck d h L) (hn : 0 < n) (hn2 : divOk (n : Int) = true) (q : ∀ (z : Nat) (L' : LH), z < n → Deck d h L' → Fr d h L L' → Q (.int z) L') : wp (run prog (k + 1) 8 [.ref d, .int n]) L Q := by
  obtain ⟨ne, xs, m, lx, e1, e2⟩ := D
  have l1 := lt_of e1
  have l2 := lt_of e2
  show wp (callFn (run prog k) f_l_draw [.ref d, .int n]) L Q
  rw [call_eq, wp_chk]
  refine ⟨rfl, ?_⟩
  show wp (M.bind (evB _ (f_l_draw.body.take 1 ++ drawTail) [some (.ref d), some (.int n), none]) retK) L Q
  rw [b_app]
  have ha1 : ∀ x, (L ++ [x])[d]? = L[d]? := fun x => by rw [List.getElem?_append_left l1]
  have ha2 : ∀ x, (L ++ [x])[h]? = L[h]? := fun x => by rw [List.getElem?_append_left l2]
  have ha3 : ∀ x, (L ++ [x])[L.length]? = some x := fun x => by rw [List.getElem?_append_right (by simp)]; simp
  simp only [f_l_draw, List.take_succ_cons, List.take_zero, e1, dv_great, wp_bind, wp_ret, wp_chk, wp_ofO, wp_look, wp_new, wp_setO, wp_br, v_var, v_lit, v_glo, v_bin, v_neg, v_cmp, v_cmp2, v_and, v_or, v_not, v_ife, v_tup, v_lst, v_dct0, v_dct, v_ix, v_slc, v_rev, v_bi, v_isi, v_mth, v_lset, v_rgl1, v_rgl2, v_inr, v_call, v_comp, vs_nil, vs_cons, vo_none, vo_some, vc_none, vc_some, vi_val, vi_rng1, vi_rng2, vi_rng3, vi_zip, vi_enm, vt_tup, vt_sub, vts_nil, vts_cons, x_asg, x_par, x_aug, x_exp, x_ret, x_retN, x_ifs, x_for, x_whl, x_brk, x_cnt, x_pss, b_nil', b_cons', sq_nx, sq_rt, sq_bk, sq_ct, gv_0, gv_S, wt_0, wt_S, o_add, o_sub, o_mul, o_fdiv, o_mod, o_pow, o_addT, o_mulT, c_lt, c_le, c_gt, c_ge, wp_eq_int, wp_ne_int, n_bl, n_int, bi_int, bi_len, bi_tuple, bi_list, it_tup, r_tup, r_ref, ix_tup, wp_ix_ref, ixR_lst, ixR_dic, wp_set_ref, setR_dic, sl_tup, sl_ref, pk_int, rg1_int, rg2_int, inr_int, r1_int, r2_int, r3_int, ck_bl, rk_rt, rk_nx, wp_mth, m_append, m_pop, m_count, v_fld, v_prp, v_omt, v_mk, v_calD, v_obi, v_oeq, v_ost, v_oln, v_iso, v_fst, vf_nil, vf_cons, vt_fld, wp_fld, fldR_ins, wp_fset, fsetR_ins, fmt_str, fmt_int, eq_bl, bi_strB, bi_reprB, Option.some.injEq, exists_eq_left', setAll, List.length_cons, List.length_nil, List.set_cons_succ, List.set_cons_zero, List.length_set, Nat.reduceAdd, Nat.reduceLT, if_true, Nat.zero_add]
  refine ⟨by decide, wp_ne (eq_lst (ys := []) ((ha2 _).trans e2) (ha3 _)) rfl ?_⟩
  simp only [wp_bind, wp_ret, wp_chk, wp_ofO, wp_look, wp_new, wp_setO, wp_br, v_var, v_lit, v_glo, v_bin, v_neg, v_cmp, v_cmp2, v_and, v_or, v_not, v_ife, v_tup, v_lst, v_dct0, v_dct, v_ix, v_slc, v_rev, v_bi, v_isi, v_mth, v_lset, v_rgl1, v_rgl2, v_inr, v_call, v_comp, vs_nil, vs_cons, vo_none, vo_some, vc_none, vc_some, vi_val, vi_rng1, vi_rng2, vi_rng3, vi_zip, vi_enm, vt_tup, vt_sub, vts_nil, vts_cons, x_asg, x_par, x_aug, x_exp, x_ret, x_retN, x_ifs, x_for, x_whl, x_brk, x_cnt, x_pss, b_nil', b_cons', sq_nx, sq_rt, sq_bk, sq_ct, gv_0, gv_S, wt_0, wt_S, o_add, o_sub, o_mul, o_fdiv, o_mod, o_pow, o_addT, o_mulT, c_lt, c_le, c_gt, c_ge, wp_eq_int, wp_ne_int, n_bl, n_int, bi_int, bi_len, bi_tuple, bi_list, it_tup, r_tup, r_ref, ix_tup, wp_ix_ref, ixR_lst, ixR_dic, wp_set_ref, setR_dic, sl_tup, sl_ref, pk_int, rg1_int, rg2_int, inr_int, r1_int, r2_int, r3_int, ck_bl, rk_rt, rk_nx, wp_mth, m_append, m_pop, m_count, v_fld, v_prp, v_omt, v_mk, v_calD, v_obi, v_oeq, v_ost, v_oln, v_iso, v_fst, vf_nil, vf_cons, vt_fld, wp_fld, fldR_ins, wp_fset, fsetR_ins, fmt_str, fmt_int, eq_bl, bi_strB, bi_reprB, Option.some.injEq, exists_eq_left', setAll, List.length_cons, List.length_nil, List.set_cons_succ, List.set_cons_zero, List.length_set, Nat.reduceAdd, Nat.reduceLT, if_true, Nat.zero_add]
  have mk : ∀ z : Int, 0 ≤ z % (n : Int) ∧ z % (n : Int) < n := fun z => ⟨Int.emod_nonneg _ (by omega), Int.emod_lt_of_pos _ (by omega)⟩
  constructor
  · intro c
    simp only [ha1, ha2, e1, e2, dv_great, wp_bind, wp_ret, wp_chk, wp_ofO, wp_look, wp_new, wp_setO, wp_br, v_var, v_lit, v_glo, v_bin, v_neg, v_cmp, v_cmp2, v_and, v_or, v_not, v_ife, v_tup, v_lst, v_dct0, v_dct, v_ix, v_slc, v_rev, v_bi, v_isi, v_mth, v_lset, v_rgl1, v_rgl2, v_inr, v_call, v_comp, vs_nil, vs_cons, vo_none, vo_some, vc_none, vc_some, vi_val, vi_rng1, vi_rng2, vi_rng3, vi_zip, vi_enm, vt_tup, vt_sub, vts_nil, vts_cons, x_asg, x_par, x_aug, x_exp, x_ret, x_retN, x_ifs, x_for, x_whl, x_brk, x_cnt, x_pss, b_nil', b_cons', sq_nx, sq_rt, sq_bk, sq_ct, gv_0, gv_S, wt_0, wt_S, o_add, o_sub, o_mul, o_fdiv, o_mod, o_pow, o_addT, o_mulT, c_lt, c_le, c_gt, c_ge, wp_eq_int, wp_ne_int, n_bl, n_int, bi_int, bi_len, bi_tuple, bi_list, it_tup, r_tup, r_ref, ix_tup, wp_ix_ref, ixR_lst, ixR_dic, wp_set_ref, setR_dic, sl_tup, sl_ref, pk_int, rg1_int, rg2_int, inr_int, r1_int, r2_int, r3_int, ck_bl, rk_rt, rk_nx, wp_mth, m_append, m_pop, m_count, v_fld, v_prp, v_omt, v_mk, v_calD, v_obi, v_oeq, v_ost, v_oln, v_iso, v_fst, vf_nil, vf_cons, vt_fld, wp_fld, fldR_ins, wp_fset, fsetR_ins, fmt_str, fmt_int, eq_bl, bi_strB, bi_reprB, Option.some.injEq, exists_eq_left', setAll, List.length_cons, List.length_nil, List.set_cons_succ, List.set_cons_zero, List.length_set, Nat.reduceAdd, Nat.reduceLT, if_true, Nat.zero_add]
    have c : xs ≠ [] := by simpa using c
    obtain ⟨ys, z, rfl⟩ : ∃ ys z, xs = ys ++ [z] := ⟨xs.dropLast, xs.getLast c, (List.dropLast_concat_getLast c).symm⟩
    have e3 : iv (ys ++ [z]) = iv ys ++ [.int z] := by simp [iv]
    have ly : ys.length ≤ 62 := by rw [List.length_append] at lx; simpa using lx
    refine ⟨(), by simp only [lstAt, ha2, e2], .int z, by rw [e3]; simp, ?_⟩
    have hq1 : ∀ x p, ((L ++ [x]).set h p)[d]? = L[d]? := fun x p => by rw [List.getElem?_set_ne (Ne.symm ne), ha1]
    have hq2 : ∀ x p, ((L ++ [x]).set h p)[h]? = some p := fun x p => List.getElem?_set_self (by simp; omega)
    have hq3 : ∀ x p r, (((L ++ [x]).set h p).set h r)[d]? = L[d]? := fun x p r => by rw [List.getElem?_set_ne (Ne.symm ne), hq1]
    have hq4 : ∀ x p r, (((L ++ [x]).set h p).set h r)[h]? = some r := fun x p r => List.getElem?_set_self (by simp; omega)
    have e4 : (iv (ys ++ [z])).dropLast = iv ys := by rw [e3, List.dropLast_concat]
    simp only [e4, wp_bind, wp_ret, wp_chk, wp_ofO, wp_look, wp_new, wp_setO, wp_br, v_var, v_lit, v_glo, v_bin, v_neg, v_cmp, v_cmp2, v_and, v_or, v_not, v_ife, v_tup, v_lst, v_dct0, v_dct, v_ix, v_slc, v_rev, v_bi, v_isi, v_mth, v_lset, v_rgl1, v_rgl2, v_inr, v_call, v_comp, vs_nil, vs_cons, vo_none, vo_some, vc_none, vc_some, vi_val, vi_rng1, vi_rng2, vi_rng3, vi_zip, vi_enm, vt_tup, vt_sub, vts_nil, vts_cons, x_asg, x_par, x_aug, x_exp, x_ret, x_retN, x_ifs, x_for, x_whl, x_brk, x_cnt, x_pss, b_nil', b_cons', sq_nx, sq_rt, sq_bk, sq_ct, gv_0, gv_S, wt_0, wt_S, o_add, o_sub, o_mul, o_fdiv, o_mod, o_pow, o_addT, o_mulT, c_lt, c_le, c_gt, c_ge, wp_eq_int, wp_ne_int, n_bl, n_int, bi_int, bi_len, bi_tuple, bi_list, it_tup, r_tup, r_ref, ix_tup, wp_ix_ref, ixR_lst, ixR_dic, wp_set_ref, setR_dic, sl_tup, sl_ref, pk_int, rg1_int, rg2_int, inr_int, r1_int, r2_int, r3_int, ck_bl, rk_rt, rk_nx, wp_mth, m_append, m_pop, m_count, v_fld, v_prp, v_omt, v_mk, v_calD, v_obi, v_oeq, v_ost, v_oln, v_iso, v_fst, vf_nil, vf_cons, vt_fld, wp_fld, fldR_ins, wp_fset, fsetR_ins, fmt_str, fmt_int, eq_bl, bi_strB, bi_reprB, Option.some.injEq, exists_eq_left', setAll, List.length_cons, List.length_nil, List.set_cons_succ, List.set_cons_zero, List.length_set, Nat.reduceAdd, Nat.reduceLT, if_true, Nat.zero_add]
    obtain ⟨m0, m1⟩ := mk z
    constructor
    · intro c
      simp only [hq1, hq2, e1, dv_great, wp_bind, wp_ret, wp_chk, wp_ofO, wp_look, wp_new, wp_setO, wp_br, v_var, v_lit, v_glo, v_bin, v_neg, v_cmp, v_cmp2, v_and, v_or, v_not, v_ife, v_tup, v_lst, v_dct0, v_dct, v_ix, v_slc, v_rev, v_bi, v_isi, v_mth, v_lset, v_rgl1, v_rgl2, v_inr, v_call, v_comp, vs_nil, vs_cons, vo_none, vo_some, vc_none, vc_some, vi_val, vi_rng1, vi_rng2, vi_rng3, vi_zip, vi_enm, vt_tup, vt_sub, vts_nil, vts_cons, x_asg, x_par, x_aug, x_exp, x_ret, x_retN, x_ifs, x_for, x_whl, x_brk, x_cnt, x_pss, b_nil', b_cons', sq_nx, sq_rt, sq_bk, sq_ct, gv_0, gv_S, wt_0, wt_S, o_add, o_sub, o_mul, o_fdiv, o_mod, o_pow, o_addT, o_mulT, c_lt, c_le, c_gt, c_ge, wp_eq_int, wp_ne_int, n_bl, n_int, bi_int, bi_len, bi_tuple, bi_list, it_tup, r_tup, r_ref, ix_tup, wp_ix_ref, ixR_lst, ixR_dic, wp_set_ref, setR_dic, sl_tup, sl_ref, pk_int, rg1_int, rg2_int, inr_int, r1_int, r2_int, r3_int, ck_bl, rk_rt, rk_nx, wp_mth, m_append, m_pop, m_count, v_fld, v_prp, v_omt, v_mk, v_calD, v_obi, v_oeq, v_ost, v_oln, v_iso, v_fst, vf_nil, vf_cons, vt_fld, wp_fld, fldR_ins, wp_fset, fsetR_ins, fmt_str, fmt_int, eq_bl, bi_strB, bi_reprB, Option.some.injEq, exists_eq_left', setAll, List.length_cons, List.length_nil, List.set_cons_succ, List.set_cons_zero, List.length_set, Nat.reduceAdd, Nat.reduceLT, if_true, Nat.zero_add]
      refine ⟨(), by simp only [lstAt, hq2], hn2, ?_, decide_eq_true (by omega), ?_⟩
      · rw [iv_len]
        exact decide_eq_true (Nat.lt_of_le_of_lt ly (by decide))
      · have w := q (z % (n : Int)).toNat (((L ++ [LO.lst []]).set h (.lst (iv ys))).set h (.lst (iv ys ++ [.int (z / (n : Int))]))) (by omega) ⟨ne, ys ++ [z / (n : Int)], m, by rw [List.length_append]; simpa using ly, by rw [hq3, e1], by rw [hq4]; simp [iv]⟩
          (((Fr.grow ⟨_, rfl⟩).trans Fr.setH).trans Fr.setH)
        rw [Int.toNat_of_nonneg m0] at w
        exact w
    · intro c
      refine ⟨decide_eq_true (by omega), ?_⟩
      have w := q (z % (n : Int)).toNat ((L ++ [LO.lst []]).set h (.lst (iv ys))) (by omega) ⟨ne, ys, m, by omega, by rw [hq1, e1], by rw [hq2]⟩ ((Fr.grow ⟨_, rfl⟩).trans Fr.setH)
      rw [Int.toNat_of_nonneg m0] at w
      exact w
  · intro c
    refine draw_tail hn ((ha1 _).trans e1) fun z m' z1 => q z _ z1 ⟨ne, xs, m', lx, ?_, ?_⟩ ?_
    · exact List.getElem?_set_self (by simp; omega)
    · rw [List.getElem?_set_ne ne, ha2, e2]
    · exact (Fr.grow ⟨_, rfl⟩).trans Fr.setD
def greatF (v : LV) : Option LV := match v with
  | .int i => if 10 ^ 18 ≤ i then some v else none
  | _ => none
theorem great_iv : ∀ xs : List Int, (iv xs).filterMap greatF = iv (xs.filter fun i => decide (10 ^ 18 ≤ i))
  | [] => rfl
  | x :: xs => by
    have ih := great_iv xs
    show (LV.int x :: iv xs).filterMap greatF = _
    rw [List.filterMap_cons, List.filter_cons]
    by_cases h : (10 : Int) ^ 18 ≤ x
    · have e : greatF (.int x) = some (.int x) := if_pos h
      rw [e, ih, decide_eq_true h, if_pos rfl]
      rfl
    · have e : greatF (.int x) = none := if_neg h
      rw [e, ih, decide_eq_false h, if_neg Bool.false_ne_true]
theorem deck_ok {k : Nat} {ns : List Int} {Q : LV → LH → Prop} (hl : ns.length ≤ 63) (q : ∀ L', Deck 2 5 L' → Q (.ref 2) L') : wp (run prog (k + 1) 7 [.ref 0]) [.frz ns] Q := by
  show wp (callFn (run prog k) f_l_deck [.ref 0]) [.frz ns] Q
  rw [call_eq, wp_chk]
  refine ⟨rfl, ?_⟩
  show wp (M.bind (evB _ _ [some (.ref 0), none, none]) retK) [.frz ns] Q
  simp only [f_l_deck, itemsL, Mv.items, List.getElem?_cons_zero, List.getElem?_cons_succ, List.cons_append, List.nil_append, wp_bind, wp_ret, wp_chk, wp_ofO, wp_look, wp_new, wp_setO, wp_br, v_var, v_lit, v_glo, v_bin, v_neg, v_cmp, v_cmp2, v_and, v_or, v_not, v_ife, v_tup, v_lst, v_dct0, v_dct, v_ix, v_slc, v_rev, v_bi, v_isi, v_mth, v_lset, v_rgl1, v_rgl2, v_inr, v_call, v_comp, vs_nil, vs_cons, vo_none, vo_some, vc_none, vc_some, vi_val, vi_rng1, vi_rng2, vi_rng3, vi_zip, vi_enm, vt_tup, vt_sub, vts_nil, vts_cons, x_asg, x_par, x_aug, x_exp, x_ret, x_retN, x_ifs, x_for, x_whl, x_brk, x_cnt, x_pss, b_nil', b_cons', sq_nx, sq_rt, sq_bk, sq_ct, gv_0, gv_S, wt_0, wt_S, o_add, o_sub, o_mul, o_fdiv, o_mod, o_pow, o_addT, o_mulT, c_lt, c_le, c_gt, c_ge, wp_eq_int, wp_ne_int, n_bl, n_int, bi_int, bi_len, bi_tuple, bi_list, it_tup, r_tup, r_ref, ix_tup, wp_ix_ref, ixR_lst, ixR_dic, wp_set_ref, setR_dic, sl_tup, sl_ref, pk_int, rg1_int, rg2_int, inr_int, r1_int, r2_int, r3_int, ck_bl, rk_rt, rk_nx, wp_mth, m_append, m_pop, m_count, v_fld, v_prp, v_omt, v_mk, v_calD, v_obi, v_oeq, v_ost, v_oln, v_iso, v_fst, vf_nil, vf_cons, vt_fld, wp_fld, fldR_ins, wp_fset, fsetR_ins, fmt_str, fmt_int, eq_bl, bi_strB, bi_reprB, Option.some.injEq, exists_eq_left', setAll, List.length_cons, List.length_nil, List.set_cons_succ, List.set_cons_zero, List.length_set, Nat.reduceAdd, Nat.reduceLT, if_true, Nat.zero_add]
  have ec : cut (List.map LV.int ns) none (some 63) = iv ns := by
    have z := cut_hi (xs := ns) (c := 63) (by decide)
    rw [show Int.toNat 63 = 63 from rfl, List.take_of_length_le hl] at z
    exact z
  rw [ec]
  refine it_ref rfl ?_
  refine wp_for (fun i σ L' => (∃ m d, σ = [some (.ref 0), some (.int m), d]) ∧ L' = [LO.frz ns, LO.lst (iv ns)]) ⟨⟨_, _, rfl⟩, rfl⟩ ?_ ?_
  · rintro i σ L' hi ⟨⟨m, d, rfl⟩, rfl⟩
    have hi : i < ns.length := by simpa [Src.len, iv_len] using hi
    refine ⟨.int ns[i], iv_get hi, ?_⟩
    simp only [wp_bind, wp_ret, wp_chk, wp_ofO, wp_look, wp_new, wp_setO, wp_br, v_var, v_lit, v_glo, v_bin, v_neg, v_cmp, v_cmp2, v_and, v_or, v_not, v_ife, v_tup, v_lst, v_dct0, v_dct, v_ix, v_slc, v_rev, v_bi, v_isi, v_mth, v_lset, v_rgl1, v_rgl2, v_inr, v_call, v_comp, vs_nil, vs_cons, vo_none, vo_some, vc_none, vc_some, vi_val, vi_rng1, vi_rng2, vi_rng3, vi_zip, vi_enm, vt_tup, vt_sub, vts_nil, vts_cons, x_asg, x_par, x_aug, x_exp, x_ret, x_retN, x_ifs, x_for, x_whl, x_brk, x_cnt, x_pss, b_nil', b_cons', sq_nx, sq_rt, sq_bk, sq_ct, gv_0, gv_S, wt_0, wt_S, o_add, o_sub, o_mul, o_fdiv, o_mod, o_pow, o_addT, o_mulT, c_lt, c_le, c_gt, c_ge, wp_eq_int, wp_ne_int, n_bl, n_int, bi_int, bi_len, bi_tuple, bi_list, it_tup, r_tup, r_ref, ix_tup, wp_ix_ref, ixR_lst, ixR_dic, wp_set_ref, setR_dic, sl_tup, sl_ref, pk_int, rg1_int, rg2_int, inr_int, r1_int, r2_int, r3_int, ck_bl, rk_rt, rk_nx, wp_mth, m_append, m_pop, m_count, v_fld, v_prp, v_omt, v_mk, v_calD, v_obi, v_oeq, v_ost, v_oln, v_iso, v_fst, vf_nil, vf_cons, vt_fld, wp_fld, fldR_ins, wp_fset, fsetR_ins, fmt_str, fmt_int, eq_bl, bi_strB, bi_reprB, Option.some.injEq, exists_eq_left', setAll, List.length_cons, List.length_nil, List.set_cons_succ, List.set_cons_zero, List.length_set, Nat.reduceAdd, Nat.reduceLT, if_true, Nat.zero_add]
    exact ⟨mulOk_r (by decide), by decide, by decide, ⟨_, _, rfl⟩, rfl⟩
  · rintro σ L' ⟨⟨m, d, rfl⟩, rfl⟩
    refine ⟨by simp [Src.fin, itemsL, iv_len], ?_⟩
    simp only [itemsL, Mv.items, List.getElem?_cons_zero, List.getElem?_cons_succ, List.cons_append, List.nil_append, wp_bind, wp_ret, wp_chk, wp_ofO, wp_look, wp_new, wp_setO, wp_br, v_var, v_lit, v_glo, v_bin, v_neg, v_cmp, v_cmp2, v_and, v_or, v_not, v_ife, v_tup, v_lst, v_dct0, v_dct, v_ix, v_slc, v_rev, v_bi, v_isi, v_mth, v_lset, v_rgl1, v_rgl2, v_inr, v_call, v_comp, vs_nil, vs_cons, vo_none, vo_some, vc_none, vc_some, vi_val, vi_rng1, vi_rng2, vi_rng3, vi_zip, vi_enm, vt_tup, vt_sub, vts_nil, vts_cons, x_asg, x_par, x_aug, x_exp, x_ret, x_retN, x_ifs, x_for, x_whl, x_brk, x_cnt, x_pss, b_nil', b_cons', sq_nx, sq_rt, sq_bk, sq_ct, gv_0, gv_S, wt_0, wt_S, o_add, o_sub, o_mul, o_fdiv, o_mod, o_pow, o_addT, o_mulT, c_lt, c_le, c_gt, c_ge, wp_eq_int, wp_ne_int, n_bl, n_int, bi_int, bi_len, bi_tuple, bi_list, it_tup, r_tup, r_ref, ix_tup, wp_ix_ref, ixR_lst, ixR_dic, wp_set_ref, setR_dic, sl_tup, sl_ref, pk_int, rg1_int, rg2_int, inr_int, r1_int, r2_int, r3_int, ck_bl, rk_rt, rk_nx, wp_mth, m_append, m_pop, m_count, v_fld, v_prp, v_omt, v_mk, v_calD, v_obi, v_oeq, v_ost, v_oln, v_iso, v_fst, vf_nil, vf_cons, vt_fld, wp_fld, fldR_ins, wp_fset, fsetR_ins, fmt_str, fmt_int, eq_bl, bi_strB, bi_reprB, Option.some.injEq, exists_eq_left', setAll, List.length_cons, List.length_nil, List.set_cons_succ, List.set_cons_zero, List.length_set, Nat.reduceAdd, Nat.reduceLT, if_true, Nat.zero_add]
    rw [ec]
    refine it_ref rfl ?_
    refine compL (L := [LO.frz ns, LO.lst (iv ns), LO.dic [], LO.lst (iv ns)]) (src := iv ns) greatF rfl (by rfl) (by rw [iv_len]; omega) ?_ ?_
    · intro x hx ys
      obtain ⟨i, hi, rfl⟩ := List.mem_map.mp hx
      simp only [turnC, wipeL, wp_bind, wp_ret, wp_chk, wp_ofO, wp_look, wp_new, wp_setO, wp_br, v_var, v_lit, v_glo, v_bin, v_neg, v_cmp, v_cmp2, v_and, v_or, v_not, v_ife, v_tup, v_lst, v_dct0, v_dct, v_ix, v_slc, v_rev, v_bi, v_isi, v_mth, v_lset, v_rgl1, v_rgl2, v_inr, v_call, v_comp, vs_nil, vs_cons, vo_none, vo_some, vc_none, vc_some, vi_val, vi_rng1, vi_rng2, vi_rng3, vi_zip, vi_enm, vt_tup, vt_sub, vts_nil, vts_cons, x_asg, x_par, x_aug, x_exp, x_ret, x_retN, x_ifs, x_for, x_whl, x_brk, x_cnt, x_pss, b_nil', b_cons', sq_nx, sq_rt, sq_bk, sq_ct, gv_0, gv_S, wt_0, wt_S, o_add, o_sub, o_mul, o_fdiv, o_mod, o_pow, o_addT, o_mulT, c_lt, c_le, c_gt, c_ge, wp_eq_int, wp_ne_int, n_bl, n_int, bi_int, bi_len, bi_tuple, bi_list, it_tup, r_tup, r_ref, ix_tup, wp_ix_ref, ixR_lst, ixR_dic, wp_set_ref, setR_dic, sl_tup, sl_ref, pk_int, rg1_int, rg2_int, inr_int, r1_int, r2_int, r3_int, ck_bl, rk_rt, rk_nx, wp_mth, m_append, m_pop, m_count, v_fld, v_prp, v_omt, v_mk, v_calD, v_obi, v_oeq, v_ost, v_oln, v_iso, v_fst, vf_nil, vf_cons, vt_fld, wp_fld, fldR_ins, wp_fset, fsetR_ins, fmt_str, fmt_int, eq_bl, bi_strB, bi_reprB, Option.some.injEq, exists_eq_left', setAll, List.length_cons, List.length_nil, List.set_cons_succ, List.set_cons_zero, List.length_set, Nat.reduceAdd, Nat.reduceLT, if_true, Nat.zero_add]
      refine ⟨by decide, ?_⟩
      show wp (if decide ((10 : Int) ^ 18 ≤ i) = true then M.ret (some (LV.int i)) else M.ret none) _ _
      rw [wp_if, wp_ret, wp_ret]
      refine ⟨fun c => ⟨?_, rfl⟩, fun c => ⟨?_, rfl⟩⟩
      · exact (if_pos (of_decide_eq_true c)).symm
      · exact (if_neg (of_decide_eq_false c)).symm
    · simp only [itemsL, Mv.items, List.length_cons, List.length_nil, List.getElem?_cons_zero, List.getElem?_cons_succ, List.cons_append, List.nil_append, wp_bind, wp_ret, wp_chk, wp_ofO, wp_look, wp_new, wp_setO, wp_br, v_var, v_lit, v_glo, v_bin, v_neg, v_cmp, v_cmp2, v_and, v_or, v_not, v_ife, v_tup, v_lst, v_dct0, v_dct, v_ix, v_slc, v_rev, v_bi, v_isi, v_mth, v_lset, v_rgl1, v_rgl2, v_inr, v_call, v_comp, vs_nil, vs_cons, vo_none, vo_some, vc_none, vc_some, vi_val, vi_rng1, vi_rng2, vi_rng3, vi_zip, vi_enm, vt_tup, vt_sub, vts_nil, vts_cons, x_asg, x_par, x_aug, x_exp, x_ret, x_retN, x_ifs, x_for, x_whl, x_brk, x_cnt, x_pss, b_nil', b_cons', sq_nx, sq_rt, sq_bk, sq_ct, gv_0, gv_S, wt_0, wt_S, o_add, o_sub, o_mul, o_fdiv, o_mod, o_pow, o_addT, o_mulT, c_lt, c_le, c_gt, c_ge, wp_eq_int, wp_ne_int, n_bl, n_int, bi_int, bi_len, bi_tuple, bi_list, it_tup, r_tup, r_ref, ix_tup, wp_ix_ref, ixR_lst, ixR_dic, wp_set_ref, setR_dic, sl_tup, sl_ref, pk_int, rg1_int, rg2_int, inr_int, r1_int, r2_int, r3_int, ck_bl, rk_rt, rk_nx, wp_mth, m_append, m_pop, m_count, v_fld, v_prp, v_omt, v_mk, v_calD, v_obi, v_oeq, v_ost, v_oln, v_iso, v_fst, vf_nil, vf_cons, vt_fld, wp_fld, fldR_ins, wp_fset, fsetR_ins, fmt_str, fmt_int, eq_bl, bi_strB, bi_reprB, Option.some.injEq, exists_eq_left', setAll, List.length_cons, List.length_nil, List.set_cons_succ, List.set_cons_zero, List.length_set, Nat.reduceAdd, Nat.reduceLT, if_true, Nat.zero_add]
      refine dct_ref rfl ?_
      refine q _ ⟨by decide, (ns.filter fun i => decide (10 ^ 18 ≤ i)).reverse, m, ?_, rfl, ?_⟩
      · rw [List.length_reverse]
        exact Nat.le_trans (List.length_filter_le _ _) hl
      · show some (LO.lst ((iv ns).filterMap greatF).reverse) = _
        rw [great_iv]
        simp [iv]
end K15



namespace K15
open PySem Mv
theorem pdiv_ok {k m n a b : Nat} {L : LH} {x y : Int} {Q : LV → LH → Prop} (ex : x = (a : Nat)) (ey : y = (b : Nat)) (ha : Bt m a) (hb : Bt n b) (e : m + n ≤ 100000) (q : Q (.int ((Nat.gcd a b : Nat) : Int)) L) :
    wp (run prog (k + 1) 0 [.int x, .int y]) L Q := by
  subst ex ey
  show wp (callFn (run prog k) f_greatest_divisor [.int a, .int b]) L Q
  rw [call_eq, wp_chk]
  refine ⟨rfl, ?_⟩
  show wp (M.bind (evB _ _ [some (.int a), some (.int b), none, none]) retK) L Q
  simp only [f_greatest_divisor, wp_bind, wp_ret, wp_chk, wp_ofO, wp_look, wp_new, wp_setO, wp_br, v_var, v_lit, v_glo, v_bin, v_neg, v_cmp, v_cmp2, v_and, v_or, v_not, v_ife, v_tup, v_lst, v_dct0, v_dct, v_ix, v_slc, v_rev, v_bi, v_isi, v_mth, v_lset, v_rgl1, v_rgl2, v_inr, v_call, v_comp, vs_nil, vs_cons, vo_none, vo_some, vc_none, vc_some, vi_val, vi_rng1, vi_rng2, vi_rng3, vi_zip, vi_enm, vt_tup, vt_sub, vts_nil, vts_cons, x_asg, x_par, x_aug, x_exp, x_ret, x_retN, x_ifs, x_for, x_whl, x_brk, x_cnt, x_pss, b_nil', b_cons', sq_nx, sq_rt, sq_bk, sq_ct, gv_0, gv_S, wt_0, wt_S, o_add, o_sub, o_mul, o_fdiv, o_mod, o_pow, o_addT, o_mulT, c_lt, c_le, c_gt, c_ge, wp_eq_int, wp_ne_int, n_bl, n_int, bi_int, bi_len, bi_tuple, bi_list, it_tup, r_tup, r_ref, ix_tup, wp_ix_ref, ixR_lst, ixR_dic, wp_set_ref, setR_dic, sl_tup, sl_ref, pk_int, rg1_int, rg2_int, inr_int, r1_int, r2_int, r3_int, ck_bl, rk_rt, rk_nx, wp_mth, m_append, m_pop, m_count, v_fld, v_prp, v_omt, v_mk, v_calD, v_obi, v_oeq, v_ost, v_oln, v_iso, v_fst, vf_nil, vf_cons, vt_fld, wp_fld, fldR_ins, wp_fset, fsetR_ins, fmt_str, fmt_int, eq_bl, bi_strB, bi_reprB, Option.some.injEq, exists_eq_left', setAll, List.length_cons, List.length_nil, List.set_cons_succ, List.set_cons_zero, List.length_set, Nat.reduceAdd, Nat.reduceLT, if_true, Nat.zero_add]
  refine wp_whl (fun m σ L' => ∃ h r : Nat, 0 < h ∧ σ = [some (.int a), some (.int b), some (.int h), some (.int r)] ∧ meas h r = m ∧ Nat.gcd h r = Nat.gcd a b ∧ L' = L) _ (meas_le ha hb e) ⟨a, b, ha.1, rfl, rfl, rfl, rfl⟩ ?_
  rintro m σ L' ⟨h, r, h0, rfl, rfl, hg, rfl⟩
  simp only [wp_bind, wp_ret, wp_chk, wp_ofO, wp_look, wp_new, wp_setO, wp_br, v_var, v_lit, v_glo, v_bin, v_neg, v_cmp, v_cmp2, v_and, v_or, v_not, v_ife, v_tup, v_lst, v_dct0, v_dct, v_ix, v_slc, v_rev, v_bi, v_isi, v_mth, v_lset, v_rgl1, v_rgl2, v_inr, v_call, v_comp, vs_nil, vs_cons, vo_none, vo_some, vc_none, vc_some, vi_val, vi_rng1, vi_rng2, vi_rng3, vi_zip, vi_enm, vt_tup, vt_sub, vts_nil, vts_cons, x_asg, x_par, x_aug, x_exp, x_ret, x_retN, x_ifs, x_for, x_whl, x_brk, x_cnt, x_pss, b_nil', b_cons', sq_nx, sq_rt, sq_bk, sq_ct, gv_0, gv_S, wt_0, wt_S, o_add, o_sub, o_mul, o_fdiv, o_mod, o_pow, o_addT, o_mulT, c_lt, c_le, c_gt, c_ge, wp_eq_int, wp_ne_int, n_bl, n_int, bi_int, bi_len, bi_tuple, bi_list, it_tup, r_tup, r_ref, ix_tup, wp_ix_ref, ixR_lst, ixR_dic, wp_set_ref, setR_dic, sl_tup, sl_ref, pk_int, rg1_int, rg2_int, inr_int, r1_int, r2_int, r3_int, ck_bl, rk_rt, rk_nx, wp_mth, m_append, m_pop, m_count, v_fld, v_prp, v_omt, v_mk, v_calD, v_obi, v_oeq, v_ost, v_oln, v_iso, v_fst, vf_nil, vf_cons, vt_fld, wp_fld, fldR_ins, wp_fset, fsetR_ins, fmt_str, fmt_int, eq_bl, bi_strB, bi_reprB, Option.some.injEq, exists_eq_left', setAll, List.length_cons, List.length_nil, List.set_cons_succ, List.set_cons_zero, List.length_set, Nat.reduceAdd, Nat.reduceLT, if_true, Nat.zero_add]
  refine ⟨_, rfl, ?_, ?_⟩
  · intro c
    have c : r = 0 := by simpa using c
    subst c
    rw [← hg, Nat.gcd_zero_right] at q
    exact q
  · intro c
    have c : 0 < r := by
      have : r ≠ 0 := by simpa using c
      omega
    refine ⟨decide_eq_true (by omega), ?_⟩
    refine ⟨_, meas_lt h0 c, r, h % r, c, ?_, rfl, by rw [gcd_step, hg], rfl⟩
    rw [Int.natCast_emod]
theorem draw_i {k d h : Nat} {L : LH} {x : Int} {Q : LV → LH → Prop} (n : Nat) (ex : x = (n : Nat)) (D : Deck d h L) (hn : 0 < n ∧ n ≤ 1000000000000) (q : ∀ (z : Nat) (L' : LH), z < n → Deck d h L' → Fr d h L L' → Q (.int z) L') : wp (run prog (k + 1) 8 [.ref d, .int x]) L Q := by
  subst ex
  exact draw_ok D hn.1 (divOk_w ⟨by omega, by omega⟩) q
theorem Bt.mulOk_s {m b : Nat} {i : Int} (h : Bt m b) (e : m ≤ 64) : Mv.mulOk i ((b : Nat) : Int) = true := by
  have h1 := (h.le e).2
  exact mulOk_r ⟨by omega, by omega⟩
/-! ### flows -/
abbrev Fw (p q : Nat) : LO := .ins "Flow" [("top", .int (p : Nat)), ("bottom", .int (q : Nat))]
abbrev low (a b : Nat) : LO := Fw (a / Nat.gcd a b) (b / Nat.gcd a b)
theorem low_of {a b c d : Nat} (ha : 0 < a) (hb : 0 < b) (hc : 0 < c) (hd : 0 < d) (h : a * d = c * b) : low a b = low c d := by
  obtain ⟨e1, e2⟩ := low_eq ha hb hc hd h
  rw [low, low, e1, e2]
theorem low_one {a : Nat} : low a 1 = Fw a 1 := by simp [low, Nat.gcd_one_right]
theorem kTB : ((Str.ofString "top" : Str) = Str.ofString "bottom") ↔ False := iff_false_intro (by decide +kernel)
theorem lk_top {a b : LV} : List.lookup (Str.ofString "top") [(Str.ofString "top", a), (Str.ofString "bottom", b)] = some a := by simp only [List.lookup, beq_self_eq_true]
theorem lk_bot {a b : LV} : List.lookup (Str.ofString "bottom") [(Str.ofString "top", a), (Str.ofString "bottom", b)] = some b := by
  have e : (Str.ofString "bottom" == Str.ofString "top") = false := by decide +kernel
  simp only [List.lookup, e, beq_self_eq_true]
theorem cF : List.contains [Str.ofString "Flow"] (Str.ofString "Flow") = true := by decide +kernel
theorem fp_top {a : LV} : fput (Str.ofString "top") a [] = [(Str.ofString "top", a)] := rfl
theorem fp_bot {a b : LV} : fput (Str.ofString "bottom") b [(Str.ofString "top", a)] = [(Str.ofString "top", a), (Str.ofString "bottom", b)] := by
  simp only [fput, kTB, if_false]
theorem lk_no {a b : LV} {m : Str} (h : (m == Str.ofString "top") = false ∧ (m == Str.ofString "bottom") = false) : List.lookup m [(Str.ofString "top", a), (Str.ofString "bottom", b)] = none := by
  simp only [List.lookup, h.1, h.2]
theorem lF {α : Type} {g : α} : List.lookup (Str.ofString "Flow") [(Str.ofString "Flow", g)] = some g := by simp only [List.lookup, beq_self_eq_true]
section
variable {L : LH} {i j p q r s : Nat}
theorem cl_ {m : Str} {g : Nat} (e : L[i]? = some (Fw p q)) (h : (m == Str.ofString "top") = false ∧ (m == Str.ofString "bottom") = false) : clsAt [(Str.ofString "Flow", g)] m L (.ref i) = some g := (cls_ins e (lk_no h)).trans lF
theorem cl_below {g : Nat} (e : L[i]? = some (Fw p q)) : clsAt [(Str.ofString "Flow", g)] (Str.ofString "is_below") L (.ref i) = some g := cl_ e ⟨by decide +kernel, by decide +kernel⟩
theorem cl_up {g : Nat} (e : L[i]? = some (Fw p q)) : clsAt [(Str.ofString "Flow", g)] (Str.ofString "up") L (.ref i) = some g := cl_ e ⟨by decide +kernel, by decide +kernel⟩
theorem cl_str {g : Nat} (e : L[i]? = some (Fw p q)) : clsAt [(Str.ofString "Flow", g)] (Str.ofString "__str__") L (.ref i) = some g := cl_ e ⟨by decide +kernel, by decide +kernel⟩
theorem op_mul {g : Nat} (e : L[i]? = some (Fw p q)) (e' : L[j]? = some (Fw r s)) : opAt [(Str.ofString "Flow", g)] (opName .mul) L (.ref i) (.ref j) = some g :=
  (op_ins e e' (lk_no ⟨by decide +kernel, by decide +kernel⟩)).trans lF
theorem eq_cls {g : Nat} {y : LV} (e : L[i]? = some (Fw p q)) (hy : yOk L (.ref i) y = true) : eqAt [(Str.ofString "Flow", g)] L (.ref i) y = some g :=
  (eq_ins e hy (lk_no ⟨by decide +kernel, by decide +kernel⟩)).trans lF
theorem yOk_Fw (e : L[i]? = some (Fw p q)) (e' : L[j]? = some (Fw r s)) : yOk L (.ref i) (.ref j) = true := by
  unfold yOk
  dsimp only
  rw [e']
  exact decide_eq_true (by rw [nm_ins e, nm_ins e'])
theorem at_new {o : LO} : (L ++ [o])[L.length]? = some o := by rw [List.getElem?_append_right (Nat.le_refl _)]; simp
theorem at_old {E : LH} {o : LO} (e : L[i]? = some o) : (L ++ E)[i]? = some o := by rw [List.getElem?_append_left (lt_of e)]; exact e
theorem set_new {o o' : LO} : (L ++ [o]).set L.length o' = L ++ [o'] := by simp
end
theorem bi_abs {i : Int} : biV .abs [.int i] = M.ret (.int (if i < 0 then -i else i)) := rfl
/-! ### a new flow -/
theorem init_ok {k m n a b i : Nat} {L : LH} {x y : Int} {Q : LV → LH → Prop} (ex : x = (a : Nat)) (ey : y = (b : Nat)) (ha : Bt m a) (hb : Bt n b) (e : m + n ≤ 100000) (hm : m < 9000) (hi : L[i]? = some (.ins (Str.ofString "Flow") [])) (q : Q .non (L.set i (low a b))) :
    wp (run prog (k + 2) 1 [.ref i, .int x, .int y]) L Q := by
  subst ex ey
  show wp (callFn (run prog (k + 1)) f_Flow___init__ [.ref i, .int a, .int b]) L Q
  rw [call_eq, wp_chk]
  refine ⟨rfl, ?_⟩
  show wp (M.bind (evB _ _ [some (.ref i), some (.int a), some (.int b), none]) retK) L Q
  simp only [f_Flow___init__, pm0, pm01, wp_bind, wp_ret, wp_chk, wp_ofO, wp_look, wp_new, wp_setO, wp_br, v_var, v_lit, v_glo, v_bin, v_neg, v_cmp, v_cmp2, v_and, v_or, v_not, v_ife, v_tup, v_lst, v_dct0, v_dct, v_ix, v_slc, v_rev, v_bi, v_isi, v_mth, v_lset, v_rgl1, v_rgl2, v_inr, v_call, v_comp, vs_nil, vs_cons, vo_none, vo_some, vc_none, vc_some, vi_val, vi_rng1, vi_rng2, vi_rng3, vi_zip, vi_enm, vt_tup, vt_sub, vts_nil, vts_cons, x_asg, x_par, x_aug, x_exp, x_ret, x_retN, x_ifs, x_for, x_whl, x_brk, x_cnt, x_pss, b_nil', b_cons', sq_nx, sq_rt, sq_bk, sq_ct, gv_0, gv_S, wt_0, wt_S, o_add, o_sub, o_mul, o_fdiv, o_mod, o_pow, o_addT, o_mulT, c_lt, c_le, c_gt, c_ge, wp_eq_int, wp_ne_int, n_bl, n_int, bi_int, bi_len, bi_tuple, bi_list, it_tup, r_tup, r_ref, ix_tup, wp_ix_ref, ixR_lst, ixR_dic, wp_set_ref, setR_dic, sl_tup, sl_ref, pk_int, rg1_int, rg2_int, inr_int, r1_int, r2_int, r3_int, ck_bl, rk_rt, rk_nx, wp_mth, m_append, m_pop, m_count, v_fld, v_prp, v_omt, v_mk, v_calD, v_obi, v_oeq, v_ost, v_oln, v_iso, v_fst, vf_nil, vf_cons, vt_fld, wp_fld, fldR_ins, wp_fset, fsetR_ins, fmt_str, fmt_int, eq_bl, bi_strB, bi_reprB, Option.some.injEq, exists_eq_left', setAll, List.length_cons, List.length_nil, List.set_cons_succ, List.set_cons_zero, List.length_set, Nat.reduceAdd, Nat.reduceLT, if_true, Nat.zero_add]
  refine pdiv_ok (k := k) rfl rfl ha hb e ?_
  have hd : divOk ((Nat.gcd a b : Nat) : Int) = true := (ha.of_le (gcd_pos ha.1) (Nat.le_of_dvd ha.1 (Nat.gcd_dvd_left a b))).divOk hm
  have hs : ∀ o, (L.set i o)[i]? = some o := fun o => List.getElem?_set_self (lt_of hi)
  try simp only [vt_fld, hi, hs, cF, fp_top, fp_bot, Bool.true_and, wp_bind, wp_ret, wp_chk, wp_ofO, wp_look, wp_new, wp_setO, wp_br, v_var, v_lit, v_glo, v_bin, v_neg, v_cmp, v_cmp2, v_and, v_or, v_not, v_ife, v_tup, v_lst, v_dct0, v_dct, v_ix, v_slc, v_rev, v_bi, v_isi, v_mth, v_lset, v_rgl1, v_rgl2, v_inr, v_call, v_comp, vs_nil, vs_cons, vo_none, vo_some, vc_none, vc_some, vi_val, vi_rng1, vi_rng2, vi_rng3, vi_zip, vi_enm, vt_tup, vt_sub, vts_nil, vts_cons, x_asg, x_par, x_aug, x_exp, x_ret, x_retN, x_ifs, x_for, x_whl, x_brk, x_cnt, x_pss, b_nil', b_cons', sq_nx, sq_rt, sq_bk, sq_ct, gv_0, gv_S, wt_0, wt_S, o_add, o_sub, o_mul, o_fdiv, o_mod, o_pow, o_addT, o_mulT, c_lt, c_le, c_gt, c_ge, wp_eq_int, wp_ne_int, n_bl, n_int, bi_int, bi_len, bi_tuple, bi_list, it_tup, r_tup, r_ref, ix_tup, wp_ix_ref, ixR_lst, ixR_dic, wp_set_ref, setR_dic, sl_tup, sl_ref, pk_int, rg1_int, rg2_int, inr_int, r1_int, r2_int, r3_int, ck_bl, rk_rt, rk_nx, wp_mth, m_append, m_pop, m_count, v_fld, v_prp, v_omt, v_mk, v_calD, v_obi, v_oeq, v_ost, v_oln, v_iso, v_fst, vf_nil, vf_cons, vt_fld, wp_fld, fldR_ins, wp_fset, fsetR_ins, fmt_str, fmt_int, eq_bl, bi_strB, bi_reprB, Option.some.injEq, exists_eq_left', setAll, List.length_cons, List.length_nil, List.set_cons_succ, List.set_cons_zero, List.length_set, Nat.reduceAdd, Nat.reduceLT, if_true, Nat.zero_add]
  refine ⟨hd, by decide, hd, by decide, ?_⟩
  rw [List.set_set, ← Int.natCast_ediv, ← Int.natCast_ediv]
  exact q
theorem mk_ok {k m n a b : Nat} {L : LH} {x y : Int} {Q : LV → LH → Prop} (ex : x = (a : Nat)) (ey : y = (b : Nat)) (ha : Bt m a) (hb : Bt n b) (e : m + n ≤ 100000) (hm : m < 9000) (q : Q (.ref L.length) (L ++ [low a b])) :
    wp (mkV (run prog (k + 2)) (Str.ofString "Flow") 1 [.int x, .int y]) L Q := by
  refine wp_mk (init_ok (k := k) ex ey ha hb e hm at_new ⟨rfl, ?_⟩)
  rw [set_new]
  exact q
/-! ### products, quotients, powers -/
theorem mulNat {x y : Nat} : (x : Int) * (y : Int) = ((x * y : Nat) : Int) := (Int.natCast_mul x y).symm
theorem Bt.lo {m a b : Nat} (ha : Bt m a) (hb : 0 < b) : Bt m (a / Nat.gcd a b) := ha.of_le (low_pos ha.1 hb).1 (Nat.div_le_self _ _)
theorem Bt.lo' {m a b : Nat} (hb : Bt m b) (ha : 0 < a) : Bt m (b / Nat.gcd a b) := hb.of_le (low_pos ha hb.1).2 (Nat.div_le_self _ _)
section
variable {k m n a b c d i j : Nat} {L : LH} {Q : LV → LH → Prop}
/-! ### == -/
theorem eqM_ok {p q r s : Nat} (hi : L[i]? = some (Fw p q)) (hj : L[j]? = some (Fw r s)) (h : Q (.bl (decide (p = r ∧ q = s))) L) : wp (run prog (k + 1) 3 [.ref i, .ref j]) L Q := by
  show wp (callFn (run prog k) f_Flow___eq__ [.ref i, .ref j]) L Q
  rw [call_eq, wp_chk]
  refine ⟨rfl, ?_⟩
  show wp (M.bind (evB _ _ [some (.ref i), some (.ref j)]) retK) L Q
  have ei : isoAt [(Str.ofString "Flow", true)] L (.ref j) = some true := by
    unfold isoAt
    dsimp only
    rw [hj]
    exact lF
  simp only [f_Flow___eq__, ei, hi, hj, cF, lk_top, lk_bot, wp_bind, wp_ret, wp_chk, wp_ofO, wp_look, wp_new, wp_setO, wp_br, v_var, v_lit, v_glo, v_bin, v_neg, v_cmp, v_cmp2, v_and, v_or, v_not, v_ife, v_tup, v_lst, v_dct0, v_dct, v_ix, v_slc, v_rev, v_bi, v_isi, v_mth, v_lset, v_rgl1, v_rgl2, v_inr, v_call, v_comp, vs_nil, vs_cons, vo_none, vo_some, vc_none, vc_some, vi_val, vi_rng1, vi_rng2, vi_rng3, vi_zip, vi_enm, vt_tup, vt_sub, vts_nil, vts_cons, x_asg, x_par, x_aug, x_exp, x_ret, x_retN, x_ifs, x_for, x_whl, x_brk, x_cnt, x_pss, b_nil', b_cons', sq_nx, sq_rt, sq_bk, sq_ct, gv_0, gv_S, wt_0, wt_S, o_add, o_sub, o_mul, o_fdiv, o_mod, o_pow, o_addT, o_mulT, c_lt, c_le, c_gt, c_ge, wp_eq_int, wp_ne_int, n_bl, n_int, bi_int, bi_len, bi_tuple, bi_list, it_tup, r_tup, r_ref, ix_tup, wp_ix_ref, ixR_lst, ixR_dic, wp_set_ref, setR_dic, sl_tup, sl_ref, pk_int, rg1_int, rg2_int, inr_int, r1_int, r2_int, r3_int, ck_bl, rk_rt, rk_nx, wp_mth, m_append, m_pop, m_count, v_fld, v_prp, v_omt, v_mk, v_calD, v_obi, v_oeq, v_ost, v_oln, v_iso, v_fst, vf_nil, vf_cons, vt_fld, wp_fld, fldR_ins, wp_fset, fsetR_ins, fmt_str, fmt_int, eq_bl, bi_strB, bi_reprB, Option.some.injEq, exists_eq_left', setAll, List.length_cons, List.length_nil, List.set_cons_succ, List.set_cons_zero, List.length_set, Nat.reduceAdd, Nat.reduceLT, if_true, Nat.zero_add, reduceCtorEq, false_implies, true_implies, eq_self, and_true, true_and, Bool.true_eq_false, Bool.false_eq_true]
  refine ⟨fun c => ?_, fun c => ?_⟩
  · try simp only [ei, hi, hj, cF, lk_top, lk_bot, wp_bind, wp_ret, wp_chk, wp_ofO, wp_look, wp_new, wp_setO, wp_br, v_var, v_lit, v_glo, v_bin, v_neg, v_cmp, v_cmp2, v_and, v_or, v_not, v_ife, v_tup, v_lst, v_dct0, v_dct, v_ix, v_slc, v_rev, v_bi, v_isi, v_mth, v_lset, v_rgl1, v_rgl2, v_inr, v_call, v_comp, vs_nil, vs_cons, vo_none, vo_some, vc_none, vc_some, vi_val, vi_rng1, vi_rng2, vi_rng3, vi_zip, vi_enm, vt_tup, vt_sub, vts_nil, vts_cons, x_asg, x_par, x_aug, x_exp, x_ret, x_retN, x_ifs, x_for, x_whl, x_brk, x_cnt, x_pss, b_nil', b_cons', sq_nx, sq_rt, sq_bk, sq_ct, gv_0, gv_S, wt_0, wt_S, o_add, o_sub, o_mul, o_fdiv, o_mod, o_pow, o_addT, o_mulT, c_lt, c_le, c_gt, c_ge, wp_eq_int, wp_ne_int, n_bl, n_int, bi_int, bi_len, bi_tuple, bi_list, it_tup, r_tup, r_ref, ix_tup, wp_ix_ref, ixR_lst, ixR_dic, wp_set_ref, setR_dic, sl_tup, sl_ref, pk_int, rg1_int, rg2_int, inr_int, r1_int, r2_int, r3_int, ck_bl, rk_rt, rk_nx, wp_mth, m_append, m_pop, m_count, v_fld, v_prp, v_omt, v_mk, v_calD, v_obi, v_oeq, v_ost, v_oln, v_iso, v_fst, vf_nil, vf_cons, vt_fld, wp_fld, fldR_ins, wp_fset, fsetR_ins, fmt_str, fmt_int, eq_bl, bi_strB, bi_reprB, Option.some.injEq, exists_eq_left', setAll, List.length_cons, List.length_nil, List.set_cons_succ, List.set_cons_zero, List.length_set, Nat.reduceAdd, Nat.reduceLT, if_true, Nat.zero_add, reduceCtorEq, false_implies, true_implies, eq_self, and_true, true_and, Bool.true_eq_false, Bool.false_eq_true]
    have c : p = r := by have := of_decide_eq_true c; omega
    have e : decide (((q : Nat) : Int) = s) = decide (p = r ∧ q = s) := by
      refine decide_eq_decide.mpr ⟨fun z => ⟨c, by omega⟩, fun z => by omega⟩
    rw [e]
    exact h
  · have c : ¬ p = r := by have := of_decide_eq_false c; omega
    rw [decide_eq_false fun z => c z.1] at h
    exact h
end
theorem toR_bls {L : LH} {n : Nat} {bs : List Bool} (e : L[n]? = some (.lst (bs.map .bl))) : toR L (.ref n) = some (.list (bs.map .bool)) := by
  have h : ∀ (n : Nat) (bs : List Bool), optAll (toRD L (n + 1)) (bs.map .bl) = some (bs.map .bool) := by
    intro n bs
    induction bs with
    | nil => rfl
    | cons b r ih =>
      simp only [List.map_cons, optAll, ih]
      rfl
  show toRD L 66 (.ref n) = _
  rw [toRD]
  simp only [e, h, Option.map]
theorem ne_same {s s' : Str} (h : s = s') {L : LH} {Q : LV → LH → Prop} (q : Q (.bl false) L) : wp (cmpV .ne (.str s) (.str s')) L Q := by
  subst h
  refine wp_ne (b := true) ?_ rfl q
  show some (decide _) = _
  rw [decide_eq_true rfl]
theorem low_iff {a b c d : Nat} (ha : 0 < a) (hb : 0 < b) (hc : 0 < c) (hd : 0 < d) : (a / Nat.gcd a b = c / Nat.gcd c d ∧ b / Nat.gcd a b = d / Nat.gcd c d) ↔ a * d = c * b :=
  ⟨fun h => low_inv h.1 h.2, low_eq ha hb hc hd⟩
theorem oeq_ok {k a b c d i j : Nat} {L : LH} {Q : LV → LH → Prop} (hi : L[i]? = some (low a b)) (hj : L[j]? = some (low c d)) (ha : 0 < a) (hb : 0 < b) (hc : 0 < c) (hd : 0 < d) (h : Q (.bl (decide (a * d = c * b))) L) :
    ∃ g, eqAt [(Str.ofString "Flow", 3)] L (.ref i) (.ref j) = some g ∧ wp (run prog (k + 1) g [.ref i, .ref j]) L fun r L1 => wp (eqK false r) L1 Q := by
  refine ⟨_, eq_cls hi (yOk_Fw hi hj), ?_⟩
  refine eqM_ok hi hj ?_
  rw [eq_bl, wp_ret, decide_eq_decide.mpr (low_iff ha hb hc hd)]
  exact h
end K15



namespace K15
open PySem Mv
/-! ### the fractions of the law -/
def pv (p : Nat × Nat) : LV := .tup [.int (p.1 : Nat), .int (p.2 : Nat)]
def Btp (m : Nat) (p : Nat × Nat) : Prop := Bt m p.1 ∧ Bt m p.2
theorem mo {m n : Nat} {x y : Int} {a b : Nat} (e1 : x = (a : Nat)) (e2 : y = (b : Nat)) (b1 : Bt m a) (b2 : Bt n b) (h : m + n ≤ 1000000) : mulOk x y = true := by rw [e1, e2]; exact b1.mulOk b2 h
theorem mm {x y : Int} {a b : Nat} (e1 : x = (a : Nat)) (e2 : y = (b : Nat)) : x * y = ((a * b : Nat) : Int) := by rw [e1, e2, mulNat]
theorem many_at {z : Nat} (h : z < 5) : ∃ c : Nat, 0 < c ∧ c ≤ 1000000000 ∧ L2.atI [LV.int 1, .int 2, .int 10, .int 1000, .int (10 ^ Int.toNat 9)] (z : Int) = some (.int (c : Nat)) := by
  match z, h with
  | 0, _ => exact ⟨1, by decide, by decide, rfl⟩
  | 1, _ => exact ⟨2, by decide, by decide, rfl⟩
  | 2, _ => exact ⟨10, by decide, by decide, rfl⟩
  | 3, _ => exact ⟨1000, by decide, by decide, rfl⟩
  | 4, _ => exact ⟨1000000000, by decide, by decide, rfl⟩
theorem near_bt {m a c z : Nat} (ha : Bt m a) (hc : 0 < c ∧ c ≤ 1000000000) (hz : z < 3) : Bt (m + 31) (a * c + z) := by
  have h1 : Bt (m + 31) (a * (c + 2)) := ha.mul ⟨by omega, by omega⟩
  refine h1.of_le ?_ ?_
  · have := Nat.mul_pos ha.1 hc.1
    omega
  · rw [Nat.mul_add]
    have := ha.1
    omega
theorem near_ok {k m a b d h : Nat} {L : LH} {x y : Int} {Q : LV → LH → Prop} (ex : x = (a : Nat)) (ey : y = (b : Nat)) (D : Deck d h L) (ha : Bt m a) (hb : Bt m b) (q : ∀ p L', Btp (m + 31) p → Deck d h L' → Fr d h L L' → Q (pv p) L') :
    wp (run prog (k + 2) 9 [.ref d, .int x, .int y]) L Q := by
  subst ex ey
  show wp (callFn (run prog (k + 1)) f_l_near [.ref d, .int a, .int b]) L Q
  rw [call_eq, wp_chk]
  refine ⟨rfl, ?_⟩
  show wp (M.bind (evB _ _ [some (.ref d), some (.int a), some (.int b), none]) retK) L Q
  simp only [f_l_near, permG, List.cons_append, List.nil_append, List.getElem?_cons_zero, List.getElem?_cons_succ, decide_true, decide_false, wp_bind, wp_ret, wp_chk, wp_ofO, wp_look, wp_new, wp_setO, wp_br, v_var, v_lit, v_glo, v_bin, v_neg, v_cmp, v_cmp2, v_and, v_or, v_not, v_ife, v_tup, v_lst, v_dct0, v_dct, v_ix, v_slc, v_rev, v_bi, v_isi, v_mth, v_lset, v_rgl1, v_rgl2, v_inr, v_call, v_comp, vs_nil, vs_cons, vo_none, vo_some, vc_none, vc_some, vi_val, vi_rng1, vi_rng2, vi_rng3, vi_zip, vi_enm, vt_tup, vt_sub, vts_nil, vts_cons, x_asg, x_par, x_aug, x_exp, x_ret, x_retN, x_ifs, x_for, x_whl, x_brk, x_cnt, x_pss, b_nil', b_cons', sq_nx, sq_rt, sq_bk, sq_ct, gv_0, gv_S, wt_0, wt_S, o_add, o_sub, o_mul, o_fdiv, o_mod, o_pow, o_addT, o_mulT, c_lt, c_le, c_gt, c_ge, wp_eq_int, wp_ne_int, n_bl, n_int, bi_int, bi_len, bi_tuple, bi_list, it_tup, r_tup, r_ref, ix_tup, wp_ix_ref, ixR_lst, ixR_dic, wp_set_ref, setR_dic, sl_tup, sl_ref, pk_int, rg1_int, rg2_int, inr_int, r1_int, r2_int, r3_int, ck_bl, rk_rt, rk_nx, wp_mth, m_append, m_pop, m_count, v_fld, v_prp, v_omt, v_mk, v_calD, v_obi, v_oeq, v_ost, v_oln, v_iso, v_fst, vf_nil, vf_cons, vt_fld, wp_fld, fldR_ins, wp_fset, fsetR_ins, fmt_str, fmt_int, eq_bl, bi_strB, bi_reprB, Option.some.injEq, exists_eq_left', setAll, List.length_cons, List.length_nil, List.set_cons_succ, List.set_cons_zero, List.length_set, Nat.reduceAdd, Nat.reduceLT, if_true, Nat.zero_add, reduceCtorEq, false_implies, true_implies, eq_self, and_true, true_and, Bool.true_eq_false, Bool.false_eq_true]
  refine ⟨by decide, by decide, ?_⟩
  have DX := D.lt
  refine draw_i (k := k) 5 rfl (D.grow ⟨_, rfl⟩) (by decide) fun z L1 hz D1 F1 => ?_
  obtain ⟨c, c0, c1, hc⟩ := many_at hz
  have e1 : L1[L.length]? = some (LO.lst [LV.int 1, .int 2, .int 10, .int 1000, .int (10 ^ Int.toNat 9)]) := (F1.2 _ (by simp) (by omega) (by omega)).trans at_new
  simp only [e1, hc, permG, List.cons_append, List.nil_append, List.getElem?_cons_zero, List.getElem?_cons_succ, decide_true, decide_false, wp_bind, wp_ret, wp_chk, wp_ofO, wp_look, wp_new, wp_setO, wp_br, v_var, v_lit, v_glo, v_bin, v_neg, v_cmp, v_cmp2, v_and, v_or, v_not, v_ife, v_tup, v_lst, v_dct0, v_dct, v_ix, v_slc, v_rev, v_bi, v_isi, v_mth, v_lset, v_rgl1, v_rgl2, v_inr, v_call, v_comp, vs_nil, vs_cons, vo_none, vo_some, vc_none, vc_some, vi_val, vi_rng1, vi_rng2, vi_rng3, vi_zip, vi_enm, vt_tup, vt_sub, vts_nil, vts_cons, x_asg, x_par, x_aug, x_exp, x_ret, x_retN, x_ifs, x_for, x_whl, x_brk, x_cnt, x_pss, b_nil', b_cons', sq_nx, sq_rt, sq_bk, sq_ct, gv_0, gv_S, wt_0, wt_S, o_add, o_sub, o_mul, o_fdiv, o_mod, o_pow, o_addT, o_mulT, c_lt, c_le, c_gt, c_ge, wp_eq_int, wp_ne_int, n_bl, n_int, bi_int, bi_len, bi_tuple, bi_list, it_tup, r_tup, r_ref, ix_tup, wp_ix_ref, ixR_lst, ixR_dic, wp_set_ref, setR_dic, sl_tup, sl_ref, pk_int, rg1_int, rg2_int, inr_int, r1_int, r2_int, r3_int, ck_bl, rk_rt, rk_nx, wp_mth, m_append, m_pop, m_count, v_fld, v_prp, v_omt, v_mk, v_calD, v_obi, v_oeq, v_ost, v_oln, v_iso, v_fst, vf_nil, vf_cons, vt_fld, wp_fld, fldR_ins, wp_fset, fsetR_ins, fmt_str, fmt_int, eq_bl, bi_strB, bi_reprB, Option.some.injEq, exists_eq_left', setAll, List.length_cons, List.length_nil, List.set_cons_succ, List.set_cons_zero, List.length_set, Nat.reduceAdd, Nat.reduceLT, if_true, Nat.zero_add, reduceCtorEq, false_implies, true_implies, eq_self, and_true, true_and, Bool.true_eq_false, Bool.false_eq_true]
  have hm : ∀ x : Nat, mulOk (x : Int) (c : Int) = true := fun x => mulOk_r ⟨by omega, by omega⟩
  refine ⟨hm _, draw_i (k := k) 3 rfl D1 (by decide) fun z1 L2 hz1 D2 F2 => ?_⟩
  try simp only [permG, List.cons_append, List.nil_append, List.getElem?_cons_zero, List.getElem?_cons_succ, decide_true, decide_false, wp_bind, wp_ret, wp_chk, wp_ofO, wp_look, wp_new, wp_setO, wp_br, v_var, v_lit, v_glo, v_bin, v_neg, v_cmp, v_cmp2, v_and, v_or, v_not, v_ife, v_tup, v_lst, v_dct0, v_dct, v_ix, v_slc, v_rev, v_bi, v_isi, v_mth, v_lset, v_rgl1, v_rgl2, v_inr, v_call, v_comp, vs_nil, vs_cons, vo_none, vo_some, vc_none, vc_some, vi_val, vi_rng1, vi_rng2, vi_rng3, vi_zip, vi_enm, vt_tup, vt_sub, vts_nil, vts_cons, x_asg, x_par, x_aug, x_exp, x_ret, x_retN, x_ifs, x_for, x_whl, x_brk, x_cnt, x_pss, b_nil', b_cons', sq_nx, sq_rt, sq_bk, sq_ct, gv_0, gv_S, wt_0, wt_S, o_add, o_sub, o_mul, o_fdiv, o_mod, o_pow, o_addT, o_mulT, c_lt, c_le, c_gt, c_ge, wp_eq_int, wp_ne_int, n_bl, n_int, bi_int, bi_len, bi_tuple, bi_list, it_tup, r_tup, r_ref, ix_tup, wp_ix_ref, ixR_lst, ixR_dic, wp_set_ref, setR_dic, sl_tup, sl_ref, pk_int, rg1_int, rg2_int, inr_int, r1_int, r2_int, r3_int, ck_bl, rk_rt, rk_nx, wp_mth, m_append, m_pop, m_count, v_fld, v_prp, v_omt, v_mk, v_calD, v_obi, v_oeq, v_ost, v_oln, v_iso, v_fst, vf_nil, vf_cons, vt_fld, wp_fld, fldR_ins, wp_fset, fsetR_ins, fmt_str, fmt_int, eq_bl, bi_strB, bi_reprB, Option.some.injEq, exists_eq_left', setAll, List.length_cons, List.length_nil, List.set_cons_succ, List.set_cons_zero, List.length_set, Nat.reduceAdd, Nat.reduceLT, if_true, Nat.zero_add, reduceCtorEq, false_implies, true_implies, eq_self, and_true, true_and, Bool.true_eq_false, Bool.false_eq_true]
  refine ⟨hm _, draw_i (k := k) 3 rfl D2 (by decide) fun z2 L3 hz2 D3 F3 => ?_⟩
  try simp only [permG, List.cons_append, List.nil_append, List.getElem?_cons_zero, List.getElem?_cons_succ, decide_true, decide_false, wp_bind, wp_ret, wp_chk, wp_ofO, wp_look, wp_new, wp_setO, wp_br, v_var, v_lit, v_glo, v_bin, v_neg, v_cmp, v_cmp2, v_and, v_or, v_not, v_ife, v_tup, v_lst, v_dct0, v_dct, v_ix, v_slc, v_rev, v_bi, v_isi, v_mth, v_lset, v_rgl1, v_rgl2, v_inr, v_call, v_comp, vs_nil, vs_cons, vo_none, vo_some, vc_none, vc_some, vi_val, vi_rng1, vi_rng2, vi_rng3, vi_zip, vi_enm, vt_tup, vt_sub, vts_nil, vts_cons, x_asg, x_par, x_aug, x_exp, x_ret, x_retN, x_ifs, x_for, x_whl, x_brk, x_cnt, x_pss, b_nil', b_cons', sq_nx, sq_rt, sq_bk, sq_ct, gv_0, gv_S, wt_0, wt_S, o_add, o_sub, o_mul, o_fdiv, o_mod, o_pow, o_addT, o_mulT, c_lt, c_le, c_gt, c_ge, wp_eq_int, wp_ne_int, n_bl, n_int, bi_int, bi_len, bi_tuple, bi_list, it_tup, r_tup, r_ref, ix_tup, wp_ix_ref, ixR_lst, ixR_dic, wp_set_ref, setR_dic, sl_tup, sl_ref, pk_int, rg1_int, rg2_int, inr_int, r1_int, r2_int, r3_int, ck_bl, rk_rt, rk_nx, wp_mth, m_append, m_pop, m_count, v_fld, v_prp, v_omt, v_mk, v_calD, v_obi, v_oeq, v_ost, v_oln, v_iso, v_fst, vf_nil, vf_cons, vt_fld, wp_fld, fldR_ins, wp_fset, fsetR_ins, fmt_str, fmt_int, eq_bl, bi_strB, bi_reprB, Option.some.injEq, exists_eq_left', setAll, List.length_cons, List.length_nil, List.set_cons_succ, List.set_cons_zero, List.length_set, Nat.reduceAdd, Nat.reduceLT, if_true, Nat.zero_add, reduceCtorEq, false_implies, true_implies, eq_self, and_true, true_and, Bool.true_eq_false, Bool.false_eq_true]
  have z := q (a * c + z1, b * c + z2) L3 ⟨near_bt ha ⟨c0, c1⟩ hz1, near_bt hb ⟨c0, c1⟩ hz2⟩ D3 ((((Fr.grow ⟨_, rfl⟩).trans F1).trans F2).trans F3)
  simp only [pv, Int.natCast_add, Int.natCast_mul] at z
  exact ⟨by decide, z⟩
theorem frac_ok {k m d h r : Nat} {ps : List (Nat × Nat)} {L : LH} {Q : LV → LH → Prop} (D : Deck d h L) (hr : L[r]? = some (.lst (ps.map pv))) (r1 : r ≠ d) (r2 : r ≠ h) (hl : ps.length ≤ 1000) (hm : 95 ≤ m) (hp : ∀ p ∈ ps, Btp m p) (q : ∀ p L', Btp (m + 31) p → Deck d h L' → Fr d h L L' → Q (pv p) L') :
    wp (run prog (k + 3) 10 [.ref d, .ref r]) L Q := by
  show wp (callFn (run prog (k + 2)) f_l_fraction [.ref d, .ref r]) L Q
  rw [call_eq, wp_chk]
  refine ⟨rfl, ?_⟩
  show wp (M.bind (evB _ (f_l_fraction.body.take 2 ++ f_l_fraction.body.drop 2) [some (.ref d), some (.ref r), none, none, none, none]) retK) L Q
  rw [b_app]
  have rest : ∀ (z : Nat) L1, Deck d h L1 → Fr d h L L1 → wp (evB (run prog (k + 2)) (f_l_fraction.body.drop 2) [some (.ref d), some (.ref r), some (.int z), none, none, none]) L1 fun a L1 => wp (retK a) L1 Q := fun z L1 D1 F1 => by
    simp only [f_l_fraction, List.drop_succ_cons, List.drop_zero, permG, List.cons_append, List.nil_append, List.getElem?_cons_zero, List.getElem?_cons_succ, decide_true, decide_false, wp_bind, wp_ret, wp_chk, wp_ofO, wp_look, wp_new, wp_setO, wp_br, v_var, v_lit, v_glo, v_bin, v_neg, v_cmp, v_cmp2, v_and, v_or, v_not, v_ife, v_tup, v_lst, v_dct0, v_dct, v_ix, v_slc, v_rev, v_bi, v_isi, v_mth, v_lset, v_rgl1, v_rgl2, v_inr, v_call, v_comp, vs_nil, vs_cons, vo_none, vo_some, vc_none, vc_some, vi_val, vi_rng1, vi_rng2, vi_rng3, vi_zip, vi_enm, vt_tup, vt_sub, vts_nil, vts_cons, x_asg, x_par, x_aug, x_exp, x_ret, x_retN, x_ifs, x_for, x_whl, x_brk, x_cnt, x_pss, b_nil', b_cons', sq_nx, sq_rt, sq_bk, sq_ct, gv_0, gv_S, wt_0, wt_S, o_add, o_sub, o_mul, o_fdiv, o_mod, o_pow, o_addT, o_mulT, c_lt, c_le, c_gt, c_ge, wp_eq_int, wp_ne_int, n_bl, n_int, bi_int, bi_len, bi_tuple, bi_list, it_tup, r_tup, r_ref, ix_tup, wp_ix_ref, ixR_lst, ixR_dic, wp_set_ref, setR_dic, sl_tup, sl_ref, pk_int, rg1_int, rg2_int, inr_int, r1_int, r2_int, r3_int, ck_bl, rk_rt, rk_nx, wp_mth, m_append, m_pop, m_count, v_fld, v_prp, v_omt, v_mk, v_calD, v_obi, v_oeq, v_ost, v_oln, v_iso, v_fst, vf_nil, vf_cons, vt_fld, wp_fld, fldR_ins, wp_fset, fsetR_ins, fmt_str, fmt_int, eq_bl, bi_strB, bi_reprB, Option.some.injEq, exists_eq_left', setAll, List.length_cons, List.length_nil, List.set_cons_succ, List.set_cons_zero, List.length_set, Nat.reduceAdd, Nat.reduceLT, if_true, Nat.zero_add, reduceCtorEq, false_implies, true_implies, eq_self, and_true, true_and, Bool.true_eq_false, Bool.false_eq_true]
    refine ⟨fun c => ?_, fun c => ⟨fun c => ?_, fun c => ⟨fun c => ?_, fun c => ?_⟩⟩⟩
    · refine draw_i (k := k + 1) 12 rfl D1 (by decide) fun z1 L2 hz1 D2 F2 => ?_
      try simp only [permG, List.cons_append, List.nil_append, List.getElem?_cons_zero, List.getElem?_cons_succ, decide_true, decide_false, wp_bind, wp_ret, wp_chk, wp_ofO, wp_look, wp_new, wp_setO, wp_br, v_var, v_lit, v_glo, v_bin, v_neg, v_cmp, v_cmp2, v_and, v_or, v_not, v_ife, v_tup, v_lst, v_dct0, v_dct, v_ix, v_slc, v_rev, v_bi, v_isi, v_mth, v_lset, v_rgl1, v_rgl2, v_inr, v_call, v_comp, vs_nil, vs_cons, vo_none, vo_some, vc_none, vc_some, vi_val, vi_rng1, vi_rng2, vi_rng3, vi_zip, vi_enm, vt_tup, vt_sub, vts_nil, vts_cons, x_asg, x_par, x_aug, x_exp, x_ret, x_retN, x_ifs, x_for, x_whl, x_brk, x_cnt, x_pss, b_nil', b_cons', sq_nx, sq_rt, sq_bk, sq_ct, gv_0, gv_S, wt_0, wt_S, o_add, o_sub, o_mul, o_fdiv, o_mod, o_pow, o_addT, o_mulT, c_lt, c_le, c_gt, c_ge, wp_eq_int, wp_ne_int, n_bl, n_int, bi_int, bi_len, bi_tuple, bi_list, it_tup, r_tup, r_ref, ix_tup, wp_ix_ref, ixR_lst, ixR_dic, wp_set_ref, setR_dic, sl_tup, sl_ref, pk_int, rg1_int, rg2_int, inr_int, r1_int, r2_int, r3_int, ck_bl, rk_rt, rk_nx, wp_mth, m_append, m_pop, m_count, v_fld, v_prp, v_omt, v_mk, v_calD, v_obi, v_oeq, v_ost, v_oln, v_iso, v_fst, vf_nil, vf_cons, vt_fld, wp_fld, fldR_ins, wp_fset, fsetR_ins, fmt_str, fmt_int, eq_bl, bi_strB, bi_reprB, Option.some.injEq, exists_eq_left', setAll, List.length_cons, List.length_nil, List.set_cons_succ, List.set_cons_zero, List.length_set, Nat.reduceAdd, Nat.reduceLT, if_true, Nat.zero_add, reduceCtorEq, false_implies, true_implies, eq_self, and_true, true_and, Bool.true_eq_false, Bool.false_eq_true]
      refine near_ok (k := k) (m := 4) (a := 1 + z1) (b := 1) (by omega) rfl D2 ⟨by omega, by omega⟩ ⟨by decide, by decide⟩ fun p L3 hp3 D3 F3 => ?_
      exact q p L3 ⟨hp3.1.le (by omega), hp3.2.le (by omega)⟩ D3 ((F1.trans F2).trans F3)
    · refine ⟨by decide, by decide, draw_i (k := k + 1) 1000000000000 rfl D1 (by decide) fun z1 L2 hz1 D2 F2 => ?_⟩
      try simp only [permG, List.cons_append, List.nil_append, List.getElem?_cons_zero, List.getElem?_cons_succ, decide_true, decide_false, wp_bind, wp_ret, wp_chk, wp_ofO, wp_look, wp_new, wp_setO, wp_br, v_var, v_lit, v_glo, v_bin, v_neg, v_cmp, v_cmp2, v_and, v_or, v_not, v_ife, v_tup, v_lst, v_dct0, v_dct, v_ix, v_slc, v_rev, v_bi, v_isi, v_mth, v_lset, v_rgl1, v_rgl2, v_inr, v_call, v_comp, vs_nil, vs_cons, vo_none, vo_some, vc_none, vc_some, vi_val, vi_rng1, vi_rng2, vi_rng3, vi_zip, vi_enm, vt_tup, vt_sub, vts_nil, vts_cons, x_asg, x_par, x_aug, x_exp, x_ret, x_retN, x_ifs, x_for, x_whl, x_brk, x_cnt, x_pss, b_nil', b_cons', sq_nx, sq_rt, sq_bk, sq_ct, gv_0, gv_S, wt_0, wt_S, o_add, o_sub, o_mul, o_fdiv, o_mod, o_pow, o_addT, o_mulT, c_lt, c_le, c_gt, c_ge, wp_eq_int, wp_ne_int, n_bl, n_int, bi_int, bi_len, bi_tuple, bi_list, it_tup, r_tup, r_ref, ix_tup, wp_ix_ref, ixR_lst, ixR_dic, wp_set_ref, setR_dic, sl_tup, sl_ref, pk_int, rg1_int, rg2_int, inr_int, r1_int, r2_int, r3_int, ck_bl, rk_rt, rk_nx, wp_mth, m_append, m_pop, m_count, v_fld, v_prp, v_omt, v_mk, v_calD, v_obi, v_oeq, v_ost, v_oln, v_iso, v_fst, vf_nil, vf_cons, vt_fld, wp_fld, fldR_ins, wp_fset, fsetR_ins, fmt_str, fmt_int, eq_bl, bi_strB, bi_reprB, Option.some.injEq, exists_eq_left', setAll, List.length_cons, List.length_nil, List.set_cons_succ, List.set_cons_zero, List.length_set, Nat.reduceAdd, Nat.reduceLT, if_true, Nat.zero_add, reduceCtorEq, false_implies, true_implies, eq_self, and_true, true_and, Bool.true_eq_false, Bool.false_eq_true]
      obtain ⟨n, hn, en⟩ : ∃ n : Nat, Bt 60 n ∧ ((10 : Int) ^ Int.toNat 18 + (z1 : Int)) = (n : Nat) := ⟨10 ^ 18 + z1, ⟨by omega, by omega⟩, by rw [show Int.toNat 18 = 18 from rfl]; omega⟩
      rw [en]
      refine ⟨by decide, draw_i (k := k + 1) 1000000000 rfl D2 (by decide) fun z2 L3 hz2 D3 F3 => ?_⟩
      try simp only [permG, List.cons_append, List.nil_append, List.getElem?_cons_zero, List.getElem?_cons_succ, decide_true, decide_false, wp_bind, wp_ret, wp_chk, wp_ofO, wp_look, wp_new, wp_setO, wp_br, v_var, v_lit, v_glo, v_bin, v_neg, v_cmp, v_cmp2, v_and, v_or, v_not, v_ife, v_tup, v_lst, v_dct0, v_dct, v_ix, v_slc, v_rev, v_bi, v_isi, v_mth, v_lset, v_rgl1, v_rgl2, v_inr, v_call, v_comp, vs_nil, vs_cons, vo_none, vo_some, vc_none, vc_some, vi_val, vi_rng1, vi_rng2, vi_rng3, vi_zip, vi_enm, vt_tup, vt_sub, vts_nil, vts_cons, x_asg, x_par, x_aug, x_exp, x_ret, x_retN, x_ifs, x_for, x_whl, x_brk, x_cnt, x_pss, b_nil', b_cons', sq_nx, sq_rt, sq_bk, sq_ct, gv_0, gv_S, wt_0, wt_S, o_add, o_sub, o_mul, o_fdiv, o_mod, o_pow, o_addT, o_mulT, c_lt, c_le, c_gt, c_ge, wp_eq_int, wp_ne_int, n_bl, n_int, bi_int, bi_len, bi_tuple, bi_list, it_tup, r_tup, r_ref, ix_tup, wp_ix_ref, ixR_lst, ixR_dic, wp_set_ref, setR_dic, sl_tup, sl_ref, pk_int, rg1_int, rg2_int, inr_int, r1_int, r2_int, r3_int, ck_bl, rk_rt, rk_nx, wp_mth, m_append, m_pop, m_count, v_fld, v_prp, v_omt, v_mk, v_calD, v_obi, v_oeq, v_ost, v_oln, v_iso, v_fst, vf_nil, vf_cons, vt_fld, wp_fld, fldR_ins, wp_fset, fsetR_ins, fmt_str, fmt_int, eq_bl, bi_strB, bi_reprB, Option.some.injEq, exists_eq_left', setAll, List.length_cons, List.length_nil, List.set_cons_succ, List.set_cons_zero, List.length_set, Nat.reduceAdd, Nat.reduceLT, if_true, Nat.zero_add, reduceCtorEq, false_implies, true_implies, eq_self, and_true, true_and, Bool.true_eq_false, Bool.false_eq_true]
      have b2 : Bt 31 (1 + z2) := ⟨by omega, by omega⟩
      have e2 : (1 + (z2 : Int)) = ((1 + z2 : Nat) : Int) := by omega
      refine ⟨mo rfl e2 hn b2 (by decide), by decide, draw_i (k := k + 1) 1000000000 rfl D3 (by decide) fun z3 L4 hz3 D4 F4 => ?_⟩
      try simp only [permG, List.cons_append, List.nil_append, List.getElem?_cons_zero, List.getElem?_cons_succ, decide_true, decide_false, wp_bind, wp_ret, wp_chk, wp_ofO, wp_look, wp_new, wp_setO, wp_br, v_var, v_lit, v_glo, v_bin, v_neg, v_cmp, v_cmp2, v_and, v_or, v_not, v_ife, v_tup, v_lst, v_dct0, v_dct, v_ix, v_slc, v_rev, v_bi, v_isi, v_mth, v_lset, v_rgl1, v_rgl2, v_inr, v_call, v_comp, vs_nil, vs_cons, vo_none, vo_some, vc_none, vc_some, vi_val, vi_rng1, vi_rng2, vi_rng3, vi_zip, vi_enm, vt_tup, vt_sub, vts_nil, vts_cons, x_asg, x_par, x_aug, x_exp, x_ret, x_retN, x_ifs, x_for, x_whl, x_brk, x_cnt, x_pss, b_nil', b_cons', sq_nx, sq_rt, sq_bk, sq_ct, gv_0, gv_S, wt_0, wt_S, o_add, o_sub, o_mul, o_fdiv, o_mod, o_pow, o_addT, o_mulT, c_lt, c_le, c_gt, c_ge, wp_eq_int, wp_ne_int, n_bl, n_int, bi_int, bi_len, bi_tuple, bi_list, it_tup, r_tup, r_ref, ix_tup, wp_ix_ref, ixR_lst, ixR_dic, wp_set_ref, setR_dic, sl_tup, sl_ref, pk_int, rg1_int, rg2_int, inr_int, r1_int, r2_int, r3_int, ck_bl, rk_rt, rk_nx, wp_mth, m_append, m_pop, m_count, v_fld, v_prp, v_omt, v_mk, v_calD, v_obi, v_oeq, v_ost, v_oln, v_iso, v_fst, vf_nil, vf_cons, vt_fld, wp_fld, fldR_ins, wp_fset, fsetR_ins, fmt_str, fmt_int, eq_bl, bi_strB, bi_reprB, Option.some.injEq, exists_eq_left', setAll, List.length_cons, List.length_nil, List.set_cons_succ, List.set_cons_zero, List.length_set, Nat.reduceAdd, Nat.reduceLT, if_true, Nat.zero_add, reduceCtorEq, false_implies, true_implies, eq_self, and_true, true_and, Bool.true_eq_false, Bool.false_eq_true]
      have b3 : Bt 31 (1 + z3) := ⟨by omega, by omega⟩
      have e3 : (1 + (z3 : Int)) = ((1 + z3 : Nat) : Int) := by omega
      refine ⟨mo rfl e3 hn b3 (by decide), by decide, ?_⟩
      rw [e2, e3, mulNat, mulNat]
      exact q (n * (1 + z2), n * (1 + z3)) L4 ⟨(hn.mul b2).le (by omega), (hn.mul b3).le (by omega)⟩ D4 (((F1.trans F2).trans F3).trans F4)
    · refine draw_i (k := k + 1) 40 rfl D1 (by decide) fun z1 L2 hz1 D2 F2 => ?_
      try simp only [permG, List.cons_append, List.nil_append, List.getElem?_cons_zero, List.getElem?_cons_succ, decide_true, decide_false, wp_bind, wp_ret, wp_chk, wp_ofO, wp_look, wp_new, wp_setO, wp_br, v_var, v_lit, v_glo, v_bin, v_neg, v_cmp, v_cmp2, v_and, v_or, v_not, v_ife, v_tup, v_lst, v_dct0, v_dct, v_ix, v_slc, v_rev, v_bi, v_isi, v_mth, v_lset, v_rgl1, v_rgl2, v_inr, v_call, v_comp, vs_nil, vs_cons, vo_none, vo_some, vc_none, vc_some, vi_val, vi_rng1, vi_rng2, vi_rng3, vi_zip, vi_enm, vt_tup, vt_sub, vts_nil, vts_cons, x_asg, x_par, x_aug, x_exp, x_ret, x_retN, x_ifs, x_for, x_whl, x_brk, x_cnt, x_pss, b_nil', b_cons', sq_nx, sq_rt, sq_bk, sq_ct, gv_0, gv_S, wt_0, wt_S, o_add, o_sub, o_mul, o_fdiv, o_mod, o_pow, o_addT, o_mulT, c_lt, c_le, c_gt, c_ge, wp_eq_int, wp_ne_int, n_bl, n_int, bi_int, bi_len, bi_tuple, bi_list, it_tup, r_tup, r_ref, ix_tup, wp_ix_ref, ixR_lst, ixR_dic, wp_set_ref, setR_dic, sl_tup, sl_ref, pk_int, rg1_int, rg2_int, inr_int, r1_int, r2_int, r3_int, ck_bl, rk_rt, rk_nx, wp_mth, m_append, m_pop, m_count, v_fld, v_prp, v_omt, v_mk, v_calD, v_obi, v_oeq, v_ost, v_oln, v_iso, v_fst, vf_nil, vf_cons, vt_fld, wp_fld, fldR_ins, wp_fset, fsetR_ins, fmt_str, fmt_int, eq_bl, bi_strB, bi_reprB, Option.some.injEq, exists_eq_left', setAll, List.length_cons, List.length_nil, List.set_cons_succ, List.set_cons_zero, List.length_set, Nat.reduceAdd, Nat.reduceLT, if_true, Nat.zero_add, reduceCtorEq, false_implies, true_implies, eq_self, and_true, true_and, Bool.true_eq_false, Bool.false_eq_true]
      rw [show (1 + (z1 : Int)) = ((1 + z1 : Nat) : Int) by omega]
      exact ⟨by decide, q (1, 1 + z1) L2 ⟨Bt.le (m := 1) (a := 1) ⟨by decide, by decide⟩ (by omega), Bt.le (m := 6) ⟨by omega, by omega⟩ (by omega)⟩ D2 (F1.trans F2)⟩
    · refine draw_i (k := k + 1) 40 rfl D1 (by decide) fun z1 L2 hz1 D2 F2 => ?_
      try simp only [permG, List.cons_append, List.nil_append, List.getElem?_cons_zero, List.getElem?_cons_succ, decide_true, decide_false, wp_bind, wp_ret, wp_chk, wp_ofO, wp_look, wp_new, wp_setO, wp_br, v_var, v_lit, v_glo, v_bin, v_neg, v_cmp, v_cmp2, v_and, v_or, v_not, v_ife, v_tup, v_lst, v_dct0, v_dct, v_ix, v_slc, v_rev, v_bi, v_isi, v_mth, v_lset, v_rgl1, v_rgl2, v_inr, v_call, v_comp, vs_nil, vs_cons, vo_none, vo_some, vc_none, vc_some, vi_val, vi_rng1, vi_rng2, vi_rng3, vi_zip, vi_enm, vt_tup, vt_sub, vts_nil, vts_cons, x_asg, x_par, x_aug, x_exp, x_ret, x_retN, x_ifs, x_for, x_whl, x_brk, x_cnt, x_pss, b_nil', b_cons', sq_nx, sq_rt, sq_bk, sq_ct, gv_0, gv_S, wt_0, wt_S, o_add, o_sub, o_mul, o_fdiv, o_mod, o_pow, o_addT, o_mulT, c_lt, c_le, c_gt, c_ge, wp_eq_int, wp_ne_int, n_bl, n_int, bi_int, bi_len, bi_tuple, bi_list, it_tup, r_tup, r_ref, ix_tup, wp_ix_ref, ixR_lst, ixR_dic, wp_set_ref, setR_dic, sl_tup, sl_ref, pk_int, rg1_int, rg2_int, inr_int, r1_int, r2_int, r3_int, ck_bl, rk_rt, rk_nx, wp_mth, m_append, m_pop, m_count, v_fld, v_prp, v_omt, v_mk, v_calD, v_obi, v_oeq, v_ost, v_oln, v_iso, v_fst, vf_nil, vf_cons, vt_fld, wp_fld, fldR_ins, wp_fset, fsetR_ins, fmt_str, fmt_int, eq_bl, bi_strB, bi_reprB, Option.some.injEq, exists_eq_left', setAll, List.length_cons, List.length_nil, List.set_cons_succ, List.set_cons_zero, List.length_set, Nat.reduceAdd, Nat.reduceLT, if_true, Nat.zero_add, reduceCtorEq, false_implies, true_implies, eq_self, and_true, true_and, Bool.true_eq_false, Bool.false_eq_true]
      refine draw_i (k := k + 1) 40 rfl D2 (by decide) fun z2 L3 hz2 D3 F3 => ?_
      try simp only [permG, List.cons_append, List.nil_append, List.getElem?_cons_zero, List.getElem?_cons_succ, decide_true, decide_false, wp_bind, wp_ret, wp_chk, wp_ofO, wp_look, wp_new, wp_setO, wp_br, v_var, v_lit, v_glo, v_bin, v_neg, v_cmp, v_cmp2, v_and, v_or, v_not, v_ife, v_tup, v_lst, v_dct0, v_dct, v_ix, v_slc, v_rev, v_bi, v_isi, v_mth, v_lset, v_rgl1, v_rgl2, v_inr, v_call, v_comp, vs_nil, vs_cons, vo_none, vo_some, vc_none, vc_some, vi_val, vi_rng1, vi_rng2, vi_rng3, vi_zip, vi_enm, vt_tup, vt_sub, vts_nil, vts_cons, x_asg, x_par, x_aug, x_exp, x_ret, x_retN, x_ifs, x_for, x_whl, x_brk, x_cnt, x_pss, b_nil', b_cons', sq_nx, sq_rt, sq_bk, sq_ct, gv_0, gv_S, wt_0, wt_S, o_add, o_sub, o_mul, o_fdiv, o_mod, o_pow, o_addT, o_mulT, c_lt, c_le, c_gt, c_ge, wp_eq_int, wp_ne_int, n_bl, n_int, bi_int, bi_len, bi_tuple, bi_list, it_tup, r_tup, r_ref, ix_tup, wp_ix_ref, ixR_lst, ixR_dic, wp_set_ref, setR_dic, sl_tup, sl_ref, pk_int, rg1_int, rg2_int, inr_int, r1_int, r2_int, r3_int, ck_bl, rk_rt, rk_nx, wp_mth, m_append, m_pop, m_count, v_fld, v_prp, v_omt, v_mk, v_calD, v_obi, v_oeq, v_ost, v_oln, v_iso, v_fst, vf_nil, vf_cons, vt_fld, wp_fld, fldR_ins, wp_fset, fsetR_ins, fmt_str, fmt_int, eq_bl, bi_strB, bi_reprB, Option.some.injEq, exists_eq_left', setAll, List.length_cons, List.length_nil, List.set_cons_succ, List.set_cons_zero, List.length_set, Nat.reduceAdd, Nat.reduceLT, if_true, Nat.zero_add, reduceCtorEq, false_implies, true_implies, eq_self, and_true, true_and, Bool.true_eq_false, Bool.false_eq_true]
      rw [show (1 + (z1 : Int)) = ((1 + z1 : Nat) : Int) by omega, show (1 + (z2 : Int)) = ((1 + z2 : Nat) : Int) by omega]
      exact ⟨by decide, q (1 + z1, 1 + z2) L3 ⟨Bt.le (m := 6) ⟨by omega, by omega⟩ (by omega), Bt.le (m := 6) ⟨by omega, by omega⟩ (by omega)⟩ D3 ((F1.trans F2).trans F3)⟩
  generalize f_l_fraction.body.drop 2 = T at *
  simp only [f_l_fraction, List.take_succ_cons, List.take_zero, permG, List.cons_append, List.nil_append, List.getElem?_cons_zero, List.getElem?_cons_succ, decide_true, decide_false, wp_bind, wp_ret, wp_chk, wp_ofO, wp_look, wp_new, wp_setO, wp_br, v_var, v_lit, v_glo, v_bin, v_neg, v_cmp, v_cmp2, v_and, v_or, v_not, v_ife, v_tup, v_lst, v_dct0, v_dct, v_ix, v_slc, v_rev, v_bi, v_isi, v_mth, v_lset, v_rgl1, v_rgl2, v_inr, v_call, v_comp, vs_nil, vs_cons, vo_none, vo_some, vc_none, vc_some, vi_val, vi_rng1, vi_rng2, vi_rng3, vi_zip, vi_enm, vt_tup, vt_sub, vts_nil, vts_cons, x_asg, x_par, x_aug, x_exp, x_ret, x_retN, x_ifs, x_for, x_whl, x_brk, x_cnt, x_pss, b_nil', b_cons', sq_nx, sq_rt, sq_bk, sq_ct, gv_0, gv_S, wt_0, wt_S, o_add, o_sub, o_mul, o_fdiv, o_mod, o_pow, o_addT, o_mulT, c_lt, c_le, c_gt, c_ge, wp_eq_int, wp_ne_int, n_bl, n_int, bi_int, bi_len, bi_tuple, bi_list, it_tup, r_tup, r_ref, ix_tup, wp_ix_ref, ixR_lst, ixR_dic, wp_set_ref, setR_dic, sl_tup, sl_ref, pk_int, rg1_int, rg2_int, inr_int, r1_int, r2_int, r3_int, ck_bl, rk_rt, rk_nx, wp_mth, m_append, m_pop, m_count, v_fld, v_prp, v_omt, v_mk, v_calD, v_obi, v_oeq, v_ost, v_oln, v_iso, v_fst, vf_nil, vf_cons, vt_fld, wp_fld, fldR_ins, wp_fset, fsetR_ins, fmt_str, fmt_int, eq_bl, bi_strB, bi_reprB, Option.some.injEq, exists_eq_left', setAll, List.length_cons, List.length_nil, List.set_cons_succ, List.set_cons_zero, List.length_set, Nat.reduceAdd, Nat.reduceLT, if_true, Nat.zero_add, reduceCtorEq, false_implies, true_implies, eq_self, and_true, true_and, Bool.true_eq_false, Bool.false_eq_true]
  refine draw_i (k := k + 1) 6 rfl D (by decide) fun z L1 hz D1 F1 => ?_
  have DX := D1.lt
  try simp only [permG, List.cons_append, List.nil_append, List.getElem?_cons_zero, List.getElem?_cons_succ, decide_true, decide_false, wp_bind, wp_ret, wp_chk, wp_ofO, wp_look, wp_new, wp_setO, wp_br, v_var, v_lit, v_glo, v_bin, v_neg, v_cmp, v_cmp2, v_and, v_or, v_not, v_ife, v_tup, v_lst, v_dct0, v_dct, v_ix, v_slc, v_rev, v_bi, v_isi, v_mth, v_lset, v_rgl1, v_rgl2, v_inr, v_call, v_comp, vs_nil, vs_cons, vo_none, vo_some, vc_none, vc_some, vi_val, vi_rng1, vi_rng2, vi_rng3, vi_zip, vi_enm, vt_tup, vt_sub, vts_nil, vts_cons, x_asg, x_par, x_aug, x_exp, x_ret, x_retN, x_ifs, x_for, x_whl, x_brk, x_cnt, x_pss, b_nil', b_cons', sq_nx, sq_rt, sq_bk, sq_ct, gv_0, gv_S, wt_0, wt_S, o_add, o_sub, o_mul, o_fdiv, o_mod, o_pow, o_addT, o_mulT, c_lt, c_le, c_gt, c_ge, wp_eq_int, wp_ne_int, n_bl, n_int, bi_int, bi_len, bi_tuple, bi_list, it_tup, r_tup, r_ref, ix_tup, wp_ix_ref, ixR_lst, ixR_dic, wp_set_ref, setR_dic, sl_tup, sl_ref, pk_int, rg1_int, rg2_int, inr_int, r1_int, r2_int, r3_int, ck_bl, rk_rt, rk_nx, wp_mth, m_append, m_pop, m_count, v_fld, v_prp, v_omt, v_mk, v_calD, v_obi, v_oeq, v_ost, v_oln, v_iso, v_fst, vf_nil, vf_cons, vt_fld, wp_fld, fldR_ins, wp_fset, fsetR_ins, fmt_str, fmt_int, eq_bl, bi_strB, bi_reprB, Option.some.injEq, exists_eq_left', setAll, List.length_cons, List.length_nil, List.set_cons_succ, List.set_cons_zero, List.length_set, Nat.reduceAdd, Nat.reduceLT, if_true, Nat.zero_add, reduceCtorEq, false_implies, true_implies, eq_self, and_true, true_and, Bool.true_eq_false, Bool.false_eq_true]
  refine ⟨fun c => ⟨by decide, ?_⟩, fun c => rest z L1 D1 F1⟩
  have hr1 := (F1.2 r (lt_of hr) r1 r2).trans hr
  refine wp_ne (eq_lst0 (at_old hr1) at_new) rfl ?_
  try simp only [permG, List.cons_append, List.nil_append, List.getElem?_cons_zero, List.getElem?_cons_succ, decide_true, decide_false, wp_bind, wp_ret, wp_chk, wp_ofO, wp_look, wp_new, wp_setO, wp_br, v_var, v_lit, v_glo, v_bin, v_neg, v_cmp, v_cmp2, v_and, v_or, v_not, v_ife, v_tup, v_lst, v_dct0, v_dct, v_ix, v_slc, v_rev, v_bi, v_isi, v_mth, v_lset, v_rgl1, v_rgl2, v_inr, v_call, v_comp, vs_nil, vs_cons, vo_none, vo_some, vc_none, vc_some, vi_val, vi_rng1, vi_rng2, vi_rng3, vi_zip, vi_enm, vt_tup, vt_sub, vts_nil, vts_cons, x_asg, x_par, x_aug, x_exp, x_ret, x_retN, x_ifs, x_for, x_whl, x_brk, x_cnt, x_pss, b_nil', b_cons', sq_nx, sq_rt, sq_bk, sq_ct, gv_0, gv_S, wt_0, wt_S, o_add, o_sub, o_mul, o_fdiv, o_mod, o_pow, o_addT, o_mulT, c_lt, c_le, c_gt, c_ge, wp_eq_int, wp_ne_int, n_bl, n_int, bi_int, bi_len, bi_tuple, bi_list, it_tup, r_tup, r_ref, ix_tup, wp_ix_ref, ixR_lst, ixR_dic, wp_set_ref, setR_dic, sl_tup, sl_ref, pk_int, rg1_int, rg2_int, inr_int, r1_int, r2_int, r3_int, ck_bl, rk_rt, rk_nx, wp_mth, m_append, m_pop, m_count, v_fld, v_prp, v_omt, v_mk, v_calD, v_obi, v_oeq, v_ost, v_oln, v_iso, v_fst, vf_nil, vf_cons, vt_fld, wp_fld, fldR_ins, wp_fset, fsetR_ins, fmt_str, fmt_int, eq_bl, bi_strB, bi_reprB, Option.some.injEq, exists_eq_left', setAll, List.length_cons, List.length_nil, List.set_cons_succ, List.set_cons_zero, List.length_set, Nat.reduceAdd, Nat.reduceLT, if_true, Nat.zero_add, reduceCtorEq, false_implies, true_implies, eq_self, and_true, true_and, Bool.true_eq_false, Bool.false_eq_true]
  refine ⟨fun c2 => ?_, fun c2 => rest z _ (D1.grow ⟨_, rfl⟩) (F1.trans (Fr.grow ⟨_, rfl⟩))⟩
  have hn : 0 < ps.length := by
    cases ps with
    | nil => simp at c2
    | cons => simp
  refine ⟨_, len_lst (at_old hr1), draw_i (k := k + 1) ps.length (by rw [List.length_map]) (D1.grow ⟨_, rfl⟩) ⟨hn, by omega⟩ fun z2 L3 hz2 D3 F3 => ?_⟩
  have hr3 : L3[r]? = some (.lst (ps.map pv)) := (F3.2 r (lt_of (at_old hr1)) r1 r2).trans (at_old hr1)
  have ea : L2.atI (ps.map pv) (z2 : Int) = some (pv ps[z2]) := L2.atI_nat (by rw [List.getElem?_map, List.getElem?_eq_getElem hz2]; rfl)
  obtain ⟨h1, h2⟩ := hp ps[z2] (List.getElem_mem hz2)
  simp only [hr3, ea, Mv.items, pv, ITs.len, permG, List.cons_append, List.nil_append, List.getElem?_cons_zero, List.getElem?_cons_succ, decide_true, decide_false, wp_bind, wp_ret, wp_chk, wp_ofO, wp_look, wp_new, wp_setO, wp_br, v_var, v_lit, v_glo, v_bin, v_neg, v_cmp, v_cmp2, v_and, v_or, v_not, v_ife, v_tup, v_lst, v_dct0, v_dct, v_ix, v_slc, v_rev, v_bi, v_isi, v_mth, v_lset, v_rgl1, v_rgl2, v_inr, v_call, v_comp, vs_nil, vs_cons, vo_none, vo_some, vc_none, vc_some, vi_val, vi_rng1, vi_rng2, vi_rng3, vi_zip, vi_enm, vt_tup, vt_sub, vts_nil, vts_cons, x_asg, x_par, x_aug, x_exp, x_ret, x_retN, x_ifs, x_for, x_whl, x_brk, x_cnt, x_pss, b_nil', b_cons', sq_nx, sq_rt, sq_bk, sq_ct, gv_0, gv_S, wt_0, wt_S, o_add, o_sub, o_mul, o_fdiv, o_mod, o_pow, o_addT, o_mulT, c_lt, c_le, c_gt, c_ge, wp_eq_int, wp_ne_int, n_bl, n_int, bi_int, bi_len, bi_tuple, bi_list, it_tup, r_tup, r_ref, ix_tup, wp_ix_ref, ixR_lst, ixR_dic, wp_set_ref, setR_dic, sl_tup, sl_ref, pk_int, rg1_int, rg2_int, inr_int, r1_int, r2_int, r3_int, ck_bl, rk_rt, rk_nx, wp_mth, m_append, m_pop, m_count, v_fld, v_prp, v_omt, v_mk, v_calD, v_obi, v_oeq, v_ost, v_oln, v_iso, v_fst, vf_nil, vf_cons, vt_fld, wp_fld, fldR_ins, wp_fset, fsetR_ins, fmt_str, fmt_int, eq_bl, bi_strB, bi_reprB, Option.some.injEq, exists_eq_left', setAll, List.length_cons, List.length_nil, List.set_cons_succ, List.set_cons_zero, List.length_set, Nat.reduceAdd, Nat.reduceLT, if_true, Nat.zero_add, reduceCtorEq, false_implies, true_implies, eq_self, and_true, true_and, Bool.true_eq_false, Bool.false_eq_true]
  refine near_ok (k := k) rfl rfl D3 h1 h2 fun p L4 hp4 D4 F4 => ?_
  try simp only [permG, List.cons_append, List.nil_append, List.getElem?_cons_zero, List.getElem?_cons_succ, decide_true, decide_false, wp_bind, wp_ret, wp_chk, wp_ofO, wp_look, wp_new, wp_setO, wp_br, v_var, v_lit, v_glo, v_bin, v_neg, v_cmp, v_cmp2, v_and, v_or, v_not, v_ife, v_tup, v_lst, v_dct0, v_dct, v_ix, v_slc, v_rev, v_bi, v_isi, v_mth, v_lset, v_rgl1, v_rgl2, v_inr, v_call, v_comp, vs_nil, vs_cons, vo_none, vo_some, vc_none, vc_some, vi_val, vi_rng1, vi_rng2, vi_rng3, vi_zip, vi_enm, vt_tup, vt_sub, vts_nil, vts_cons, x_asg, x_par, x_aug, x_exp, x_ret, x_retN, x_ifs, x_for, x_whl, x_brk, x_cnt, x_pss, b_nil', b_cons', sq_nx, sq_rt, sq_bk, sq_ct, gv_0, gv_S, wt_0, wt_S, o_add, o_sub, o_mul, o_fdiv, o_mod, o_pow, o_addT, o_mulT, c_lt, c_le, c_gt, c_ge, wp_eq_int, wp_ne_int, n_bl, n_int, bi_int, bi_len, bi_tuple, bi_list, it_tup, r_tup, r_ref, ix_tup, wp_ix_ref, ixR_lst, ixR_dic, wp_set_ref, setR_dic, sl_tup, sl_ref, pk_int, rg1_int, rg2_int, inr_int, r1_int, r2_int, r3_int, ck_bl, rk_rt, rk_nx, wp_mth, m_append, m_pop, m_count, v_fld, v_prp, v_omt, v_mk, v_calD, v_obi, v_oeq, v_ost, v_oln, v_iso, v_fst, vf_nil, vf_cons, vt_fld, wp_fld, fldR_ins, wp_fset, fsetR_ins, fmt_str, fmt_int, eq_bl, bi_strB, bi_reprB, Option.some.injEq, exists_eq_left', setAll, List.length_cons, List.length_nil, List.set_cons_succ, List.set_cons_zero, List.length_set, Nat.reduceAdd, Nat.reduceLT, if_true, Nat.zero_add, reduceCtorEq, false_implies, true_implies, eq_self, and_true, true_and, Bool.true_eq_false, Bool.false_eq_true]
  exact q p L4 hp4 D4 (((F1.trans (Fr.grow ⟨_, rfl⟩)).trans F3).trans F4)
/-! ### the least integer that is not less -/
def IsUp (a b : Nat) (c : Int) : Prop := (a : Int) ≤ c * b ∧ (c - 1) * b < a
theorem up_uniq {a b : Nat} {c e : Int} (h : IsUp a b c) (h' : IsUp a b e) : c = e := by
  have key : ∀ {c e : Int}, IsUp a b c → IsUp a b e → c ≤ e := fun {c e} h h' => by
    have h1 := h.2
    have h2 := h'.1
    have h3 : (c - 1) * (b : Int) < e * b := by omega
    have h4 : c - 1 < e := Int.lt_of_mul_lt_mul_right h3 (by omega)
    omega
  have := key h h'
  have := key h' h
  omega
theorem up_low {a b : Nat} {c : Int} (ha : 0 < a) (hb : 0 < b) (h : IsUp (a / Nat.gcd a b) (b / Nat.gcd a b) c) : IsUp a b c := by
  obtain ⟨e1, e2⟩ := low_back (a := a) (b := b)
  have hg := gcd_pos (b := b) ha
  generalize a / Nat.gcd a b = p at *
  generalize b / Nat.gcd a b = q at *
  generalize Nat.gcd a b = g at *
  subst e1 e2
  obtain ⟨h1, h2⟩ := h
  constructor
  · rw [Int.natCast_mul, Int.natCast_mul, ← Int.mul_assoc]
    exact Int.mul_le_mul_of_nonneg_right h1 (by omega)
  · rw [Int.natCast_mul, Int.natCast_mul, ← Int.mul_assoc]
    exact Int.mul_lt_mul_of_pos_right h2 (by omega)
theorem up_neg {a b : Nat} (hb : 0 < b) : IsUp a b (-(-(a : Int) / b)) := by
  have h1 := Int.mul_ediv_add_emod (-(a : Int)) b
  have h2 := Int.emod_nonneg (-(a : Int)) (b := (b : Int)) (by omega)
  have h3 := Int.emod_lt_of_pos (-(a : Int)) (b := (b : Int)) (by omega)
  constructor
  · rw [Int.neg_mul, Int.mul_comm]
    omega
  · rw [Int.sub_mul, Int.neg_mul, Int.mul_comm, Int.one_mul]
    omega
theorem up_ok {k m a b : Nat} {L : LH} {x y : Int} {Q : LV → LH → Prop} (ex : x = (a : Nat)) (ey : y = (b : Nat)) (ha : Bt m a) (hb : Bt m b) (hm : m ≤ 1000) (q : ∀ c, IsUp a b c → Q (.int c) L) :
    wp (run prog (k + 1) 11 [.int x, .int y]) L Q := by
  subst ex ey
  show wp (callFn (run prog k) f_l_up [.int a, .int b]) L Q
  rw [call_eq, wp_chk]
  refine ⟨rfl, ?_⟩
  show wp (M.bind (evB _ _ [some (.int a), some (.int b), none]) retK) L Q
  simp only [f_l_up, permG, List.cons_append, List.nil_append, List.getElem?_cons_zero, List.getElem?_cons_succ, decide_true, decide_false, wp_bind, wp_ret, wp_chk, wp_ofO, wp_look, wp_new, wp_setO, wp_br, v_var, v_lit, v_glo, v_bin, v_neg, v_cmp, v_cmp2, v_and, v_or, v_not, v_ife, v_tup, v_lst, v_dct0, v_dct, v_ix, v_slc, v_rev, v_bi, v_isi, v_mth, v_lset, v_rgl1, v_rgl2, v_inr, v_call, v_comp, vs_nil, vs_cons, vo_none, vo_some, vc_none, vc_some, vi_val, vi_rng1, vi_rng2, vi_rng3, vi_zip, vi_enm, vt_tup, vt_sub, vts_nil, vts_cons, x_asg, x_par, x_aug, x_exp, x_ret, x_retN, x_ifs, x_for, x_whl, x_brk, x_cnt, x_pss, b_nil', b_cons', sq_nx, sq_rt, sq_bk, sq_ct, gv_0, gv_S, wt_0, wt_S, o_add, o_sub, o_mul, o_fdiv, o_mod, o_pow, o_addT, o_mulT, c_lt, c_le, c_gt, c_ge, wp_eq_int, wp_ne_int, n_bl, n_int, bi_int, bi_len, bi_tuple, bi_list, it_tup, r_tup, r_ref, ix_tup, wp_ix_ref, ixR_lst, ixR_dic, wp_set_ref, setR_dic, sl_tup, sl_ref, pk_int, rg1_int, rg2_int, inr_int, r1_int, r2_int, r3_int, ck_bl, rk_rt, rk_nx, wp_mth, m_append, m_pop, m_count, v_fld, v_prp, v_omt, v_mk, v_calD, v_obi, v_oeq, v_ost, v_oln, v_iso, v_fst, vf_nil, vf_cons, vt_fld, wp_fld, fldR_ins, wp_fset, fsetR_ins, fmt_str, fmt_int, eq_bl, bi_strB, bi_reprB, Option.some.injEq, exists_eq_left', setAll, List.length_cons, List.length_nil, List.set_cons_succ, List.set_cons_zero, List.length_set, Nat.reduceAdd, Nat.reduceLT, if_true, Nat.zero_add, reduceCtorEq, false_implies, true_implies, eq_self, and_true, true_and, Bool.true_eq_false, Bool.false_eq_true]
  refine ⟨hb.divOk (by omega), ?_⟩
  have h0 : (a : Int) / b = ((a / b : Nat) : Int) := (Int.natCast_ediv _ _).symm
  have h1 := Nat.div_add_mod a b
  have h2 := Nat.mod_lt a hb.1
  refine wp_whl (fun m σ L' => L' = L ∧ ∃ f : Nat, σ = [some (.int a), some (.int b), some (.int (f : Nat))] ∧ f ≤ a + 1 ∧ ((m = 1 ∧ f = a / b) ∨ (m = 0 ∧ IsUp a b f))) 1 (by decide) ⟨rfl, a / b, by rw [h0], Nat.le_succ_of_le (Nat.div_le_self a b), .inl ⟨rfl, rfl⟩⟩ ?_
  rintro m' σ L' ⟨rfl, f, rfl, hf, hI⟩
  have ho : mulOk (f : Int) (b : Int) = true := by
    by_cases h : f = 0
    · subst h
      exact mulOk_l (by decide)
    · exact mo (m := m + 2) rfl rfl ((ha.mul (⟨by decide, by decide⟩ : Bt 2 2)).of_le (by omega) (by have := ha.1; omega)) hb (by omega)
  have hcc : (f : Int) * b = ((f * b : Nat) : Int) := mulNat
  simp only [permG, List.cons_append, List.nil_append, List.getElem?_cons_zero, List.getElem?_cons_succ, decide_true, decide_false, wp_bind, wp_ret, wp_chk, wp_ofO, wp_look, wp_new, wp_setO, wp_br, v_var, v_lit, v_glo, v_bin, v_neg, v_cmp, v_cmp2, v_and, v_or, v_not, v_ife, v_tup, v_lst, v_dct0, v_dct, v_ix, v_slc, v_rev, v_bi, v_isi, v_mth, v_lset, v_rgl1, v_rgl2, v_inr, v_call, v_comp, vs_nil, vs_cons, vo_none, vo_some, vc_none, vc_some, vi_val, vi_rng1, vi_rng2, vi_rng3, vi_zip, vi_enm, vt_tup, vt_sub, vts_nil, vts_cons, x_asg, x_par, x_aug, x_exp, x_ret, x_retN, x_ifs, x_for, x_whl, x_brk, x_cnt, x_pss, b_nil', b_cons', sq_nx, sq_rt, sq_bk, sq_ct, gv_0, gv_S, wt_0, wt_S, o_add, o_sub, o_mul, o_fdiv, o_mod, o_pow, o_addT, o_mulT, c_lt, c_le, c_gt, c_ge, wp_eq_int, wp_ne_int, n_bl, n_int, bi_int, bi_len, bi_tuple, bi_list, it_tup, r_tup, r_ref, ix_tup, wp_ix_ref, ixR_lst, ixR_dic, wp_set_ref, setR_dic, sl_tup, sl_ref, pk_int, rg1_int, rg2_int, inr_int, r1_int, r2_int, r3_int, ck_bl, rk_rt, rk_nx, wp_mth, m_append, m_pop, m_count, v_fld, v_prp, v_omt, v_mk, v_calD, v_obi, v_oeq, v_ost, v_oln, v_iso, v_fst, vf_nil, vf_cons, vt_fld, wp_fld, fldR_ins, wp_fset, fsetR_ins, fmt_str, fmt_int, eq_bl, bi_strB, bi_reprB, Option.some.injEq, exists_eq_left', setAll, List.length_cons, List.length_nil, List.set_cons_succ, List.set_cons_zero, List.length_set, Nat.reduceAdd, Nat.reduceLT, if_true, Nat.zero_add, reduceCtorEq, false_implies, true_implies, eq_self, and_true, true_and, Bool.true_eq_false, Bool.false_eq_true]
  refine ⟨ho, _, rfl, fun c => ?_, fun c => ?_⟩
  · have c := of_decide_eq_false c
    refine q f ?_
    rcases hI with ⟨_, rfl⟩ | ⟨_, h⟩
    · rw [Nat.mul_comm] at h1
      refine ⟨by omega, ?_⟩
      rw [Int.sub_mul, Int.one_mul, mulNat]
      rw [hcc] at c
      have := hb.1
      have e : a / b * b ≤ a := Nat.div_mul_le_self a b
      omega
    · exact h
  · have c := of_decide_eq_true c
    rcases hI with ⟨rfl, rfl⟩ | ⟨rfl, h⟩
    · refine ⟨0, by decide, rfl, a / b + 1, by rw [Int.natCast_add, Int.natCast_one], Nat.succ_le_succ (Nat.div_le_self a b), .inr ⟨rfl, ?_⟩⟩
      rw [hcc] at c
      have e : (a / b + 1) * b = b * (a / b) + b := by rw [Nat.add_mul, Nat.one_mul, Nat.mul_comm]
      refine ⟨?_, ?_⟩
      · rw [mulNat, e]
        omega
      · rw [show (((a / b + 1 : Nat) : Int) - 1) = ((a / b : Nat) : Int) by omega, mulNat]
        omega
    · have := h.1
      omega
theorem upM_ok {k m a b i : Nat} {L : LH} {Q : LV → LH → Prop} (hi : L[i]? = some (low a b)) (ha : Bt m a) (hb : Bt m b) (hm : m ≤ 1000) (q : ∀ c, IsUp a b c → Q (.int c) L) :
    wp (run prog (k + 1) 6 [.ref i]) L Q := by
  show wp (callFn (run prog k) f_Flow_up [.ref i]) L Q
  rw [call_eq, wp_chk]
  refine ⟨rfl, ?_⟩
  show wp (M.bind (evB _ _ [some (.ref i)]) retK) L Q
  simp only [f_Flow_up, hi, cF, lk_top, lk_bot, permG, List.cons_append, List.nil_append, List.getElem?_cons_zero, List.getElem?_cons_succ, decide_true, decide_false, wp_bind, wp_ret, wp_chk, wp_ofO, wp_look, wp_new, wp_setO, wp_br, v_var, v_lit, v_glo, v_bin, v_neg, v_cmp, v_cmp2, v_and, v_or, v_not, v_ife, v_tup, v_lst, v_dct0, v_dct, v_ix, v_slc, v_rev, v_bi, v_isi, v_mth, v_lset, v_rgl1, v_rgl2, v_inr, v_call, v_comp, vs_nil, vs_cons, vo_none, vo_some, vc_none, vc_some, vi_val, vi_rng1, vi_rng2, vi_rng3, vi_zip, vi_enm, vt_tup, vt_sub, vts_nil, vts_cons, x_asg, x_par, x_aug, x_exp, x_ret, x_retN, x_ifs, x_for, x_whl, x_brk, x_cnt, x_pss, b_nil', b_cons', sq_nx, sq_rt, sq_bk, sq_ct, gv_0, gv_S, wt_0, wt_S, o_add, o_sub, o_mul, o_fdiv, o_mod, o_pow, o_addT, o_mulT, c_lt, c_le, c_gt, c_ge, wp_eq_int, wp_ne_int, n_bl, n_int, bi_int, bi_len, bi_tuple, bi_list, it_tup, r_tup, r_ref, ix_tup, wp_ix_ref, ixR_lst, ixR_dic, wp_set_ref, setR_dic, sl_tup, sl_ref, pk_int, rg1_int, rg2_int, inr_int, r1_int, r2_int, r3_int, ck_bl, rk_rt, rk_nx, wp_mth, m_append, m_pop, m_count, v_fld, v_prp, v_omt, v_mk, v_calD, v_obi, v_oeq, v_ost, v_oln, v_iso, v_fst, vf_nil, vf_cons, vt_fld, wp_fld, fldR_ins, wp_fset, fsetR_ins, fmt_str, fmt_int, eq_bl, bi_strB, bi_reprB, Option.some.injEq, exists_eq_left', setAll, List.length_cons, List.length_nil, List.set_cons_succ, List.set_cons_zero, List.length_set, Nat.reduceAdd, Nat.reduceLT, if_true, Nat.zero_add, reduceCtorEq, false_implies, true_implies, eq_self, and_true, true_and, Bool.true_eq_false, Bool.false_eq_true]
  have h2 := hb.lo' ha.1
  exact ⟨h2.divOk (by omega), q _ (up_low ha.1 hb.1 (up_neg h2.1))⟩
theorem below_low {a b c d : Nat} (ha : 0 < a) (hb : 0 < b) (hc : 0 < c) (hd : 0 < d) : ((a / Nat.gcd a b * (d / Nat.gcd c d) : Nat) < (c / Nat.gcd c d * (b / Nat.gcd a b) : Nat)) ↔ a * d < c * b := by
  obtain ⟨e1, e2⟩ := low_back (a := a) (b := b)
  obtain ⟨e3, e4⟩ := low_back (a := c) (b := d)
  have hg := gcd_pos (b := b) ha
  have hh := gcd_pos (b := d) hc
  generalize a / Nat.gcd a b = p at *
  generalize b / Nat.gcd a b = q at *
  generalize c / Nat.gcd c d = r at *
  generalize d / Nat.gcd c d = s at *
  generalize Nat.gcd a b = g at *
  generalize Nat.gcd c d = h at *
  subst e1 e2 e3 e4
  have x1 : p * g * (s * h) = p * s * (g * h) := Nat.mul_mul_mul_comm ..
  have x2 : r * h * (q * g) = r * q * (g * h) := by rw [Nat.mul_mul_mul_comm, Nat.mul_comm h g]
  rw [x1, x2]
  exact ⟨fun z => Nat.mul_lt_mul_of_pos_right z (Nat.mul_pos hg hh), fun z => Nat.lt_of_mul_lt_mul_right z⟩
theorem belowM_ok {k m a b c d i j : Nat} {L : LH} {Q : LV → LH → Prop} (hi : L[i]? = some (low a b)) (hj : L[j]? = some (low c d)) (ha : Bt m a) (hb : Bt m b) (hc : Bt m c) (hd : Bt m d) (hm : m ≤ 1000) (q : Q (.bl (decide (a * d < c * b))) L) :
    wp (run prog (k + 1) 5 [.ref i, .ref j]) L Q := by
  show wp (callFn (run prog k) f_Flow_is_below [.ref i, .ref j]) L Q
  rw [call_eq, wp_chk]
  refine ⟨rfl, ?_⟩
  show wp (M.bind (evB _ _ [some (.ref i), some (.ref j)]) retK) L Q
  have h1 := ha.lo hb.1
  have h2 := hb.lo' ha.1
  have h3 := hc.lo hd.1
  have h4 := hd.lo' hc.1
  simp only [f_Flow_is_below, hi, hj, cF, lk_top, lk_bot, permG, List.cons_append, List.nil_append, List.getElem?_cons_zero, List.getElem?_cons_succ, decide_true, decide_false, wp_bind, wp_ret, wp_chk, wp_ofO, wp_look, wp_new, wp_setO, wp_br, v_var, v_lit, v_glo, v_bin, v_neg, v_cmp, v_cmp2, v_and, v_or, v_not, v_ife, v_tup, v_lst, v_dct0, v_dct, v_ix, v_slc, v_rev, v_bi, v_isi, v_mth, v_lset, v_rgl1, v_rgl2, v_inr, v_call, v_comp, vs_nil, vs_cons, vo_none, vo_some, vc_none, vc_some, vi_val, vi_rng1, vi_rng2, vi_rng3, vi_zip, vi_enm, vt_tup, vt_sub, vts_nil, vts_cons, x_asg, x_par, x_aug, x_exp, x_ret, x_retN, x_ifs, x_for, x_whl, x_brk, x_cnt, x_pss, b_nil', b_cons', sq_nx, sq_rt, sq_bk, sq_ct, gv_0, gv_S, wt_0, wt_S, o_add, o_sub, o_mul, o_fdiv, o_mod, o_pow, o_addT, o_mulT, c_lt, c_le, c_gt, c_ge, wp_eq_int, wp_ne_int, n_bl, n_int, bi_int, bi_len, bi_tuple, bi_list, it_tup, r_tup, r_ref, ix_tup, wp_ix_ref, ixR_lst, ixR_dic, wp_set_ref, setR_dic, sl_tup, sl_ref, pk_int, rg1_int, rg2_int, inr_int, r1_int, r2_int, r3_int, ck_bl, rk_rt, rk_nx, wp_mth, m_append, m_pop, m_count, v_fld, v_prp, v_omt, v_mk, v_calD, v_obi, v_oeq, v_ost, v_oln, v_iso, v_fst, vf_nil, vf_cons, vt_fld, wp_fld, fldR_ins, wp_fset, fsetR_ins, fmt_str, fmt_int, eq_bl, bi_strB, bi_reprB, Option.some.injEq, exists_eq_left', setAll, List.length_cons, List.length_nil, List.set_cons_succ, List.set_cons_zero, List.length_set, Nat.reduceAdd, Nat.reduceLT, if_true, Nat.zero_add, reduceCtorEq, false_implies, true_implies, eq_self, and_true, true_and, Bool.true_eq_false, Bool.false_eq_true]
  refine ⟨h1.mulOk h4 (by omega), h3.mulOk h2 (by omega), ?_⟩
  rw [mulNat, mulNat, decide_eq_decide.mpr (Int.ofNat_lt.trans (below_low ha.1 hb.1 hc.1 hd.1))]
  exact q
end K15



namespace K15
open PySem Mv
/-- the pairs at r, the flows made of them at g -/
structure Made (ps : List (Nat × Nat)) (r g : Nat) (L : LH) : Prop where
  pr : L[r]? = some (.lst (ps.map pv))
  fl : ∃ ys : List LV, L[g]? = some (.lst ys) ∧ ∀ (j : Nat) (p : Nat × Nat), ps[j]? = some p → ∃ n : Nat, ys[j]? = some (LV.ref n) ∧ L[n]? = some (low p.1 p.2)
theorem Made.grow {ps : List (Nat × Nat)} {r g : Nat} {L L' : LH} (h : Made ps r g L) (e : Grow L L') : Made ps r g L' := by
  obtain ⟨pr, ys, h1, h2⟩ := h
  refine ⟨grow_at e pr, ys, grow_at e h1, fun j p hj => ?_⟩
  obtain ⟨n, h3, h4⟩ := h2 j p hj
  exact ⟨n, h3, grow_at e h4⟩
theorem eq_bls {L : LH} {a b : Nat} {xs ys : List Bool} (hy : ys ≠ []) (e1 : L[a]? = some (.lst (xs.map .bl))) (e2 : L[b]? = some (.lst (ys.map .bl))) : Mv.eqV L (.ref a) (.ref b) = some (decide (xs = ys)) := by
  have h : ∀ (n : Nat) (bs : List Bool), optAll (toD L (n + 1)) (bs.map .bl) = some (bs.map .bool) := by
    intro n bs
    induction bs with
    | nil => rfl
    | cons b r ih =>
      simp only [List.map_cons, optAll, ih]
      rfl
  have td : ∀ {a : Nat} {bs : List Bool}, L[a]? = some (.lst (bs.map .bl)) → toD L 66 (.ref a) = some (.list (bs.map .bool)) := fun e => by
    rw [toD]
    simp only [e, h, Option.map]
  have lay : ∀ bs : List Bool, PyData.canLayAll0 (bs.map .bool) = true := fun bs => by
    induction bs with
    | nil => simp [PyData.canLayAll0]
    | cons b r ih => simp [PyData.canLayAll0, PyData.canLay0, ih]
  have dep : ∀ bs : List Bool, PyData.depthAll (bs.map .bool) = 0 := fun bs => by
    induction bs with
    | nil => simp [PyData.depthAll]
    | cons b r ih => simp [PyData.depthAll, PyData.depth, ih]
  have sh : ∀ bs : List Bool, SeqAt.shaped (.list (bs.map .bool)) = true := fun bs => by simp [SeqAt.shaped, PyData.canLay0, lay, PyData.depth, dep]
  have ev : ∀ xs ys : List Bool, PyData.eqvAll (xs.map .bool) (ys.map .bool) = decide (xs = ys) := by
    intro xs
    induction xs with
    | nil => intro ys; cases ys <;> simp [PyData.eqvAll]
    | cons x xs ih =>
      intro ys
      cases ys with
      | nil => simp [PyData.eqvAll]
      | cons y ys =>
        simp only [List.map_cons, PyData.eqvAll, ih ys, PyData.eqv]
        by_cases h : x = y <;> by_cases h2 : xs = ys <;> simp [h, h2]
  show (match empPair L (.ref a) (.ref b) with
    | some b => some b
    | none => eqVd L (.ref a) (.ref b)) = _
  rw [emp_lst e1 e2, if_neg (by simpa using hy)]
  dsimp only
  unfold eqVd
  rw [td e1, td e2]
  simp only [sh, PyData.eqv, ev, Bool.and_self, if_true]
theorem enm_ref {n : Nat} {xs : List LV} {L : LH} {Q : Src → LH → Prop} (e : L[n]? = some (.lst xs)) (q : Q (.enmd (.ref n) xs.length) L) : wp (enmK (.ref n)) L Q := by
  refine wp_look.mpr ⟨xs.length, ?_, wp_ret.mpr q⟩
  show (itemsL L (.ref n)).map List.length = _
  rw [items_lst e]
  rfl
theorem enm_at {n k i : Nat} {ps : List (Nat × Nat)} {p : Nat × Nat} {L : LH} (e : L[n]? = some (.lst (ps.map pv))) (hp : ps[i]? = some p) : (Src.enmd (.ref n) k).at i L = some (.tup [.int (i : Nat), pv p]) := by
  show ((itemsL L (.ref n)).bind fun xs => (xs[i]?).map fun a => LV.tup [.int (i : Nat), a]) = _
  rw [items_lst e]
  simp [hp]
theorem enm_fin {n k : Nat} {ps : List (Nat × Nat)} {L : LH} (e : L[n]? = some (.lst (ps.map pv))) (hk : k = (ps.map pv).length) : (Src.enmd (.ref n) k).fin L = true := by
  subst hk
  show decide ((itemsL L (.ref n)).map List.length = some (ps.map pv).length) = true
  rw [items_lst e]
  exact decide_eq_true rfl
theorem toR_iv {L : LH} {n : Nat} {xs : List Int} (e : L[n]? = some (.lst (iv xs))) : toR L (.ref n) = some (.list (xs.map .int)) := by
  have h : ∀ (n : Nat) (xs : List Int), optAll (toRD L (n + 1)) (iv xs) = some (xs.map .int) := by
    intro n bs
    induction bs with
    | nil => rfl
    | cons b r ih =>
      show optAll (toRD L (n + 1)) (LV.int b :: iv r) = _
      simp only [optAll, ih]
      rfl
  show toRD L 66 (.ref n) = _
  rw [toRD]
  simp only [e, h, Option.map]
theorem rep_iv {L : LH} {n : Nat} {xs : List Int} {Q : LV → LH → Prop} (e : L[n]? = some (.lst (iv xs))) (hx : ∀ x ∈ xs, x.natAbs.log2 < 500) (hl : xs.length ≤ 10) (q : Q (.str (PyData.list (xs.map .int)).shown) L) : wp (biV .repr [.ref n]) L Q := by
  obtain ⟨h1, h2, h3⟩ := show_ints (b := 500) (by decide) hx
  refine wp_repr (toR_iv e) (repr_chk ?_ ?_ ?_ ?_) q
  · simpa [PyData.showable] using h1
  · simpa [PyData.leavesShort] using h2
  · have : 502 * xs.length ≤ 5020 := Nat.mul_le_mul_left 502 hl
    simp only [PyData.weight]
    omega
  · simp [PyData.depth, depth_ints]
def chkR (bs : List Bool) : Bool := (PyData.list (bs.map .bool)).showable && small (PyData.shown (.list (bs.map .bool))).length && decide ((PyData.list (bs.map .bool)).depth ≤ 64)
theorem chk3 (a : Bool) : chkR [a, a, a] = true := by cases a <;> decide +kernel
theorem rep_bls {L : LH} {n : Nat} {bs : List Bool} {Q : LV → LH → Prop} (e : L[n]? = some (.lst (bs.map .bl))) (c : chkR bs = true) (q : Q (.str (PyData.list (bs.map .bool)).shown) L) : wp (biV .repr [.ref n]) L Q := wp_repr (toR_bls e) c q
theorem three {x y : Nat} : ([LV.bl (decide (x < y)), .bl (decide (y < x)), .bl (decide (x = y))].countP fun z => flatEq z (.bl true)) = 1 := by
  rcases Nat.lt_trichotomy x y with h | h | h
  · rw [decide_eq_true h, decide_eq_false (by omega), decide_eq_false (by omega)]
    rfl
  · rw [decide_eq_false (by omega : ¬ x < y), decide_eq_false (by omega), decide_eq_true h]
    rfl
  · rw [decide_eq_false (by omega : ¬ x < y), decide_eq_true h, decide_eq_false (by omega)]
    rfl
theorem up_bt {m a b : Nat} {c : Int} (ha : Bt m a) (hb : Bt m b) (hm : m ≤ 499) (h : IsUp a b c) : 1 ≤ c ∧ c.natAbs.log2 < 500 := by
  obtain ⟨h1, h2⟩ := h
  have b0 := hb.1
  have a0 := ha.1
  have c1 : 1 ≤ c := by
    by_cases hc : c ≤ 0
    · have := Int.mul_le_mul_of_nonneg_right (c := (b : Int)) hc (by omega)
      omega
    · omega
  refine ⟨c1, ?_⟩
  have h3 : (c - 1) * 1 ≤ (c - 1) * b := Int.mul_le_mul_of_nonneg_left (by omega) (by omega)
  have h4 : c.natAbs ≤ a := by omega
  have h5 := (ha.of_le (b := c.natAbs) (by omega) h4).log
  omega
theorem fm_const {α : Type} {v : LV} : ∀ l : List α, l.filterMap (fun _ => some v) = List.replicate l.length v
  | [] => rfl
  | x :: xs => by
    have ih := fm_const (v := v) xs
    show (v :: xs.filterMap fun _ => some v) = _
    rw [ih]
    rfl
theorem low_x {a b : Nat} : a / Nat.gcd a b * b = b / Nat.gcd a b * a := by
  obtain ⟨e1, e2⟩ := low_back (a := a) (b := b)
  generalize a / Nat.gcd a b = p at *
  generalize b / Nat.gcd a b = q at *
  generalize Nat.gcd a b = g at *
  subst e1 e2
  simp only [Nat.mul_comm, Nat.mul_left_comm]
/-- the flows are made -/
theorem comp_mk {k m r : Nat} {turn : LV → M (Option LV)} {ps : List (Nat × Nat)} {L : LH} {Q : LV → LH → Prop} (hr : L[r]? = some (.lst (ps.map pv))) (hl : ps.length ≤ 1000) (hp : ∀ p ∈ ps, Btp m p) (hm : m < 4000)
    (ht : ∀ p L1 (Q' : Option LV → LH → Prop), Btp m p → Q' (some (.ref L1.length)) (L1 ++ [low p.1 p.2]) → wp (turn (pv p)) L1 Q')
    (q : ∀ g L', Made ps r g L' → Fr L.length L.length L L' → Q (.ref g) L') :
    wp (compK (.live r (ps.map pv).length) turn (.ref L.length)) (L ++ [.lst []]) Q := by
  have lr := lt_of hr
  have h := wp_comp (s := .live r (ps.map pv).length) (turn := turn) (Q := Q) (L := L) (fun i ys L' => Fr L.length L.length L L' ∧ ys.length = i ∧ ∀ (j : Nat) (p : Nat × Nat), j < i → ps[j]? = some p → ∃ n : Nat, ys[j]? = some (LV.ref n) ∧ n ≠ L.length ∧ L'[n]? = some (low p.1 p.2)) ⟨Fr.grow ⟨_, rfl⟩, rfl, fun j p hj => absurd hj (Nat.not_lt_zero j)⟩ ?_ ?_
  · rw [wp_bind, wp_new] at h
    exact h
  · rintro i ys L' hi eD ⟨F, hy, hf⟩
    have hi : i < ps.length := by simpa [Src.len] using hi
    have er : L'[r]? = some (.lst (ps.map pv)) := (F.2 r lr (by omega) (by omega)).trans hr
    refine ⟨pv ps[i], ?_, ht _ _ _ (hp _ (List.getElem_mem hi)) ⟨at_old eD, by rw [hy]; exact Nat.lt_of_le_of_lt (show i ≤ 1000 by omega) (by decide), ?_, by simp [hy], ?_⟩⟩
    · show ((itemsL L' (.ref r)).bind fun xs => xs[i]?) = _
      rw [items_lst er]
      show (ps.map pv)[i]? = _
      simp [hi]
    · exact (F.trans (Fr.grow ⟨_, rfl⟩)).trans Fr.setD
    · intro j p hj hpj
      have lD := lt_of eD
      by_cases e : j < i
      · obtain ⟨n, h1, h2, h3⟩ := hf j p e hpj
        exact ⟨n, by rw [List.getElem?_append_left (by omega)]; exact h1, h2, by rw [List.getElem?_set_ne (Ne.symm h2)]; exact at_old h3⟩
      · have e : j = i := by omega
        subst e
        rw [List.getElem?_eq_getElem hi] at hpj
        cases hpj
        exact ⟨L'.length, by rw [← hy]; simp, by omega, by rw [List.getElem?_set_ne (by omega)]; exact at_new⟩
  · rintro ys L' eD ⟨F, hy, hf⟩
    have er : L'[r]? = some (.lst (ps.map pv)) := (F.2 r lr (by omega) (by omega)).trans hr
    refine ⟨?_, q _ _ ⟨er, ys, eD, fun j p hj => ?_⟩ F⟩
    · show (match itemsL L' (.ref r) with
        | some xs => decide (xs.length ≤ (ps.map pv).length)
        | none => false) = true
      rw [items_lst er]
      exact decide_eq_true (Nat.le_refl _)
    · have hl2 : j < ps.length := (List.getElem?_eq_some_iff.mp hj).1
      obtain ⟨n, h1, h2, h3⟩ := hf j p (by simpa [Src.len] using hl2) hj
      exact ⟨n, h1, h3⟩
theorem law_wp {k : Nat} {ns : List Int} (hl : ns.length ≤ 63) : wp (run prog (k + 4) 12 [.ref 0]) [.frz ns] fun v _ => v = .bl true := by
  show wp (callFn (run prog (k + 3)) f_law [.ref 0]) [.frz ns] _
  rw [call_eq, wp_chk]
  refine ⟨rfl, ?_⟩
  show wp (Mv.M.bind (evB _ _ [some (.ref 0), none, none, none, none, none, none, none, none, none, none, none, none, none]) retK) [.frz ns] _
  simp only [f_law, permG, List.cons_append, List.nil_append, List.getElem?_cons_zero, List.getElem?_cons_succ, decide_true, decide_false, wp_bind, wp_ret, wp_chk, wp_ofO, wp_look, wp_new, wp_setO, wp_br, v_var, v_lit, v_glo, v_bin, v_neg, v_cmp, v_cmp2, v_and, v_or, v_not, v_ife, v_tup, v_lst, v_dct0, v_dct, v_ix, v_slc, v_rev, v_bi, v_isi, v_mth, v_lset, v_rgl1, v_rgl2, v_inr, v_call, v_comp, vs_nil, vs_cons, vo_none, vo_some, vc_none, vc_some, vi_val, vi_rng1, vi_rng2, vi_rng3, vi_zip, vi_enm, vt_tup, vt_sub, vts_nil, vts_cons, x_asg, x_par, x_aug, x_exp, x_ret, x_retN, x_ifs, x_for, x_whl, x_brk, x_cnt, x_pss, b_nil', b_cons', sq_nx, sq_rt, sq_bk, sq_ct, gv_0, gv_S, wt_0, wt_S, o_add, o_sub, o_mul, o_fdiv, o_mod, o_pow, o_addT, o_mulT, c_lt, c_le, c_gt, c_ge, wp_eq_int, wp_ne_int, n_bl, n_int, bi_int, bi_len, bi_tuple, bi_list, it_tup, r_tup, r_ref, ix_tup, wp_ix_ref, ixR_lst, ixR_dic, wp_set_ref, setR_dic, sl_tup, sl_ref, pk_int, rg1_int, rg2_int, inr_int, r1_int, r2_int, r3_int, ck_bl, rk_rt, rk_nx, wp_mth, m_append, m_pop, m_count, v_fld, v_prp, v_omt, v_mk, v_calD, v_obi, v_oeq, v_ost, v_oln, v_iso, v_fst, vf_nil, vf_cons, vt_fld, wp_fld, fldR_ins, wp_fset, fsetR_ins, fmt_str, fmt_int, eq_bl, bi_strB, bi_reprB, Option.some.injEq, exists_eq_left', setAll, List.length_cons, List.length_nil, List.set_cons_succ, List.set_cons_zero, List.length_set, Nat.reduceAdd, Nat.reduceLT, if_true, Nat.zero_add, reduceCtorEq, false_implies, true_implies, eq_self, and_true, true_and, Bool.true_eq_false, Bool.false_eq_true]
  refine deck_ok (k := k + 2) hl fun L0 D0 => ?_
  try simp only [permG, List.cons_append, List.nil_append, List.getElem?_cons_zero, List.getElem?_cons_succ, decide_true, decide_false, wp_bind, wp_ret, wp_chk, wp_ofO, wp_look, wp_new, wp_setO, wp_br, v_var, v_lit, v_glo, v_bin, v_neg, v_cmp, v_cmp2, v_and, v_or, v_not, v_ife, v_tup, v_lst, v_dct0, v_dct, v_ix, v_slc, v_rev, v_bi, v_isi, v_mth, v_lset, v_rgl1, v_rgl2, v_inr, v_call, v_comp, vs_nil, vs_cons, vo_none, vo_some, vc_none, vc_some, vi_val, vi_rng1, vi_rng2, vi_rng3, vi_zip, vi_enm, vt_tup, vt_sub, vts_nil, vts_cons, x_asg, x_par, x_aug, x_exp, x_ret, x_retN, x_ifs, x_for, x_whl, x_brk, x_cnt, x_pss, b_nil', b_cons', sq_nx, sq_rt, sq_bk, sq_ct, gv_0, gv_S, wt_0, wt_S, o_add, o_sub, o_mul, o_fdiv, o_mod, o_pow, o_addT, o_mulT, c_lt, c_le, c_gt, c_ge, wp_eq_int, wp_ne_int, n_bl, n_int, bi_int, bi_len, bi_tuple, bi_list, it_tup, r_tup, r_ref, ix_tup, wp_ix_ref, ixR_lst, ixR_dic, wp_set_ref, setR_dic, sl_tup, sl_ref, pk_int, rg1_int, rg2_int, inr_int, r1_int, r2_int, r3_int, ck_bl, rk_rt, rk_nx, wp_mth, m_append, m_pop, m_count, v_fld, v_prp, v_omt, v_mk, v_calD, v_obi, v_oeq, v_ost, v_oln, v_iso, v_fst, vf_nil, vf_cons, vt_fld, wp_fld, fldR_ins, wp_fset, fsetR_ins, fmt_str, fmt_int, eq_bl, bi_strB, bi_reprB, Option.some.injEq, exists_eq_left', setAll, List.length_cons, List.length_nil, List.set_cons_succ, List.set_cons_zero, List.length_set, Nat.reduceAdd, Nat.reduceLT, if_true, Nat.zero_add, reduceCtorEq, false_implies, true_implies, eq_self, and_true, true_and, Bool.true_eq_false, Bool.false_eq_true]
  refine ⟨by decide, ?_⟩
  have e0 : (rngV 0 (Int.toNat 6)).len = 6 := rfl
  refine wp_for (fun i σ L => ∃ x2 x3 x4 x5 x6 x7 x8 x9 x10 x11 x12 x13, σ = [some (.ref 0), some (.ref 2), x2, x3, x4, x5, x6, x7, x8, x9, x10, x11, x12, x13] ∧ Deck 2 5 L) ⟨_, _, _, _, _, _, _, _, _, _, _, _, rfl, D0⟩ ?_ ?_
  · rintro i σ L hi ⟨x2, x3, x4, x5, x6, x7, x8, x9, x10, x11, x12, x13, rfl, D⟩
    rw [e0] at hi
    have DX := D.lt
    refine ⟨.int i, by simp [Src.at, rngV, hi], ?_⟩
    simp only [permG, List.cons_append, List.nil_append, List.getElem?_cons_zero, List.getElem?_cons_succ, decide_true, decide_false, wp_bind, wp_ret, wp_chk, wp_ofO, wp_look, wp_new, wp_setO, wp_br, v_var, v_lit, v_glo, v_bin, v_neg, v_cmp, v_cmp2, v_and, v_or, v_not, v_ife, v_tup, v_lst, v_dct0, v_dct, v_ix, v_slc, v_rev, v_bi, v_isi, v_mth, v_lset, v_rgl1, v_rgl2, v_inr, v_call, v_comp, vs_nil, vs_cons, vo_none, vo_some, vc_none, vc_some, vi_val, vi_rng1, vi_rng2, vi_rng3, vi_zip, vi_enm, vt_tup, vt_sub, vts_nil, vts_cons, x_asg, x_par, x_aug, x_exp, x_ret, x_retN, x_ifs, x_for, x_whl, x_brk, x_cnt, x_pss, b_nil', b_cons', sq_nx, sq_rt, sq_bk, sq_ct, gv_0, gv_S, wt_0, wt_S, o_add, o_sub, o_mul, o_fdiv, o_mod, o_pow, o_addT, o_mulT, c_lt, c_le, c_gt, c_ge, wp_eq_int, wp_ne_int, n_bl, n_int, bi_int, bi_len, bi_tuple, bi_list, it_tup, r_tup, r_ref, ix_tup, wp_ix_ref, ixR_lst, ixR_dic, wp_set_ref, setR_dic, sl_tup, sl_ref, pk_int, rg1_int, rg2_int, inr_int, r1_int, r2_int, r3_int, ck_bl, rk_rt, rk_nx, wp_mth, m_append, m_pop, m_count, v_fld, v_prp, v_omt, v_mk, v_calD, v_obi, v_oeq, v_ost, v_oln, v_iso, v_fst, vf_nil, vf_cons, vt_fld, wp_fld, fldR_ins, wp_fset, fsetR_ins, fmt_str, fmt_int, eq_bl, bi_strB, bi_reprB, Option.some.injEq, exists_eq_left', setAll, List.length_cons, List.length_nil, List.set_cons_succ, List.set_cons_zero, List.length_set, Nat.reduceAdd, Nat.reduceLT, if_true, Nat.zero_add, reduceCtorEq, false_implies, true_implies, eq_self, and_true, true_and, Bool.true_eq_false, Bool.false_eq_true]
    refine ⟨by decide, draw_i (k := k + 2) 8 rfl (D.grow ⟨_, rfl⟩) (by decide) fun z L1 hz D1 F1 => ?_⟩
    have hr1 : L1[L.length]? = some (.lst []) := (F1.2 _ (by simp) (by omega) (by omega)).trans at_new
    try simp only [permG, List.cons_append, List.nil_append, List.getElem?_cons_zero, List.getElem?_cons_succ, decide_true, decide_false, wp_bind, wp_ret, wp_chk, wp_ofO, wp_look, wp_new, wp_setO, wp_br, v_var, v_lit, v_glo, v_bin, v_neg, v_cmp, v_cmp2, v_and, v_or, v_not, v_ife, v_tup, v_lst, v_dct0, v_dct, v_ix, v_slc, v_rev, v_bi, v_isi, v_mth, v_lset, v_rgl1, v_rgl2, v_inr, v_call, v_comp, vs_nil, vs_cons, vo_none, vo_some, vc_none, vc_some, vi_val, vi_rng1, vi_rng2, vi_rng3, vi_zip, vi_enm, vt_tup, vt_sub, vts_nil, vts_cons, x_asg, x_par, x_aug, x_exp, x_ret, x_retN, x_ifs, x_for, x_whl, x_brk, x_cnt, x_pss, b_nil', b_cons', sq_nx, sq_rt, sq_bk, sq_ct, gv_0, gv_S, wt_0, wt_S, o_add, o_sub, o_mul, o_fdiv, o_mod, o_pow, o_addT, o_mulT, c_lt, c_le, c_gt, c_ge, wp_eq_int, wp_ne_int, n_bl, n_int, bi_int, bi_len, bi_tuple, bi_list, it_tup, r_tup, r_ref, ix_tup, wp_ix_ref, ixR_lst, ixR_dic, wp_set_ref, setR_dic, sl_tup, sl_ref, pk_int, rg1_int, rg2_int, inr_int, r1_int, r2_int, r3_int, ck_bl, rk_rt, rk_nx, wp_mth, m_append, m_pop, m_count, v_fld, v_prp, v_omt, v_mk, v_calD, v_obi, v_oeq, v_ost, v_oln, v_iso, v_fst, vf_nil, vf_cons, vt_fld, wp_fld, fldR_ins, wp_fset, fsetR_ins, fmt_str, fmt_int, eq_bl, bi_strB, bi_reprB, Option.some.injEq, exists_eq_left', setAll, List.length_cons, List.length_nil, List.set_cons_succ, List.set_cons_zero, List.length_set, Nat.reduceAdd, Nat.reduceLT, if_true, Nat.zero_add, reduceCtorEq, false_implies, true_implies, eq_self, and_true, true_and, Bool.true_eq_false, Bool.false_eq_true]
    refine ⟨decide_eq_true (by omega), ?_⟩
    have hN : (2 + (z : Int)).toNat = 2 + z := by omega
    rw [hN]
    generalize L.length = r at *
    clear F1
    have e1 : (rngV 0 (2 + z)).len = 2 + z := by simp [rngV, Src.len]
    refine wp_for (fun i' σ L' => ∃ x4 ps, σ = [some (.ref 0), some (.ref 2), some (.int i), some (.ref r), x4, x5, x6, x7, x8, x9, x10, x11, x12, x13] ∧ L'[r]? = some (.lst (ps.map pv)) ∧ ps.length = i' ∧ (∀ p ∈ ps, Btp (95 + 31 * i') p) ∧ Deck 2 5 L') ⟨_, [], rfl, hr1, rfl, fun _ h => (by cases h), D1⟩ ?_ ?_
    · rintro i' σ L' hi' ⟨x4, ps, rfl, hr, hl', hp, D'⟩
      rw [e1] at hi'
      refine ⟨.int i', by simp [Src.at, rngV, hi'], ?_⟩
      simp only [lstAt, hr, permG, List.cons_append, List.nil_append, List.getElem?_cons_zero, List.getElem?_cons_succ, decide_true, decide_false, wp_bind, wp_ret, wp_chk, wp_ofO, wp_look, wp_new, wp_setO, wp_br, v_var, v_lit, v_glo, v_bin, v_neg, v_cmp, v_cmp2, v_and, v_or, v_not, v_ife, v_tup, v_lst, v_dct0, v_dct, v_ix, v_slc, v_rev, v_bi, v_isi, v_mth, v_lset, v_rgl1, v_rgl2, v_inr, v_call, v_comp, vs_nil, vs_cons, vo_none, vo_some, vc_none, vc_some, vi_val, vi_rng1, vi_rng2, vi_rng3, vi_zip, vi_enm, vt_tup, vt_sub, vts_nil, vts_cons, x_asg, x_par, x_aug, x_exp, x_ret, x_retN, x_ifs, x_for, x_whl, x_brk, x_cnt, x_pss, b_nil', b_cons', sq_nx, sq_rt, sq_bk, sq_ct, gv_0, gv_S, wt_0, wt_S, o_add, o_sub, o_mul, o_fdiv, o_mod, o_pow, o_addT, o_mulT, c_lt, c_le, c_gt, c_ge, wp_eq_int, wp_ne_int, n_bl, n_int, bi_int, bi_len, bi_tuple, bi_list, it_tup, r_tup, r_ref, ix_tup, wp_ix_ref, ixR_lst, ixR_dic, wp_set_ref, setR_dic, sl_tup, sl_ref, pk_int, rg1_int, rg2_int, inr_int, r1_int, r2_int, r3_int, ck_bl, rk_rt, rk_nx, wp_mth, m_append, m_pop, m_count, v_fld, v_prp, v_omt, v_mk, v_calD, v_obi, v_oeq, v_ost, v_oln, v_iso, v_fst, vf_nil, vf_cons, vt_fld, wp_fld, fldR_ins, wp_fset, fsetR_ins, fmt_str, fmt_int, eq_bl, bi_strB, bi_reprB, Option.some.injEq, exists_eq_left', setAll, List.length_cons, List.length_nil, List.set_cons_succ, List.set_cons_zero, List.length_set, Nat.reduceAdd, Nat.reduceLT, if_true, Nat.zero_add, reduceCtorEq, false_implies, true_implies, eq_self, and_true, true_and, Bool.true_eq_false, Bool.false_eq_true]
      refine ⟨(), frac_ok (k := k) D' hr (by omega) (by omega) (by omega) (by omega) hp fun p L2 hp2 D2 F2 => ?_⟩
      have hr2 : L2[r]? = some (.lst (ps.map pv)) := (F2.2 r (lt_of hr) (by omega) (by omega)).trans hr
      try simp only [hr2, permG, List.cons_append, List.nil_append, List.getElem?_cons_zero, List.getElem?_cons_succ, decide_true, decide_false, wp_bind, wp_ret, wp_chk, wp_ofO, wp_look, wp_new, wp_setO, wp_br, v_var, v_lit, v_glo, v_bin, v_neg, v_cmp, v_cmp2, v_and, v_or, v_not, v_ife, v_tup, v_lst, v_dct0, v_dct, v_ix, v_slc, v_rev, v_bi, v_isi, v_mth, v_lset, v_rgl1, v_rgl2, v_inr, v_call, v_comp, vs_nil, vs_cons, vo_none, vo_some, vc_none, vc_some, vi_val, vi_rng1, vi_rng2, vi_rng3, vi_zip, vi_enm, vt_tup, vt_sub, vts_nil, vts_cons, x_asg, x_par, x_aug, x_exp, x_ret, x_retN, x_ifs, x_for, x_whl, x_brk, x_cnt, x_pss, b_nil', b_cons', sq_nx, sq_rt, sq_bk, sq_ct, gv_0, gv_S, wt_0, wt_S, o_add, o_sub, o_mul, o_fdiv, o_mod, o_pow, o_addT, o_mulT, c_lt, c_le, c_gt, c_ge, wp_eq_int, wp_ne_int, n_bl, n_int, bi_int, bi_len, bi_tuple, bi_list, it_tup, r_tup, r_ref, ix_tup, wp_ix_ref, ixR_lst, ixR_dic, wp_set_ref, setR_dic, sl_tup, sl_ref, pk_int, rg1_int, rg2_int, inr_int, r1_int, r2_int, r3_int, ck_bl, rk_rt, rk_nx, wp_mth, m_append, m_pop, m_count, v_fld, v_prp, v_omt, v_mk, v_calD, v_obi, v_oeq, v_ost, v_oln, v_iso, v_fst, vf_nil, vf_cons, vt_fld, wp_fld, fldR_ins, wp_fset, fsetR_ins, fmt_str, fmt_int, eq_bl, bi_strB, bi_reprB, Option.some.injEq, exists_eq_left', setAll, List.length_cons, List.length_nil, List.set_cons_succ, List.set_cons_zero, List.length_set, Nat.reduceAdd, Nat.reduceLT, if_true, Nat.zero_add, reduceCtorEq, false_implies, true_implies, eq_self, and_true, true_and, Bool.true_eq_false, Bool.false_eq_true]
      refine ⟨by rw [List.length_map, hl']; exact decide_eq_true (Nat.lt_of_le_of_lt (show i' ≤ 100 by omega) (by decide)), _, ps ++ [p], rfl, ?_, by simp [hl'], ?_, D2.setO ⟨by omega, by omega⟩⟩
      · rw [List.getElem?_set_self (lt_of hr2)]
        simp
      · intro p' h'
        rcases List.mem_append.mp h' with h' | h'
        · exact ⟨(hp p' h').1.le (by omega), (hp p' h').2.le (by omega)⟩
        · cases List.mem_singleton.mp h'
          exact ⟨hp2.1.le (by omega), hp2.2.le (by omega)⟩
    · rintro σ L' ⟨x4, ps, rfl, hr, hl', hp, D'⟩
      rw [e1] at hl' hp
      refine ⟨rfl, ?_⟩
      simp only [permG, List.cons_append, List.nil_append, List.getElem?_cons_zero, List.getElem?_cons_succ, decide_true, decide_false, wp_bind, wp_ret, wp_chk, wp_ofO, wp_look, wp_new, wp_setO, wp_br, v_var, v_lit, v_glo, v_bin, v_neg, v_cmp, v_cmp2, v_and, v_or, v_not, v_ife, v_tup, v_lst, v_dct0, v_dct, v_ix, v_slc, v_rev, v_bi, v_isi, v_mth, v_lset, v_rgl1, v_rgl2, v_inr, v_call, v_comp, vs_nil, vs_cons, vo_none, vo_some, vc_none, vc_some, vi_val, vi_rng1, vi_rng2, vi_rng3, vi_zip, vi_enm, vt_tup, vt_sub, vts_nil, vts_cons, x_asg, x_par, x_aug, x_exp, x_ret, x_retN, x_ifs, x_for, x_whl, x_brk, x_cnt, x_pss, b_nil', b_cons', sq_nx, sq_rt, sq_bk, sq_ct, gv_0, gv_S, wt_0, wt_S, o_add, o_sub, o_mul, o_fdiv, o_mod, o_pow, o_addT, o_mulT, c_lt, c_le, c_gt, c_ge, wp_eq_int, wp_ne_int, n_bl, n_int, bi_int, bi_len, bi_tuple, bi_list, it_tup, r_tup, r_ref, ix_tup, wp_ix_ref, ixR_lst, ixR_dic, wp_set_ref, setR_dic, sl_tup, sl_ref, pk_int, rg1_int, rg2_int, inr_int, r1_int, r2_int, r3_int, ck_bl, rk_rt, rk_nx, wp_mth, m_append, m_pop, m_count, v_fld, v_prp, v_omt, v_mk, v_calD, v_obi, v_oeq, v_ost, v_oln, v_iso, v_fst, vf_nil, vf_cons, vt_fld, wp_fld, fldR_ins, wp_fset, fsetR_ins, fmt_str, fmt_int, eq_bl, bi_strB, bi_reprB, Option.some.injEq, exists_eq_left', setAll, List.length_cons, List.length_nil, List.set_cons_succ, List.set_cons_zero, List.length_set, Nat.reduceAdd, Nat.reduceLT, if_true, Nat.zero_add, reduceCtorEq, false_implies, true_implies, eq_self, and_true, true_and, Bool.true_eq_false, Bool.false_eq_true]
      refine it_ref hr ?_
      have hm : 95 + 31 * (2 + z) ≤ 400 := by omega
      have hp : ∀ p ∈ ps, Btp 400 p := fun p h => ⟨(hp p h).1.le hm, (hp p h).2.le hm⟩
      have DX := D'.lt
      refine comp_mk (k := k) hr (by omega) hp (by decide) ?_ fun g LM M F => ?_
      · intro p L1 Q' hp1 q'
        simp only [turnC, wipeL, Mv.items, pv, ITs.len, permG, List.cons_append, List.nil_append, List.getElem?_cons_zero, List.getElem?_cons_succ, decide_true, decide_false, wp_bind, wp_ret, wp_chk, wp_ofO, wp_look, wp_new, wp_setO, wp_br, v_var, v_lit, v_glo, v_bin, v_neg, v_cmp, v_cmp2, v_and, v_or, v_not, v_ife, v_tup, v_lst, v_dct0, v_dct, v_ix, v_slc, v_rev, v_bi, v_isi, v_mth, v_lset, v_rgl1, v_rgl2, v_inr, v_call, v_comp, vs_nil, vs_cons, vo_none, vo_some, vc_none, vc_some, vi_val, vi_rng1, vi_rng2, vi_rng3, vi_zip, vi_enm, vt_tup, vt_sub, vts_nil, vts_cons, x_asg, x_par, x_aug, x_exp, x_ret, x_retN, x_ifs, x_for, x_whl, x_brk, x_cnt, x_pss, b_nil', b_cons', sq_nx, sq_rt, sq_bk, sq_ct, gv_0, gv_S, wt_0, wt_S, o_add, o_sub, o_mul, o_fdiv, o_mod, o_pow, o_addT, o_mulT, c_lt, c_le, c_gt, c_ge, wp_eq_int, wp_ne_int, n_bl, n_int, bi_int, bi_len, bi_tuple, bi_list, it_tup, r_tup, r_ref, ix_tup, wp_ix_ref, ixR_lst, ixR_dic, wp_set_ref, setR_dic, sl_tup, sl_ref, pk_int, rg1_int, rg2_int, inr_int, r1_int, r2_int, r3_int, ck_bl, rk_rt, rk_nx, wp_mth, m_append, m_pop, m_count, v_fld, v_prp, v_omt, v_mk, v_calD, v_obi, v_oeq, v_ost, v_oln, v_iso, v_fst, vf_nil, vf_cons, vt_fld, wp_fld, fldR_ins, wp_fset, fsetR_ins, fmt_str, fmt_int, eq_bl, bi_strB, bi_reprB, Option.some.injEq, exists_eq_left', setAll, List.length_cons, List.length_nil, List.set_cons_succ, List.set_cons_zero, List.length_set, Nat.reduceAdd, Nat.reduceLT, if_true, Nat.zero_add, reduceCtorEq, false_implies, true_implies, eq_self, and_true, true_and, Bool.true_eq_false, Bool.false_eq_true]
        exact mk_ok (k := k + 1) rfl rfl hp1.1 hp1.2 (by decide) (by decide) q'
      have DM : Deck 2 5 LM := by
        obtain ⟨ne, xs, mm, l, e1, e2⟩ := D'
        exact ⟨ne, xs, mm, l, (F.2 2 DX.1 (by omega) (by omega)).trans e1, (F.2 5 DX.2 (by omega) (by omega)).trans e2⟩
      clear F hr D' D1 D
      try simp only [permG, List.cons_append, List.nil_append, List.getElem?_cons_zero, List.getElem?_cons_succ, decide_true, decide_false, wp_bind, wp_ret, wp_chk, wp_ofO, wp_look, wp_new, wp_setO, wp_br, v_var, v_lit, v_glo, v_bin, v_neg, v_cmp, v_cmp2, v_and, v_or, v_not, v_ife, v_tup, v_lst, v_dct0, v_dct, v_ix, v_slc, v_rev, v_bi, v_isi, v_mth, v_lset, v_rgl1, v_rgl2, v_inr, v_call, v_comp, vs_nil, vs_cons, vo_none, vo_some, vc_none, vc_some, vi_val, vi_rng1, vi_rng2, vi_rng3, vi_zip, vi_enm, vt_tup, vt_sub, vts_nil, vts_cons, x_asg, x_par, x_aug, x_exp, x_ret, x_retN, x_ifs, x_for, x_whl, x_brk, x_cnt, x_pss, b_nil', b_cons', sq_nx, sq_rt, sq_bk, sq_ct, gv_0, gv_S, wt_0, wt_S, o_add, o_sub, o_mul, o_fdiv, o_mod, o_pow, o_addT, o_mulT, c_lt, c_le, c_gt, c_ge, wp_eq_int, wp_ne_int, n_bl, n_int, bi_int, bi_len, bi_tuple, bi_list, it_tup, r_tup, r_ref, ix_tup, wp_ix_ref, ixR_lst, ixR_dic, wp_set_ref, setR_dic, sl_tup, sl_ref, pk_int, rg1_int, rg2_int, inr_int, r1_int, r2_int, r3_int, ck_bl, rk_rt, rk_nx, wp_mth, m_append, m_pop, m_count, v_fld, v_prp, v_omt, v_mk, v_calD, v_obi, v_oeq, v_ost, v_oln, v_iso, v_fst, vf_nil, vf_cons, vt_fld, wp_fld, fldR_ins, wp_fset, fsetR_ins, fmt_str, fmt_int, eq_bl, bi_strB, bi_reprB, Option.some.injEq, exists_eq_left', setAll, List.length_cons, List.length_nil, List.set_cons_succ, List.set_cons_zero, List.length_set, Nat.reduceAdd, Nat.reduceLT, if_true, Nat.zero_add, reduceCtorEq, false_implies, true_implies, eq_self, and_true, true_and, Bool.true_eq_false, Bool.false_eq_true]
      refine enm_ref M.pr ?_
      have hlp : (Src.enmd (.ref r) (ps.map pv).length).len = ps.length := by simp [Src.len]
      refine wp_for (fun _ σ L' => ∃ x6 x7 x8 x9 x10 x11 x12 x13, σ = [some (.ref 0), some (.ref 2), some (.int i), some (.ref r), x4, some (.ref g), x6, x7, x8, x9, x10, x11, x12, x13] ∧ Grow LM L') ⟨_, _, _, _, _, _, _, _, rfl, Grow.refl _⟩ ?_ ?_
      · rintro j σ LJ hj ⟨x6, x7, x8, x9, x10, x11, x12, x13, rfl, G⟩
        rw [hlp] at hj
        have hpj : ps[j]? = some ps[j] := List.getElem?_eq_getElem hj
        obtain ⟨ha, hb⟩ := hp ps[j] (List.getElem_mem hj)
        have MJ := M.grow G
        refine ⟨_, enm_at MJ.pr hpj, ?_⟩
        obtain ⟨pr, ys, hg, hf⟩ := MJ
        obtain ⟨n, hn, hi'⟩ := hf j _ hpj
        have ea : L2.atI ys (j : Int) = some (.ref n) := L2.atI_nat hn
        generalize ps[j] = p at *
        simp only [Mv.items, pv, ITs.len, permG, List.cons_append, List.nil_append, List.getElem?_cons_zero, List.getElem?_cons_succ, decide_true, decide_false, wp_bind, wp_ret, wp_chk, wp_ofO, wp_look, wp_new, wp_setO, wp_br, v_var, v_lit, v_glo, v_bin, v_neg, v_cmp, v_cmp2, v_and, v_or, v_not, v_ife, v_tup, v_lst, v_dct0, v_dct, v_ix, v_slc, v_rev, v_bi, v_isi, v_mth, v_lset, v_rgl1, v_rgl2, v_inr, v_call, v_comp, vs_nil, vs_cons, vo_none, vo_some, vc_none, vc_some, vi_val, vi_rng1, vi_rng2, vi_rng3, vi_zip, vi_enm, vt_tup, vt_sub, vts_nil, vts_cons, x_asg, x_par, x_aug, x_exp, x_ret, x_retN, x_ifs, x_for, x_whl, x_brk, x_cnt, x_pss, b_nil', b_cons', sq_nx, sq_rt, sq_bk, sq_ct, gv_0, gv_S, wt_0, wt_S, o_add, o_sub, o_mul, o_fdiv, o_mod, o_pow, o_addT, o_mulT, c_lt, c_le, c_gt, c_ge, wp_eq_int, wp_ne_int, n_bl, n_int, bi_int, bi_len, bi_tuple, bi_list, it_tup, r_tup, r_ref, ix_tup, wp_ix_ref, ixR_lst, ixR_dic, wp_set_ref, setR_dic, sl_tup, sl_ref, pk_int, rg1_int, rg2_int, inr_int, r1_int, r2_int, r3_int, ck_bl, rk_rt, rk_nx, wp_mth, m_append, m_pop, m_count, v_fld, v_prp, v_omt, v_mk, v_calD, v_obi, v_oeq, v_ost, v_oln, v_iso, v_fst, vf_nil, vf_cons, vt_fld, wp_fld, fldR_ins, wp_fset, fsetR_ins, fmt_str, fmt_int, eq_bl, bi_strB, bi_reprB, Option.some.injEq, exists_eq_left', setAll, List.length_cons, List.length_nil, List.set_cons_succ, List.set_cons_zero, List.length_set, Nat.reduceAdd, Nat.reduceLT, if_true, Nat.zero_add, reduceCtorEq, false_implies, true_implies, eq_self, and_true, true_and, Bool.true_eq_false, Bool.false_eq_true]
        refine up_ok (k := k + 2) rfl rfl ha hb (by decide) fun c hc => ?_
        try simp only [hg, ea, cl_up hi', permG, List.cons_append, List.nil_append, List.getElem?_cons_zero, List.getElem?_cons_succ, decide_true, decide_false, wp_bind, wp_ret, wp_chk, wp_ofO, wp_look, wp_new, wp_setO, wp_br, v_var, v_lit, v_glo, v_bin, v_neg, v_cmp, v_cmp2, v_and, v_or, v_not, v_ife, v_tup, v_lst, v_dct0, v_dct, v_ix, v_slc, v_rev, v_bi, v_isi, v_mth, v_lset, v_rgl1, v_rgl2, v_inr, v_call, v_comp, vs_nil, vs_cons, vo_none, vo_some, vc_none, vc_some, vi_val, vi_rng1, vi_rng2, vi_rng3, vi_zip, vi_enm, vt_tup, vt_sub, vts_nil, vts_cons, x_asg, x_par, x_aug, x_exp, x_ret, x_retN, x_ifs, x_for, x_whl, x_brk, x_cnt, x_pss, b_nil', b_cons', sq_nx, sq_rt, sq_bk, sq_ct, gv_0, gv_S, wt_0, wt_S, o_add, o_sub, o_mul, o_fdiv, o_mod, o_pow, o_addT, o_mulT, c_lt, c_le, c_gt, c_ge, wp_eq_int, wp_ne_int, n_bl, n_int, bi_int, bi_len, bi_tuple, bi_list, it_tup, r_tup, r_ref, ix_tup, wp_ix_ref, ixR_lst, ixR_dic, wp_set_ref, setR_dic, sl_tup, sl_ref, pk_int, rg1_int, rg2_int, inr_int, r1_int, r2_int, r3_int, ck_bl, rk_rt, rk_nx, wp_mth, m_append, m_pop, m_count, v_fld, v_prp, v_omt, v_mk, v_calD, v_obi, v_oeq, v_ost, v_oln, v_iso, v_fst, vf_nil, vf_cons, vt_fld, wp_fld, fldR_ins, wp_fset, fsetR_ins, fmt_str, fmt_int, eq_bl, bi_strB, bi_reprB, Option.some.injEq, exists_eq_left', setAll, List.length_cons, List.length_nil, List.set_cons_succ, List.set_cons_zero, List.length_set, Nat.reduceAdd, Nat.reduceLT, if_true, Nat.zero_add, reduceCtorEq, false_implies, true_implies, eq_self, and_true, true_and, Bool.true_eq_false, Bool.false_eq_true]
        refine upM_ok (k := k + 2) hi' ha hb (by decide) fun c1 hc1 => ?_
        cases up_uniq hc hc1
        try simp only [hg, ea, cl_up hi', permG, List.cons_append, List.nil_append, List.getElem?_cons_zero, List.getElem?_cons_succ, decide_true, decide_false, wp_bind, wp_ret, wp_chk, wp_ofO, wp_look, wp_new, wp_setO, wp_br, v_var, v_lit, v_glo, v_bin, v_neg, v_cmp, v_cmp2, v_and, v_or, v_not, v_ife, v_tup, v_lst, v_dct0, v_dct, v_ix, v_slc, v_rev, v_bi, v_isi, v_mth, v_lset, v_rgl1, v_rgl2, v_inr, v_call, v_comp, vs_nil, vs_cons, vo_none, vo_some, vc_none, vc_some, vi_val, vi_rng1, vi_rng2, vi_rng3, vi_zip, vi_enm, vt_tup, vt_sub, vts_nil, vts_cons, x_asg, x_par, x_aug, x_exp, x_ret, x_retN, x_ifs, x_for, x_whl, x_brk, x_cnt, x_pss, b_nil', b_cons', sq_nx, sq_rt, sq_bk, sq_ct, gv_0, gv_S, wt_0, wt_S, o_add, o_sub, o_mul, o_fdiv, o_mod, o_pow, o_addT, o_mulT, c_lt, c_le, c_gt, c_ge, wp_eq_int, wp_ne_int, n_bl, n_int, bi_int, bi_len, bi_tuple, bi_list, it_tup, r_tup, r_ref, ix_tup, wp_ix_ref, ixR_lst, ixR_dic, wp_set_ref, setR_dic, sl_tup, sl_ref, pk_int, rg1_int, rg2_int, inr_int, r1_int, r2_int, r3_int, ck_bl, rk_rt, rk_nx, wp_mth, m_append, m_pop, m_count, v_fld, v_prp, v_omt, v_mk, v_calD, v_obi, v_oeq, v_ost, v_oln, v_iso, v_fst, vf_nil, vf_cons, vt_fld, wp_fld, fldR_ins, wp_fset, fsetR_ins, fmt_str, fmt_int, eq_bl, bi_strB, bi_reprB, Option.some.injEq, exists_eq_left', setAll, List.length_cons, List.length_nil, List.set_cons_succ, List.set_cons_zero, List.length_set, Nat.reduceAdd, Nat.reduceLT, if_true, Nat.zero_add, reduceCtorEq, false_implies, true_implies, eq_self, and_true, true_and, Bool.true_eq_false, Bool.false_eq_true]
        refine upM_ok (k := k + 2) hi' ha hb (by decide) fun c1 hc1 => ?_
        cases up_uniq hc hc1
        try simp only [hg, ea, cl_up hi', permG, List.cons_append, List.nil_append, List.getElem?_cons_zero, List.getElem?_cons_succ, decide_true, decide_false, wp_bind, wp_ret, wp_chk, wp_ofO, wp_look, wp_new, wp_setO, wp_br, v_var, v_lit, v_glo, v_bin, v_neg, v_cmp, v_cmp2, v_and, v_or, v_not, v_ife, v_tup, v_lst, v_dct0, v_dct, v_ix, v_slc, v_rev, v_bi, v_isi, v_mth, v_lset, v_rgl1, v_rgl2, v_inr, v_call, v_comp, vs_nil, vs_cons, vo_none, vo_some, vc_none, vc_some, vi_val, vi_rng1, vi_rng2, vi_rng3, vi_zip, vi_enm, vt_tup, vt_sub, vts_nil, vts_cons, x_asg, x_par, x_aug, x_exp, x_ret, x_retN, x_ifs, x_for, x_whl, x_brk, x_cnt, x_pss, b_nil', b_cons', sq_nx, sq_rt, sq_bk, sq_ct, gv_0, gv_S, wt_0, wt_S, o_add, o_sub, o_mul, o_fdiv, o_mod, o_pow, o_addT, o_mulT, c_lt, c_le, c_gt, c_ge, wp_eq_int, wp_ne_int, n_bl, n_int, bi_int, bi_len, bi_tuple, bi_list, it_tup, r_tup, r_ref, ix_tup, wp_ix_ref, ixR_lst, ixR_dic, wp_set_ref, setR_dic, sl_tup, sl_ref, pk_int, rg1_int, rg2_int, inr_int, r1_int, r2_int, r3_int, ck_bl, rk_rt, rk_nx, wp_mth, m_append, m_pop, m_count, v_fld, v_prp, v_omt, v_mk, v_calD, v_obi, v_oeq, v_ost, v_oln, v_iso, v_fst, vf_nil, vf_cons, vt_fld, wp_fld, fldR_ins, wp_fset, fsetR_ins, fmt_str, fmt_int, eq_bl, bi_strB, bi_reprB, Option.some.injEq, exists_eq_left', setAll, List.length_cons, List.length_nil, List.set_cons_succ, List.set_cons_zero, List.length_set, Nat.reduceAdd, Nat.reduceLT, if_true, Nat.zero_add, reduceCtorEq, false_implies, true_implies, eq_self, and_true, true_and, Bool.true_eq_false, Bool.false_eq_true]
        obtain ⟨c1, cb⟩ := up_bt ha hb (by decide) hc
        have hx : ∀ x ∈ [c, c], x.natAbs.log2 < 500 := fun x hx => by simp at hx; subst hx; exact cb
        refine ⟨by decide, rep_iv (xs := [c, c]) at_new hx (show 2 ≤ 10 by decide) ?_⟩
        try simp only [permG, List.cons_append, List.nil_append, List.getElem?_cons_zero, List.getElem?_cons_succ, decide_true, decide_false, wp_bind, wp_ret, wp_chk, wp_ofO, wp_look, wp_new, wp_setO, wp_br, v_var, v_lit, v_glo, v_bin, v_neg, v_cmp, v_cmp2, v_and, v_or, v_not, v_ife, v_tup, v_lst, v_dct0, v_dct, v_ix, v_slc, v_rev, v_bi, v_isi, v_mth, v_lset, v_rgl1, v_rgl2, v_inr, v_call, v_comp, vs_nil, vs_cons, vo_none, vo_some, vc_none, vc_some, vi_val, vi_rng1, vi_rng2, vi_rng3, vi_zip, vi_enm, vt_tup, vt_sub, vts_nil, vts_cons, x_asg, x_par, x_aug, x_exp, x_ret, x_retN, x_ifs, x_for, x_whl, x_brk, x_cnt, x_pss, b_nil', b_cons', sq_nx, sq_rt, sq_bk, sq_ct, gv_0, gv_S, wt_0, wt_S, o_add, o_sub, o_mul, o_fdiv, o_mod, o_pow, o_addT, o_mulT, c_lt, c_le, c_gt, c_ge, wp_eq_int, wp_ne_int, n_bl, n_int, bi_int, bi_len, bi_tuple, bi_list, it_tup, r_tup, r_ref, ix_tup, wp_ix_ref, ixR_lst, ixR_dic, wp_set_ref, setR_dic, sl_tup, sl_ref, pk_int, rg1_int, rg2_int, inr_int, r1_int, r2_int, r3_int, ck_bl, rk_rt, rk_nx, wp_mth, m_append, m_pop, m_count, v_fld, v_prp, v_omt, v_mk, v_calD, v_obi, v_oeq, v_ost, v_oln, v_iso, v_fst, vf_nil, vf_cons, vt_fld, wp_fld, fldR_ins, wp_fset, fsetR_ins, fmt_str, fmt_int, eq_bl, bi_strB, bi_reprB, Option.some.injEq, exists_eq_left', setAll, List.length_cons, List.length_nil, List.set_cons_succ, List.set_cons_zero, List.length_set, Nat.reduceAdd, Nat.reduceLT, if_true, Nat.zero_add, reduceCtorEq, false_implies, true_implies, eq_self, and_true, true_and, Bool.true_eq_false, Bool.false_eq_true]
        refine ⟨by decide, rep_iv (xs := [c, c]) at_new hx (show 2 ≤ 10 by decide) (ne_same rfl ?_)⟩
        simp only [decide_eq_false (show ¬ c < 1 by omega), permG, List.cons_append, List.nil_append, List.getElem?_cons_zero, List.getElem?_cons_succ, decide_true, decide_false, wp_bind, wp_ret, wp_chk, wp_ofO, wp_look, wp_new, wp_setO, wp_br, v_var, v_lit, v_glo, v_bin, v_neg, v_cmp, v_cmp2, v_and, v_or, v_not, v_ife, v_tup, v_lst, v_dct0, v_dct, v_ix, v_slc, v_rev, v_bi, v_isi, v_mth, v_lset, v_rgl1, v_rgl2, v_inr, v_call, v_comp, vs_nil, vs_cons, vo_none, vo_some, vc_none, vc_some, vi_val, vi_rng1, vi_rng2, vi_rng3, vi_zip, vi_enm, vt_tup, vt_sub, vts_nil, vts_cons, x_asg, x_par, x_aug, x_exp, x_ret, x_retN, x_ifs, x_for, x_whl, x_brk, x_cnt, x_pss, b_nil', b_cons', sq_nx, sq_rt, sq_bk, sq_ct, gv_0, gv_S, wt_0, wt_S, o_add, o_sub, o_mul, o_fdiv, o_mod, o_pow, o_addT, o_mulT, c_lt, c_le, c_gt, c_ge, wp_eq_int, wp_ne_int, n_bl, n_int, bi_int, bi_len, bi_tuple, bi_list, it_tup, r_tup, r_ref, ix_tup, wp_ix_ref, ixR_lst, ixR_dic, wp_set_ref, setR_dic, sl_tup, sl_ref, pk_int, rg1_int, rg2_int, inr_int, r1_int, r2_int, r3_int, ck_bl, rk_rt, rk_nx, wp_mth, m_append, m_pop, m_count, v_fld, v_prp, v_omt, v_mk, v_calD, v_obi, v_oeq, v_ost, v_oln, v_iso, v_fst, vf_nil, vf_cons, vt_fld, wp_fld, fldR_ins, wp_fset, fsetR_ins, fmt_str, fmt_int, eq_bl, bi_strB, bi_reprB, Option.some.injEq, exists_eq_left', setAll, List.length_cons, List.length_nil, List.set_cons_succ, List.set_cons_zero, List.length_set, Nat.reduceAdd, Nat.reduceLT, if_true, Nat.zero_add, reduceCtorEq, false_implies, true_implies, eq_self, and_true, true_and, Bool.true_eq_false, Bool.false_eq_true]
        generalize hLK : LJ ++ [LO.lst [.int c, .int c]] ++ [LO.lst [.int c, .int c]] = LK
        have G2 : Grow LM LK := G.trans ⟨_, hLK.symm.trans (List.append_assoc _ _ _)⟩
        clear hg hi' pr hf ea
        refine enm_ref (M.grow G2).pr ?_
        refine wp_for (fun _ σ L' => ∃ x10 x11 x12 x13, σ = [some (.ref 0), some (.ref 2), some (.int i), some (.ref r), x4, some (.ref g), some (.int j), some (.int (p.1 : Nat)), some (.int (p.2 : Nat)), some (.int c), x10, x11, x12, x13] ∧ Grow LM L') ⟨_, _, _, _, rfl, G2⟩ ?_ ?_
        · rintro j2 σ LT hj2 ⟨x10, x11, x12, x13, rfl, G3⟩
          rw [hlp] at hj2
          have hpj2 : ps[j2]? = some ps[j2] := List.getElem?_eq_getElem hj2
          obtain ⟨ha2, hb2⟩ := hp ps[j2] (List.getElem_mem hj2)
          have MJ := M.grow G3
          refine ⟨_, enm_at MJ.pr hpj2, ?_⟩
          obtain ⟨pr, ys, hg, hf⟩ := MJ
          obtain ⟨n, hn, h1⟩ := hf j _ hpj
          obtain ⟨n2, hn2, h2⟩ := hf j2 _ hpj2
          have ea : L2.atI ys (j : Int) = some (.ref n) := L2.atI_nat hn
          have ea2 : L2.atI ys (j2 : Int) = some (.ref n2) := L2.atI_nat hn2
          generalize ps[j2] = p2 at *
          simp only [Mv.items, pv, ITs.len, hg, ea, ea2, cl_below h1, permG, List.cons_append, List.nil_append, List.getElem?_cons_zero, List.getElem?_cons_succ, decide_true, decide_false, wp_bind, wp_ret, wp_chk, wp_ofO, wp_look, wp_new, wp_setO, wp_br, v_var, v_lit, v_glo, v_bin, v_neg, v_cmp, v_cmp2, v_and, v_or, v_not, v_ife, v_tup, v_lst, v_dct0, v_dct, v_ix, v_slc, v_rev, v_bi, v_isi, v_mth, v_lset, v_rgl1, v_rgl2, v_inr, v_call, v_comp, vs_nil, vs_cons, vo_none, vo_some, vc_none, vc_some, vi_val, vi_rng1, vi_rng2, vi_rng3, vi_zip, vi_enm, vt_tup, vt_sub, vts_nil, vts_cons, x_asg, x_par, x_aug, x_exp, x_ret, x_retN, x_ifs, x_for, x_whl, x_brk, x_cnt, x_pss, b_nil', b_cons', sq_nx, sq_rt, sq_bk, sq_ct, gv_0, gv_S, wt_0, wt_S, o_add, o_sub, o_mul, o_fdiv, o_mod, o_pow, o_addT, o_mulT, c_lt, c_le, c_gt, c_ge, wp_eq_int, wp_ne_int, n_bl, n_int, bi_int, bi_len, bi_tuple, bi_list, it_tup, r_tup, r_ref, ix_tup, wp_ix_ref, ixR_lst, ixR_dic, wp_set_ref, setR_dic, sl_tup, sl_ref, pk_int, rg1_int, rg2_int, inr_int, r1_int, r2_int, r3_int, ck_bl, rk_rt, rk_nx, wp_mth, m_append, m_pop, m_count, v_fld, v_prp, v_omt, v_mk, v_calD, v_obi, v_oeq, v_ost, v_oln, v_iso, v_fst, vf_nil, vf_cons, vt_fld, wp_fld, fldR_ins, wp_fset, fsetR_ins, fmt_str, fmt_int, eq_bl, bi_strB, bi_reprB, Option.some.injEq, exists_eq_left', setAll, List.length_cons, List.length_nil, List.set_cons_succ, List.set_cons_zero, List.length_set, Nat.reduceAdd, Nat.reduceLT, if_true, Nat.zero_add, reduceCtorEq, false_implies, true_implies, eq_self, and_true, true_and, Bool.true_eq_false, Bool.false_eq_true]
          refine belowM_ok (k := k + 2) h1 h2 ha hb ha2 hb2 (by decide) ?_
          try simp only [hg, ea, ea2, cl_below h1, permG, List.cons_append, List.nil_append, List.getElem?_cons_zero, List.getElem?_cons_succ, decide_true, decide_false, wp_bind, wp_ret, wp_chk, wp_ofO, wp_look, wp_new, wp_setO, wp_br, v_var, v_lit, v_glo, v_bin, v_neg, v_cmp, v_cmp2, v_and, v_or, v_not, v_ife, v_tup, v_lst, v_dct0, v_dct, v_ix, v_slc, v_rev, v_bi, v_isi, v_mth, v_lset, v_rgl1, v_rgl2, v_inr, v_call, v_comp, vs_nil, vs_cons, vo_none, vo_some, vc_none, vc_some, vi_val, vi_rng1, vi_rng2, vi_rng3, vi_zip, vi_enm, vt_tup, vt_sub, vts_nil, vts_cons, x_asg, x_par, x_aug, x_exp, x_ret, x_retN, x_ifs, x_for, x_whl, x_brk, x_cnt, x_pss, b_nil', b_cons', sq_nx, sq_rt, sq_bk, sq_ct, gv_0, gv_S, wt_0, wt_S, o_add, o_sub, o_mul, o_fdiv, o_mod, o_pow, o_addT, o_mulT, c_lt, c_le, c_gt, c_ge, wp_eq_int, wp_ne_int, n_bl, n_int, bi_int, bi_len, bi_tuple, bi_list, it_tup, r_tup, r_ref, ix_tup, wp_ix_ref, ixR_lst, ixR_dic, wp_set_ref, setR_dic, sl_tup, sl_ref, pk_int, rg1_int, rg2_int, inr_int, r1_int, r2_int, r3_int, ck_bl, rk_rt, rk_nx, wp_mth, m_append, m_pop, m_count, v_fld, v_prp, v_omt, v_mk, v_calD, v_obi, v_oeq, v_ost, v_oln, v_iso, v_fst, vf_nil, vf_cons, vt_fld, wp_fld, fldR_ins, wp_fset, fsetR_ins, fmt_str, fmt_int, eq_bl, bi_strB, bi_reprB, Option.some.injEq, exists_eq_left', setAll, List.length_cons, List.length_nil, List.set_cons_succ, List.set_cons_zero, List.length_set, Nat.reduceAdd, Nat.reduceLT, if_true, Nat.zero_add, reduceCtorEq, false_implies, true_implies, eq_self, and_true, true_and, Bool.true_eq_false, Bool.false_eq_true]
          refine belowM_ok (k := k + 2) h1 h2 ha hb ha2 hb2 (by decide) ?_
          try simp only [hg, ea, ea2, cl_below h1, permG, List.cons_append, List.nil_append, List.getElem?_cons_zero, List.getElem?_cons_succ, decide_true, decide_false, wp_bind, wp_ret, wp_chk, wp_ofO, wp_look, wp_new, wp_setO, wp_br, v_var, v_lit, v_glo, v_bin, v_neg, v_cmp, v_cmp2, v_and, v_or, v_not, v_ife, v_tup, v_lst, v_dct0, v_dct, v_ix, v_slc, v_rev, v_bi, v_isi, v_mth, v_lset, v_rgl1, v_rgl2, v_inr, v_call, v_comp, vs_nil, vs_cons, vo_none, vo_some, vc_none, vc_some, vi_val, vi_rng1, vi_rng2, vi_rng3, vi_zip, vi_enm, vt_tup, vt_sub, vts_nil, vts_cons, x_asg, x_par, x_aug, x_exp, x_ret, x_retN, x_ifs, x_for, x_whl, x_brk, x_cnt, x_pss, b_nil', b_cons', sq_nx, sq_rt, sq_bk, sq_ct, gv_0, gv_S, wt_0, wt_S, o_add, o_sub, o_mul, o_fdiv, o_mod, o_pow, o_addT, o_mulT, c_lt, c_le, c_gt, c_ge, wp_eq_int, wp_ne_int, n_bl, n_int, bi_int, bi_len, bi_tuple, bi_list, it_tup, r_tup, r_ref, ix_tup, wp_ix_ref, ixR_lst, ixR_dic, wp_set_ref, setR_dic, sl_tup, sl_ref, pk_int, rg1_int, rg2_int, inr_int, r1_int, r2_int, r3_int, ck_bl, rk_rt, rk_nx, wp_mth, m_append, m_pop, m_count, v_fld, v_prp, v_omt, v_mk, v_calD, v_obi, v_oeq, v_ost, v_oln, v_iso, v_fst, vf_nil, vf_cons, vt_fld, wp_fld, fldR_ins, wp_fset, fsetR_ins, fmt_str, fmt_int, eq_bl, bi_strB, bi_reprB, Option.some.injEq, exists_eq_left', setAll, List.length_cons, List.length_nil, List.set_cons_succ, List.set_cons_zero, List.length_set, Nat.reduceAdd, Nat.reduceLT, if_true, Nat.zero_add, reduceCtorEq, false_implies, true_implies, eq_self, and_true, true_and, Bool.true_eq_false, Bool.false_eq_true]
          refine belowM_ok (k := k + 2) h1 h2 ha hb ha2 hb2 (by decide) ?_
          have ed : decide ((p.1 : Int) * (p2.2 : Int) < (p2.1 : Int) * (p.2 : Int)) = decide (p.1 * p2.2 < p2.1 * p.2) := by
            rw [mulNat, mulNat]
            exact decide_eq_decide.mpr Int.ofNat_lt
          refine ⟨by decide, rep_bls (bs := [decide (p.1 * p2.2 < p2.1 * p.2), decide (p.1 * p2.2 < p2.1 * p.2), decide (p.1 * p2.2 < p2.1 * p.2)]) at_new (chk3 _) ⟨ha.mulOk hb2 (by decide), ha2.mulOk hb (by decide), by decide, ?_⟩⟩
          rw [ed]
          refine wp_mulR (xs := [.bl (decide (p.1 * p2.2 < p2.1 * p.2))]) at_new (by decide) (show 1 < 1000 by decide) ?_
          refine rep_bls (bs := [decide (p.1 * p2.2 < p2.1 * p.2), decide (p.1 * p2.2 < p2.1 * p.2), decide (p.1 * p2.2 < p2.1 * p.2)]) at_new (chk3 _) (ne_same rfl ?_)
          generalize hLU : LT ++ [LO.lst [.bl (decide (p.1 * p2.2 < p2.1 * p.2)), .bl (decide (p.1 * p2.2 < p2.1 * p.2)), .bl (decide (p.1 * p2.2 < p2.1 * p.2))]] ++ [LO.lst [.bl (decide (p.1 * p2.2 < p2.1 * p.2))]] ++ [LO.lst (reps [LV.bl (decide (p.1 * p2.2 < p2.1 * p.2))] 3)] = LU
          have gU : Grow LT LU := ⟨_, hLU.symm.trans (by rw [List.append_assoc, List.append_assoc])⟩
          have hg := grow_at gU hg
          have h1 := grow_at gU h1
          have h2 := grow_at gU h2
          simp only [hg, ea, ea2, cl_below h1, permG, List.cons_append, List.nil_append, List.getElem?_cons_zero, List.getElem?_cons_succ, decide_true, decide_false, wp_bind, wp_ret, wp_chk, wp_ofO, wp_look, wp_new, wp_setO, wp_br, v_var, v_lit, v_glo, v_bin, v_neg, v_cmp, v_cmp2, v_and, v_or, v_not, v_ife, v_tup, v_lst, v_dct0, v_dct, v_ix, v_slc, v_rev, v_bi, v_isi, v_mth, v_lset, v_rgl1, v_rgl2, v_inr, v_call, v_comp, vs_nil, vs_cons, vo_none, vo_some, vc_none, vc_some, vi_val, vi_rng1, vi_rng2, vi_rng3, vi_zip, vi_enm, vt_tup, vt_sub, vts_nil, vts_cons, x_asg, x_par, x_aug, x_exp, x_ret, x_retN, x_ifs, x_for, x_whl, x_brk, x_cnt, x_pss, b_nil', b_cons', sq_nx, sq_rt, sq_bk, sq_ct, gv_0, gv_S, wt_0, wt_S, o_add, o_sub, o_mul, o_fdiv, o_mod, o_pow, o_addT, o_mulT, c_lt, c_le, c_gt, c_ge, wp_eq_int, wp_ne_int, n_bl, n_int, bi_int, bi_len, bi_tuple, bi_list, it_tup, r_tup, r_ref, ix_tup, wp_ix_ref, ixR_lst, ixR_dic, wp_set_ref, setR_dic, sl_tup, sl_ref, pk_int, rg1_int, rg2_int, inr_int, r1_int, r2_int, r3_int, ck_bl, rk_rt, rk_nx, wp_mth, m_append, m_pop, m_count, v_fld, v_prp, v_omt, v_mk, v_calD, v_obi, v_oeq, v_ost, v_oln, v_iso, v_fst, vf_nil, vf_cons, vt_fld, wp_fld, fldR_ins, wp_fset, fsetR_ins, fmt_str, fmt_int, eq_bl, bi_strB, bi_reprB, Option.some.injEq, exists_eq_left', setAll, List.length_cons, List.length_nil, List.set_cons_succ, List.set_cons_zero, List.length_set, Nat.reduceAdd, Nat.reduceLT, if_true, Nat.zero_add, reduceCtorEq, false_implies, true_implies, eq_self, and_true, true_and, Bool.true_eq_false, Bool.false_eq_true]
          refine belowM_ok (k := k + 2) h1 h2 ha hb ha2 hb2 (by decide) ?_
          try simp only [hg, ea, ea2, cl_below h2, permG, List.cons_append, List.nil_append, List.getElem?_cons_zero, List.getElem?_cons_succ, decide_true, decide_false, wp_bind, wp_ret, wp_chk, wp_ofO, wp_look, wp_new, wp_setO, wp_br, v_var, v_lit, v_glo, v_bin, v_neg, v_cmp, v_cmp2, v_and, v_or, v_not, v_ife, v_tup, v_lst, v_dct0, v_dct, v_ix, v_slc, v_rev, v_bi, v_isi, v_mth, v_lset, v_rgl1, v_rgl2, v_inr, v_call, v_comp, vs_nil, vs_cons, vo_none, vo_some, vc_none, vc_some, vi_val, vi_rng1, vi_rng2, vi_rng3, vi_zip, vi_enm, vt_tup, vt_sub, vts_nil, vts_cons, x_asg, x_par, x_aug, x_exp, x_ret, x_retN, x_ifs, x_for, x_whl, x_brk, x_cnt, x_pss, b_nil', b_cons', sq_nx, sq_rt, sq_bk, sq_ct, gv_0, gv_S, wt_0, wt_S, o_add, o_sub, o_mul, o_fdiv, o_mod, o_pow, o_addT, o_mulT, c_lt, c_le, c_gt, c_ge, wp_eq_int, wp_ne_int, n_bl, n_int, bi_int, bi_len, bi_tuple, bi_list, it_tup, r_tup, r_ref, ix_tup, wp_ix_ref, ixR_lst, ixR_dic, wp_set_ref, setR_dic, sl_tup, sl_ref, pk_int, rg1_int, rg2_int, inr_int, r1_int, r2_int, r3_int, ck_bl, rk_rt, rk_nx, wp_mth, m_append, m_pop, m_count, v_fld, v_prp, v_omt, v_mk, v_calD, v_obi, v_oeq, v_ost, v_oln, v_iso, v_fst, vf_nil, vf_cons, vt_fld, wp_fld, fldR_ins, wp_fset, fsetR_ins, fmt_str, fmt_int, eq_bl, bi_strB, bi_reprB, Option.some.injEq, exists_eq_left', setAll, List.length_cons, List.length_nil, List.set_cons_succ, List.set_cons_zero, List.length_set, Nat.reduceAdd, Nat.reduceLT, if_true, Nat.zero_add, reduceCtorEq, false_implies, true_implies, eq_self, and_true, true_and, Bool.true_eq_false, Bool.false_eq_true]
          refine belowM_ok (k := k + 2) h2 h1 ha2 hb2 ha hb (by decide) ?_
          try simp only [hg, ea, ea2, permG, List.cons_append, List.nil_append, List.getElem?_cons_zero, List.getElem?_cons_succ, decide_true, decide_false, wp_bind, wp_ret, wp_chk, wp_ofO, wp_look, wp_new, wp_setO, wp_br, v_var, v_lit, v_glo, v_bin, v_neg, v_cmp, v_cmp2, v_and, v_or, v_not, v_ife, v_tup, v_lst, v_dct0, v_dct, v_ix, v_slc, v_rev, v_bi, v_isi, v_mth, v_lset, v_rgl1, v_rgl2, v_inr, v_call, v_comp, vs_nil, vs_cons, vo_none, vo_some, vc_none, vc_some, vi_val, vi_rng1, vi_rng2, vi_rng3, vi_zip, vi_enm, vt_tup, vt_sub, vts_nil, vts_cons, x_asg, x_par, x_aug, x_exp, x_ret, x_retN, x_ifs, x_for, x_whl, x_brk, x_cnt, x_pss, b_nil', b_cons', sq_nx, sq_rt, sq_bk, sq_ct, gv_0, gv_S, wt_0, wt_S, o_add, o_sub, o_mul, o_fdiv, o_mod, o_pow, o_addT, o_mulT, c_lt, c_le, c_gt, c_ge, wp_eq_int, wp_ne_int, n_bl, n_int, bi_int, bi_len, bi_tuple, bi_list, it_tup, r_tup, r_ref, ix_tup, wp_ix_ref, ixR_lst, ixR_dic, wp_set_ref, setR_dic, sl_tup, sl_ref, pk_int, rg1_int, rg2_int, inr_int, r1_int, r2_int, r3_int, ck_bl, rk_rt, rk_nx, wp_mth, m_append, m_pop, m_count, v_fld, v_prp, v_omt, v_mk, v_calD, v_obi, v_oeq, v_ost, v_oln, v_iso, v_fst, vf_nil, vf_cons, vt_fld, wp_fld, fldR_ins, wp_fset, fsetR_ins, fmt_str, fmt_int, eq_bl, bi_strB, bi_reprB, Option.some.injEq, exists_eq_left', setAll, List.length_cons, List.length_nil, List.set_cons_succ, List.set_cons_zero, List.length_set, Nat.reduceAdd, Nat.reduceLT, if_true, Nat.zero_add, reduceCtorEq, false_implies, true_implies, eq_self, and_true, true_and, Bool.true_eq_false, Bool.false_eq_true]
          refine oeq_ok (k := k + 2) h1 h2 ha.1 hb.1 ha2.1 hb2.1 ?_
          try simp only [lstAt, at_new, m_count, three, permG, List.cons_append, List.nil_append, List.getElem?_cons_zero, List.getElem?_cons_succ, decide_true, decide_false, wp_bind, wp_ret, wp_chk, wp_ofO, wp_look, wp_new, wp_setO, wp_br, v_var, v_lit, v_glo, v_bin, v_neg, v_cmp, v_cmp2, v_and, v_or, v_not, v_ife, v_tup, v_lst, v_dct0, v_dct, v_ix, v_slc, v_rev, v_bi, v_isi, v_mth, v_lset, v_rgl1, v_rgl2, v_inr, v_call, v_comp, vs_nil, vs_cons, vo_none, vo_some, vc_none, vc_some, vi_val, vi_rng1, vi_rng2, vi_rng3, vi_zip, vi_enm, vt_tup, vt_sub, vts_nil, vts_cons, x_asg, x_par, x_aug, x_exp, x_ret, x_retN, x_ifs, x_for, x_whl, x_brk, x_cnt, x_pss, b_nil', b_cons', sq_nx, sq_rt, sq_bk, sq_ct, gv_0, gv_S, wt_0, wt_S, o_add, o_sub, o_mul, o_fdiv, o_mod, o_pow, o_addT, o_mulT, c_lt, c_le, c_gt, c_ge, wp_eq_int, wp_ne_int, n_bl, n_int, bi_int, bi_len, bi_tuple, bi_list, it_tup, r_tup, r_ref, ix_tup, wp_ix_ref, ixR_lst, ixR_dic, wp_set_ref, setR_dic, sl_tup, sl_ref, pk_int, rg1_int, rg2_int, inr_int, r1_int, r2_int, r3_int, ck_bl, rk_rt, rk_nx, wp_mth, m_append, m_pop, m_count, v_fld, v_prp, v_omt, v_mk, v_calD, v_obi, v_oeq, v_ost, v_oln, v_iso, v_fst, vf_nil, vf_cons, vt_fld, wp_fld, fldR_ins, wp_fset, fsetR_ins, fmt_str, fmt_int, eq_bl, bi_strB, bi_reprB, Option.some.injEq, exists_eq_left', setAll, List.length_cons, List.length_nil, List.set_cons_succ, List.set_cons_zero, List.length_set, Nat.reduceAdd, Nat.reduceLT, if_true, Nat.zero_add, reduceCtorEq, false_implies, true_implies, eq_self, and_true, true_and, Bool.true_eq_false, Bool.false_eq_true]
          refine ⟨by decide, (), rfl, fun c => ?_, fun c => ?_⟩
          · exact absurd c (by decide)
          · simp only [turnQ, permG, List.cons_append, List.nil_append, List.getElem?_cons_zero, List.getElem?_cons_succ, decide_true, decide_false, wp_bind, wp_ret, wp_chk, wp_ofO, wp_look, wp_new, wp_setO, wp_br, v_var, v_lit, v_glo, v_bin, v_neg, v_cmp, v_cmp2, v_and, v_or, v_not, v_ife, v_tup, v_lst, v_dct0, v_dct, v_ix, v_slc, v_rev, v_bi, v_isi, v_mth, v_lset, v_rgl1, v_rgl2, v_inr, v_call, v_comp, vs_nil, vs_cons, vo_none, vo_some, vc_none, vc_some, vi_val, vi_rng1, vi_rng2, vi_rng3, vi_zip, vi_enm, vt_tup, vt_sub, vts_nil, vts_cons, x_asg, x_par, x_aug, x_exp, x_ret, x_retN, x_ifs, x_for, x_whl, x_brk, x_cnt, x_pss, b_nil', b_cons', sq_nx, sq_rt, sq_bk, sq_ct, gv_0, gv_S, wt_0, wt_S, o_add, o_sub, o_mul, o_fdiv, o_mod, o_pow, o_addT, o_mulT, c_lt, c_le, c_gt, c_ge, wp_eq_int, wp_ne_int, n_bl, n_int, bi_int, bi_len, bi_tuple, bi_list, it_tup, r_tup, r_ref, ix_tup, wp_ix_ref, ixR_lst, ixR_dic, wp_set_ref, setR_dic, sl_tup, sl_ref, pk_int, rg1_int, rg2_int, inr_int, r1_int, r2_int, r3_int, ck_bl, rk_rt, rk_nx, wp_mth, m_append, m_pop, m_count, v_fld, v_prp, v_omt, v_mk, v_calD, v_obi, v_oeq, v_ost, v_oln, v_iso, v_fst, vf_nil, vf_cons, vt_fld, wp_fld, fldR_ins, wp_fset, fsetR_ins, fmt_str, fmt_int, eq_bl, bi_strB, bi_reprB, Option.some.injEq, exists_eq_left', setAll, List.length_cons, List.length_nil, List.set_cons_succ, List.set_cons_zero, List.length_set, Nat.reduceAdd, Nat.reduceLT, if_true, Nat.zero_add, reduceCtorEq, false_implies, true_implies, eq_self, and_true, true_and, Bool.true_eq_false, Bool.false_eq_true]
            exact ⟨_, _, _, _, rfl, G3.trans (gU.trans ⟨_, rfl⟩)⟩
        · rintro σ LT ⟨x10, x11, x12, x13, rfl, G3⟩
          refine ⟨enm_fin (M.grow G3).pr rfl, ?_⟩
          simp only [turnQ, permG, List.cons_append, List.nil_append, List.getElem?_cons_zero, List.getElem?_cons_succ, decide_true, decide_false, wp_bind, wp_ret, wp_chk, wp_ofO, wp_look, wp_new, wp_setO, wp_br, v_var, v_lit, v_glo, v_bin, v_neg, v_cmp, v_cmp2, v_and, v_or, v_not, v_ife, v_tup, v_lst, v_dct0, v_dct, v_ix, v_slc, v_rev, v_bi, v_isi, v_mth, v_lset, v_rgl1, v_rgl2, v_inr, v_call, v_comp, vs_nil, vs_cons, vo_none, vo_some, vc_none, vc_some, vi_val, vi_rng1, vi_rng2, vi_rng3, vi_zip, vi_enm, vt_tup, vt_sub, vts_nil, vts_cons, x_asg, x_par, x_aug, x_exp, x_ret, x_retN, x_ifs, x_for, x_whl, x_brk, x_cnt, x_pss, b_nil', b_cons', sq_nx, sq_rt, sq_bk, sq_ct, gv_0, gv_S, wt_0, wt_S, o_add, o_sub, o_mul, o_fdiv, o_mod, o_pow, o_addT, o_mulT, c_lt, c_le, c_gt, c_ge, wp_eq_int, wp_ne_int, n_bl, n_int, bi_int, bi_len, bi_tuple, bi_list, it_tup, r_tup, r_ref, ix_tup, wp_ix_ref, ixR_lst, ixR_dic, wp_set_ref, setR_dic, sl_tup, sl_ref, pk_int, rg1_int, rg2_int, inr_int, r1_int, r2_int, r3_int, ck_bl, rk_rt, rk_nx, wp_mth, m_append, m_pop, m_count, v_fld, v_prp, v_omt, v_mk, v_calD, v_obi, v_oeq, v_ost, v_oln, v_iso, v_fst, vf_nil, vf_cons, vt_fld, wp_fld, fldR_ins, wp_fset, fsetR_ins, fmt_str, fmt_int, eq_bl, bi_strB, bi_reprB, Option.some.injEq, exists_eq_left', setAll, List.length_cons, List.length_nil, List.set_cons_succ, List.set_cons_zero, List.length_set, Nat.reduceAdd, Nat.reduceLT, if_true, Nat.zero_add, reduceCtorEq, false_implies, true_implies, eq_self, and_true, true_and, Bool.true_eq_false, Bool.false_eq_true]
          exact ⟨_, _, _, _, _, _, _, _, rfl, G3⟩
      · rintro σ LJ ⟨x6, x7, x8, x9, x10, x11, x12, x13, rfl, G⟩
        refine ⟨enm_fin (M.grow G).pr rfl, ?_⟩
        have MJ := M.grow G
        simp only [permG, List.cons_append, List.nil_append, List.getElem?_cons_zero, List.getElem?_cons_succ, decide_true, decide_false, wp_bind, wp_ret, wp_chk, wp_ofO, wp_look, wp_new, wp_setO, wp_br, v_var, v_lit, v_glo, v_bin, v_neg, v_cmp, v_cmp2, v_and, v_or, v_not, v_ife, v_tup, v_lst, v_dct0, v_dct, v_ix, v_slc, v_rev, v_bi, v_isi, v_mth, v_lset, v_rgl1, v_rgl2, v_inr, v_call, v_comp, vs_nil, vs_cons, vo_none, vo_some, vc_none, vc_some, vi_val, vi_rng1, vi_rng2, vi_rng3, vi_zip, vi_enm, vt_tup, vt_sub, vts_nil, vts_cons, x_asg, x_par, x_aug, x_exp, x_ret, x_retN, x_ifs, x_for, x_whl, x_brk, x_cnt, x_pss, b_nil', b_cons', sq_nx, sq_rt, sq_bk, sq_ct, gv_0, gv_S, wt_0, wt_S, o_add, o_sub, o_mul, o_fdiv, o_mod, o_pow, o_addT, o_mulT, c_lt, c_le, c_gt, c_ge, wp_eq_int, wp_ne_int, n_bl, n_int, bi_int, bi_len, bi_tuple, bi_list, it_tup, r_tup, r_ref, ix_tup, wp_ix_ref, ixR_lst, ixR_dic, wp_set_ref, setR_dic, sl_tup, sl_ref, pk_int, rg1_int, rg2_int, inr_int, r1_int, r2_int, r3_int, ck_bl, rk_rt, rk_nx, wp_mth, m_append, m_pop, m_count, v_fld, v_prp, v_omt, v_mk, v_calD, v_obi, v_oeq, v_ost, v_oln, v_iso, v_fst, vf_nil, vf_cons, vt_fld, wp_fld, fldR_ins, wp_fset, fsetR_ins, fmt_str, fmt_int, eq_bl, bi_strB, bi_reprB, Option.some.injEq, exists_eq_left', setAll, List.length_cons, List.length_nil, List.set_cons_succ, List.set_cons_zero, List.length_set, Nat.reduceAdd, Nat.reduceLT, if_true, Nat.zero_add, reduceCtorEq, false_implies, true_implies, eq_self, and_true, true_and, Bool.true_eq_false, Bool.false_eq_true]
        refine enm_ref MJ.pr ?_
        obtain ⟨pr, ys, hg, hf⟩ := MJ
        refine compS (src := (List.range ps.length).map fun j => LV.tup [.int (j : Nat), pv (ps.getD j (1, 1))]) (fun _ => some (.bl true)) (by simp; omega) (by simp [Src.len]) ?_ (fun zs => enm_fin (at_old pr) rfl) ?_ ?_
        · intro j x zs hx
          rw [List.getElem?_map] at hx
          obtain ⟨j', hj', rfl⟩ := Option.map_eq_some_iff.mp hx
          obtain ⟨hj1, hj2⟩ := List.getElem?_eq_some_iff.mp hj'
          have hj1 : j < ps.length := by simpa using hj1
          rw [List.getElem_range] at hj2
          subst hj2
          refine enm_at (at_old pr) ?_
          rw [List.getElem?_eq_getElem hj1, List.getD_eq_getElem?_getD, List.getElem?_eq_getElem hj1]
          rfl
        · intro x hx zs
          obtain ⟨j, hj, rfl⟩ := List.mem_map.mp hx
          have hj : j < ps.length := List.mem_range.mp hj
          have hpj : ps[j]? = some ps[j] := List.getElem?_eq_getElem hj
          rw [List.getD_eq_getElem?_getD, hpj]
          obtain ⟨ha, hb⟩ := hp ps[j] (List.getElem_mem hj)
          obtain ⟨n, hn, h1⟩ := hf j _ hpj
          have ea : L2.atI ys (j : Int) = some (.ref n) := L2.atI_nat hn
          show wp (turnC _ _ _ _ _ _ (LV.tup [LV.int (j : Nat), pv ps[j]])) _ _
          generalize ps[j] = p at *
          have hg' : (LJ ++ [LO.lst zs])[g]? = _ := at_old hg
          have h1' : (LJ ++ [LO.lst zs])[n]? = _ := at_old h1
          simp only [turnC, wipeL, Mv.items, pv, ITs.len, hg', h1', ea, cF, lk_top, lk_bot, permG, List.cons_append, List.nil_append, List.getElem?_cons_zero, List.getElem?_cons_succ, decide_true, decide_false, wp_bind, wp_ret, wp_chk, wp_ofO, wp_look, wp_new, wp_setO, wp_br, v_var, v_lit, v_glo, v_bin, v_neg, v_cmp, v_cmp2, v_and, v_or, v_not, v_ife, v_tup, v_lst, v_dct0, v_dct, v_ix, v_slc, v_rev, v_bi, v_isi, v_mth, v_lset, v_rgl1, v_rgl2, v_inr, v_call, v_comp, vs_nil, vs_cons, vo_none, vo_some, vc_none, vc_some, vi_val, vi_rng1, vi_rng2, vi_rng3, vi_zip, vi_enm, vt_tup, vt_sub, vts_nil, vts_cons, x_asg, x_par, x_aug, x_exp, x_ret, x_retN, x_ifs, x_for, x_whl, x_brk, x_cnt, x_pss, b_nil', b_cons', sq_nx, sq_rt, sq_bk, sq_ct, gv_0, gv_S, wt_0, wt_S, o_add, o_sub, o_mul, o_fdiv, o_mod, o_pow, o_addT, o_mulT, c_lt, c_le, c_gt, c_ge, wp_eq_int, wp_ne_int, n_bl, n_int, bi_int, bi_len, bi_tuple, bi_list, it_tup, r_tup, r_ref, ix_tup, wp_ix_ref, ixR_lst, ixR_dic, wp_set_ref, setR_dic, sl_tup, sl_ref, pk_int, rg1_int, rg2_int, inr_int, r1_int, r2_int, r3_int, ck_bl, rk_rt, rk_nx, wp_mth, m_append, m_pop, m_count, v_fld, v_prp, v_omt, v_mk, v_calD, v_obi, v_oeq, v_ost, v_oln, v_iso, v_fst, vf_nil, vf_cons, vt_fld, wp_fld, fldR_ins, wp_fset, fsetR_ins, fmt_str, fmt_int, eq_bl, bi_strB, bi_reprB, Option.some.injEq, exists_eq_left', setAll, List.length_cons, List.length_nil, List.set_cons_succ, List.set_cons_zero, List.length_set, Nat.reduceAdd, Nat.reduceLT, if_true, Nat.zero_add, reduceCtorEq, false_implies, true_implies, eq_self, and_true, true_and, Bool.true_eq_false, Bool.false_eq_true]
          refine ⟨(ha.lo hb.1).mulOk hb (by decide), (hb.lo' ha.1).mulOk ha (by decide), ?_⟩
          rw [mulNat, mulNat, low_x, decide_eq_true rfl]
        · have er : (List.map (fun j => LV.tup [LV.int (j : Nat), pv (ps.getD j (1, 1))]) (List.range ps.length)).filterMap (fun _ => some (LV.bl true)) = (List.replicate ps.length true).map .bl := by
            rw [fm_const, List.length_map, List.length_range, List.map_replicate]
          have hne : List.replicate ps.length true ≠ [] := fun h => by
            have z : ps.length = 0 := by
              have := congrArg List.length h
              rwa [List.length_replicate] at this
            omega
          rw [er]
          refine ⟨by decide, _, len_lst (at_old (at_old pr)), wp_mulR (xs := [.bl true]) at_new ⟨by omega, by simp; omega⟩ (show 1 < 1000 by decide) ?_⟩
          have e2 : reps [LV.bl true] ((ps.map pv).length : Int) = (List.replicate ps.length true).map .bl := by simp [reps]
          rw [e2]
          refine wp_ne (eq_bls hne (at_old (at_old at_new)) at_new) rfl ?_
          rw [decide_eq_true rfl]
          simp only [Bool.not_true, turnQ, permG, List.cons_append, List.nil_append, List.getElem?_cons_zero, List.getElem?_cons_succ, decide_true, decide_false, wp_bind, wp_ret, wp_chk, wp_ofO, wp_look, wp_new, wp_setO, wp_br, v_var, v_lit, v_glo, v_bin, v_neg, v_cmp, v_cmp2, v_and, v_or, v_not, v_ife, v_tup, v_lst, v_dct0, v_dct, v_ix, v_slc, v_rev, v_bi, v_isi, v_mth, v_lset, v_rgl1, v_rgl2, v_inr, v_call, v_comp, vs_nil, vs_cons, vo_none, vo_some, vc_none, vc_some, vi_val, vi_rng1, vi_rng2, vi_rng3, vi_zip, vi_enm, vt_tup, vt_sub, vts_nil, vts_cons, x_asg, x_par, x_aug, x_exp, x_ret, x_retN, x_ifs, x_for, x_whl, x_brk, x_cnt, x_pss, b_nil', b_cons', sq_nx, sq_rt, sq_bk, sq_ct, gv_0, gv_S, wt_0, wt_S, o_add, o_sub, o_mul, o_fdiv, o_mod, o_pow, o_addT, o_mulT, c_lt, c_le, c_gt, c_ge, wp_eq_int, wp_ne_int, n_bl, n_int, bi_int, bi_len, bi_tuple, bi_list, it_tup, r_tup, r_ref, ix_tup, wp_ix_ref, ixR_lst, ixR_dic, wp_set_ref, setR_dic, sl_tup, sl_ref, pk_int, rg1_int, rg2_int, inr_int, r1_int, r2_int, r3_int, ck_bl, rk_rt, rk_nx, wp_mth, m_append, m_pop, m_count, v_fld, v_prp, v_omt, v_mk, v_calD, v_obi, v_oeq, v_ost, v_oln, v_iso, v_fst, vf_nil, vf_cons, vt_fld, wp_fld, fldR_ins, wp_fset, fsetR_ins, fmt_str, fmt_int, eq_bl, bi_strB, bi_reprB, Option.some.injEq, exists_eq_left', setAll, List.length_cons, List.length_nil, List.set_cons_succ, List.set_cons_zero, List.length_set, Nat.reduceAdd, Nat.reduceLT, if_true, Nat.zero_add, reduceCtorEq, false_implies, true_implies, eq_self, and_true, true_and, Bool.true_eq_false, Bool.false_eq_true]
          exact ⟨_, _, _, _, _, _, _, _, _, _, _, _, rfl, DM.grow (G.trans ⟨_, by rw [List.append_assoc, List.append_assoc]⟩)⟩
  · rintro σ L ⟨x2, x3, x4, x5, x6, x7, x8, x9, x10, x11, x12, x13, rfl, D⟩
    refine ⟨rfl, ?_⟩
    try simp only [permG, List.cons_append, List.nil_append, List.getElem?_cons_zero, List.getElem?_cons_succ, decide_true, decide_false, wp_bind, wp_ret, wp_chk, wp_ofO, wp_look, wp_new, wp_setO, wp_br, v_var, v_lit, v_glo, v_bin, v_neg, v_cmp, v_cmp2, v_and, v_or, v_not, v_ife, v_tup, v_lst, v_dct0, v_dct, v_ix, v_slc, v_rev, v_bi, v_isi, v_mth, v_lset, v_rgl1, v_rgl2, v_inr, v_call, v_comp, vs_nil, vs_cons, vo_none, vo_some, vc_none, vc_some, vi_val, vi_rng1, vi_rng2, vi_rng3, vi_zip, vi_enm, vt_tup, vt_sub, vts_nil, vts_cons, x_asg, x_par, x_aug, x_exp, x_ret, x_retN, x_ifs, x_for, x_whl, x_brk, x_cnt, x_pss, b_nil', b_cons', sq_nx, sq_rt, sq_bk, sq_ct, gv_0, gv_S, wt_0, wt_S, o_add, o_sub, o_mul, o_fdiv, o_mod, o_pow, o_addT, o_mulT, c_lt, c_le, c_gt, c_ge, wp_eq_int, wp_ne_int, n_bl, n_int, bi_int, bi_len, bi_tuple, bi_list, it_tup, r_tup, r_ref, ix_tup, wp_ix_ref, ixR_lst, ixR_dic, wp_set_ref, setR_dic, sl_tup, sl_ref, pk_int, rg1_int, rg2_int, inr_int, r1_int, r2_int, r3_int, ck_bl, rk_rt, rk_nx, wp_mth, m_append, m_pop, m_count, v_fld, v_prp, v_omt, v_mk, v_calD, v_obi, v_oeq, v_ost, v_oln, v_iso, v_fst, vf_nil, vf_cons, vt_fld, wp_fld, fldR_ins, wp_fset, fsetR_ins, fmt_str, fmt_int, eq_bl, bi_strB, bi_reprB, Option.some.injEq, exists_eq_left', setAll, List.length_cons, List.length_nil, List.set_cons_succ, List.set_cons_zero, List.length_set, Nat.reduceAdd, Nat.reduceLT, if_true, Nat.zero_add, reduceCtorEq, false_implies, true_implies, eq_self, and_true, true_and, Bool.true_eq_false, Bool.false_eq_true]
theorem law_ok (ns : List Int) (hl : ns.length ≤ 63) : ∃ L', run prog 12 12 [.ref 0] [.frz ns] = some (.ok (.bl true) L') := by
  obtain ⟨v, L', e, h⟩ := law_wp (k := 8) hl
  rw [h] at e
  exact ⟨L', e⟩
end K15



namespace K15
open PySem PySem.Spec PyProof.Rows L2 Mv
def top (i : Nat) : Stmt := PySem.Challenge.pw_twostrokes_k15_order_of_flows.main.body.getD i (.Pass ⟨0, 0, 0, 0⟩)
abbrev s_greatest_divisor : Stmt := top 2
abbrev s_Flow___init__ : Stmt := inClass (top 3) 0
abbrev s_Flow___mul__ : Stmt := inClass (top 3) 1
abbrev s_Flow___eq__ : Stmt := inClass (top 3) 2
abbrev s_Flow___str__ : Stmt := inClass (top 3) 3
abbrev s_Flow_is_below : Stmt := inClass (top 3) 6
abbrev s_Flow_up : Stmt := inClass (top 3) 7
abbrev s_l_deck : Stmt := top 5
abbrev s_l_draw : Stmt := top 6
abbrev s_l_near : Stmt := top 7
abbrev s_l_fraction : Stmt := top 8
abbrev s_l_up : Stmt := top 9
abbrev s_law : Stmt := top 10
/-- what the module does not name, its constants -/
structure Txt (K : PySem.W.Frag) (mg : Str → Option Value) : Prop where
  z_enumerate : mg "enumerate" = none
  z_int : mg "int" = none
  z_isinstance : mg "isinstance" = none
  z_len : mg "len" = none
  z_range : mg "range" = none
  z_repr : mg "repr" = none
  z_str : mg "str" = none
  fd_bottom_Flow : FldOk K "bottom" "Flow"
  fd_top_Flow : FldOk K "top" "Flow"
  is_Flow : IsoG K mg "Flow" [("Flow", true)]
/-- the defs, as they may be called -/
structure Cs (P : Program) (w : World) (K : PySem.W.Frag) (mg : Str → Option Value) (base : Heap) (k : Nat) (fs : Nat → Addr) (ds : Nat → FuncData) : Prop where
  c0 : CalG P w K mg base k "greatest_divisor" (fs 0) (ds 0) ["one", "other"] (run prog k 0)
  b0_0 : BindOk K (ds 0) ["one", "other"] 2 [] [0, 1]
  c7 : CalG P w K mg base k "_law_deck" (fs 7) (ds 7) ["_law_script"] (run prog k 7)
  b7_0 : BindOk K (ds 7) ["_law_script"] 1 [] [0]
  c8 : CalG P w K mg base k "_law_draw" (fs 8) (ds 8) ["_law_deck_here", "_law_many"] (run prog k 8)
  b8_0 : BindOk K (ds 8) ["_law_deck_here", "_law_many"] 2 [] [0, 1]
  c9 : CalG P w K mg base k "_law_near" (fs 9) (ds 9) ["_law_deck_here", "_law_a", "_law_b"] (run prog k 9)
  b9_0 : BindOk K (ds 9) ["_law_deck_here", "_law_a", "_law_b"] 3 [] [0, 1, 2]
  c10 : CalG P w K mg base k "_law_fraction" (fs 10) (ds 10) ["_law_deck_here", "_law_ahead"] (run prog k 10)
  b10_0 : BindOk K (ds 10) ["_law_deck_here", "_law_ahead"] 2 [] [0, 1]
  c11 : CalG P w K mg base k "_law_up" (fs 11) (ds 11) ["_law_a", "_law_b"] (run prog k 11)
  b11_0 : BindOk K (ds 11) ["_law_a", "_law_b"] 2 [] [0, 1]
  c12 : CalG P w K mg base k "law" (fs 12) (ds 12) ["_law_script"] (run prog k 12)
  k_Flow_0 : MkG P w K mg base k "Flow" (run prog k 1) 2 [] [(.int 1)] [0, 1]
  t_is_below_0_Flow : MetG P w K mg base k "Flow" "is_below" (run prog k 5) 1 [] [] [0]
  t_is_below_1_Flow : MetG P w K mg base k "Flow" "is_below" (run prog k 5) 0 ["other"] [] [0]
  t_up_0_Flow : MetG P w K mg base k "Flow" "up" (run prog k 6) 0 [] [] []
  e_Flow : EqG P w K mg base k "Flow" (run prog k 3)
section
variable {P : Program} {w : World} {K : PySem.W.Frag} {mg : Str → Option Value} {base : Heap} {k : Nat} {fs : Nat → Addr} {ds : Nat → FuncData}
theorem sc_greatest_divisor : FnScope n_greatest_divisor ["one", "other"] (defScope s_greatest_divisor) := ⟨rfl, rfl, rfl, by decide +kernel, rfl, by decide +kernel, by decide +kernel⟩
theorem w_greatest_divisor {f : Addr} {cdv : Value} {A : Around} {outer : List Env} {s : Shared} {H : Hp} {W : XW} (S : Cs P w K mg base k fs ds) (T : Txt K mg) (hdg : base.NoDigits) (hW : WInv W) (hr : Room (3 * k + 2) (A.deeper (envOfC "greatest_divisor" (defScope s_greatest_divisor) s.heap.objs.size f cdv))) (hgu : A.guards = some []) :
    EB (cxG P w K mg base n_greatest_divisor "greatest_divisor" (defScope s_greatest_divisor) f cdv A outer s H) W (run prog k) (defBody s_greatest_divisor) f_greatest_divisor.body :=
  have G : Good (cxG P w K mg base n_greatest_divisor "greatest_divisor" (defScope s_greatest_divisor) f cdv A outer s H) := good_of sc_greatest_divisor hr hgu hdg
  (B_cons hW (S_par G rfl rfl (by decide) rfl rfl (A_cons (E_var rfl (.inl rfl) (by decide) (by decide)) (A_cons (E_var rfl (.inl rfl) (by decide) (by decide)) A_nil)))
  (B_cons hW (S_whl G hW PassesOwn.never (T_cmp G .ne (E_var rfl (.inl rfl) (by decide) (by decide)) E_int) (B_cons hW (S_par G rfl rfl (by decide) rfl rfl (A_cons (E_var rfl (.inl rfl) (by decide) (by decide)) (A_cons (E_bin .mod (E_var rfl (.inl rfl) (by decide) (by decide)) (E_var rfl (.inl rfl) (by decide) (by decide))) A_nil)))
  B_nil))
  (B_cons hW (S_ret (E_var rfl (.inl rfl) (by decide) (by decide)))
  B_nil)))
theorem sc_Flow___init__ : FnScope n_Flow___init__ ["self", "top", "bottom"] (defScope s_Flow___init__) := ⟨rfl, rfl, rfl, by decide +kernel, rfl, by decide +kernel, by decide +kernel⟩
theorem w_Flow___init__ {f : Addr} {cdv : Value} {A : Around} {outer : List Env} {s : Shared} {H : Hp} {W : XW} (S : Cs P w K mg base k fs ds) (T : Txt K mg) (hdg : base.NoDigits) (hW : WInv W) (hr : Room (3 * k + 2) (A.deeper (envOfC "Flow.__init__" (defScope s_Flow___init__) s.heap.objs.size f cdv))) (hgu : A.guards = some []) :
    EB (cxG P w K mg base n_Flow___init__ "Flow.__init__" (defScope s_Flow___init__) f cdv A outer s H) W (run prog k) (defBody s_Flow___init__) f_Flow___init__.body :=
  have G : Good (cxG P w K mg base n_Flow___init__ "Flow.__init__" (defScope s_Flow___init__) f cdv A outer s H) := good_of sc_Flow___init__ hr hgu hdg
  (B_cons hW (S_asg (own := [3]) (E_call G S.c0 hr S.b0_0 (A_cons (E_var rfl (.inl rfl) (by decide) (by decide)) (A_cons (E_var rfl (.inl rfl) (by decide) (by decide)) A_nil)) K_nil) (G_name G rfl (.inl rfl) (.inl rfl) (by decide)))
  (B_cons hW (S_fld (allC T.fd_top_Flow allN) (E_var rfl (.inl rfl) (by decide) (by decide)) (E_bin .fdiv (E_var rfl (.inl rfl) (by decide) (by decide)) (E_var rfl (.inl rfl) (by decide) (by decide))))
  (B_cons hW (S_fld (allC T.fd_bottom_Flow allN) (E_var rfl (.inl rfl) (by decide) (by decide)) (E_bin .fdiv (E_var rfl (.inl rfl) (by decide) (by decide)) (E_var rfl (.inl rfl) (by decide) (by decide))))
  B_nil)))
theorem sc_Flow___mul__ : FnScope n_Flow___mul__ ["self", "other"] (defScope s_Flow___mul__) := ⟨rfl, rfl, rfl, by decide +kernel, rfl, by decide +kernel, by decide +kernel⟩
theorem w_Flow___mul__ {f : Addr} {cdv : Value} {A : Around} {outer : List Env} {s : Shared} {H : Hp} {W : XW} (S : Cs P w K mg base k fs ds) (T : Txt K mg) (hdg : base.NoDigits) (hW : WInv W) (hr : Room (3 * k + 2) (A.deeper (envOfC "Flow.__mul__" (defScope s_Flow___mul__) s.heap.objs.size f cdv))) (hgu : A.guards = some []) :
    EB (cxG P w K mg base n_Flow___mul__ "Flow.__mul__" (defScope s_Flow___mul__) f cdv A outer s H) W (run prog k) (defBody s_Flow___mul__) f_Flow___mul__.body :=
  have G : Good (cxG P w K mg base n_Flow___mul__ "Flow.__mul__" (defScope s_Flow___mul__) f cdv A outer s H) := good_of sc_Flow___mul__ hr hgu hdg
  (B_cons hW (S_ret (E_mk G S.k_Flow_0 hr (A_cons (E_bin .mul (E_fld (allC T.fd_top_Flow allN) (E_var rfl (.inl rfl) (by decide) (by decide))) (E_fld (allC T.fd_top_Flow allN) (E_var rfl (.inl rfl) (by decide) (by decide)))) (A_cons (E_bin .mul (E_fld (allC T.fd_bottom_Flow allN) (E_var rfl (.inl rfl) (by decide) (by decide))) (E_fld (allC T.fd_bottom_Flow allN) (E_var rfl (.inl rfl) (by decide) (by decide)))) A_nil)) K_nil))
  B_nil)
theorem sc_Flow___eq__ : FnScope n_Flow___eq__ ["self", "other"] (defScope s_Flow___eq__) := ⟨rfl, rfl, rfl, by decide +kernel, rfl, by decide +kernel, by decide +kernel⟩
theorem w_Flow___eq__ {f : Addr} {cdv : Value} {A : Around} {outer : List Env} {s : Shared} {H : Hp} {W : XW} (S : Cs P w K mg base k fs ds) (T : Txt K mg) (hdg : base.NoDigits) (hW : WInv W) (hr : Room (3 * k + 2) (A.deeper (envOfC "Flow.__eq__" (defScope s_Flow___eq__) s.heap.objs.size f cdv))) (hgu : A.guards = some []) :
    EB (cxG P w K mg base n_Flow___eq__ "Flow.__eq__" (defScope s_Flow___eq__) f cdv A outer s H) W (run prog k) (defBody s_Flow___eq__) f_Flow___eq__.body :=
  have G : Good (cxG P w K mg base n_Flow___eq__ "Flow.__eq__" (defScope s_Flow___eq__) f cdv A outer s H) := good_of sc_Flow___eq__ hr hgu hdg
  (B_cons hW (S_ret (E_and (E_iso T.is_Flow T.z_isinstance (E_var rfl (.inl rfl) (by decide) (by decide))) (E_and (E_cmp G .eq (E_fld (allC T.fd_top_Flow allN) (E_var rfl (.inl rfl) (by decide) (by decide))) (E_fld (allC T.fd_top_Flow allN) (E_var rfl (.inl rfl) (by decide) (by decide)))) (E_one (E_cmp G .eq (E_fld (allC T.fd_bottom_Flow allN) (E_var rfl (.inl rfl) (by decide) (by decide))) (E_fld (allC T.fd_bottom_Flow allN) (E_var rfl (.inl rfl) (by decide) (by decide))))))))
  B_nil)
theorem sc_Flow___str__ : FnScope n_Flow___str__ ["self"] (defScope s_Flow___str__) := ⟨rfl, rfl, rfl, by decide +kernel, rfl, by decide +kernel, by decide +kernel⟩
theorem w_Flow___str__ {f : Addr} {cdv : Value} {A : Around} {outer : List Env} {s : Shared} {H : Hp} {W : XW} (S : Cs P w K mg base k fs ds) (T : Txt K mg) (hdg : base.NoDigits) (hW : WInv W) (hr : Room (3 * k + 2) (A.deeper (envOfC "Flow.__str__" (defScope s_Flow___str__) s.heap.objs.size f cdv))) (hgu : A.guards = some []) :
    EB (cxG P w K mg base n_Flow___str__ "Flow.__str__" (defScope s_Flow___str__) f cdv A outer s H) W (run prog k) (defBody s_Flow___str__) f_Flow___str__.body :=
  have G : Good (cxG P w K mg base n_Flow___str__ "Flow.__str__" (defScope s_Flow___str__) f cdv A outer s H) := good_of sc_Flow___str__ hr hgu hdg
  (B_cons hW (S_ifs (T_cmp G .eq (E_fld (allC T.fd_bottom_Flow allN) (E_var rfl (.inl rfl) (by decide) (by decide))) E_int) (B_cons hW (S_ret (E_bi G .str T.z_str (A_cons (E_fld (allC T.fd_top_Flow allN) (E_var rfl (.inl rfl) (by decide) (by decide))) A_nil)))
  B_nil) B_nil)
  (B_cons hW (S_ret (E_fst (J_fmt G (E_fld (allC T.fd_top_Flow allN) (E_var rfl (.inl rfl) (by decide) (by decide))) (J_cst (J_fmt G (E_fld (allC T.fd_bottom_Flow allN) (E_var rfl (.inl rfl) (by decide) (by decide))) J_nil)))))
  B_nil))
theorem sc_Flow_is_below : FnScope n_Flow_is_below ["self", "other"] (defScope s_Flow_is_below) := ⟨rfl, rfl, rfl, by decide +kernel, rfl, by decide +kernel, by decide +kernel⟩
theorem w_Flow_is_below {f : Addr} {cdv : Value} {A : Around} {outer : List Env} {s : Shared} {H : Hp} {W : XW} (S : Cs P w K mg base k fs ds) (T : Txt K mg) (hdg : base.NoDigits) (hW : WInv W) (hr : Room (3 * k + 2) (A.deeper (envOfC "Flow.is_below" (defScope s_Flow_is_below) s.heap.objs.size f cdv))) (hgu : A.guards = some []) :
    EB (cxG P w K mg base n_Flow_is_below "Flow.is_below" (defScope s_Flow_is_below) f cdv A outer s H) W (run prog k) (defBody s_Flow_is_below) f_Flow_is_below.body :=
  have G : Good (cxG P w K mg base n_Flow_is_below "Flow.is_below" (defScope s_Flow_is_below) f cdv A outer s H) := good_of sc_Flow_is_below hr hgu hdg
  (B_cons hW (S_ret (E_cmp G .lt (E_bin .mul (E_fld (allC T.fd_top_Flow allN) (E_var rfl (.inl rfl) (by decide) (by decide))) (E_fld (allC T.fd_bottom_Flow allN) (E_var rfl (.inl rfl) (by decide) (by decide)))) (E_bin .mul (E_fld (allC T.fd_top_Flow allN) (E_var rfl (.inl rfl) (by decide) (by decide))) (E_fld (allC T.fd_bottom_Flow allN) (E_var rfl (.inl rfl) (by decide) (by decide))))))
  B_nil)
theorem sc_Flow_up : FnScope n_Flow_up ["self"] (defScope s_Flow_up) := ⟨rfl, rfl, rfl, by decide +kernel, rfl, by decide +kernel, by decide +kernel⟩
theorem w_Flow_up {f : Addr} {cdv : Value} {A : Around} {outer : List Env} {s : Shared} {H : Hp} {W : XW} (S : Cs P w K mg base k fs ds) (T : Txt K mg) (hdg : base.NoDigits) (hW : WInv W) (hr : Room (3 * k + 2) (A.deeper (envOfC "Flow.up" (defScope s_Flow_up) s.heap.objs.size f cdv))) (hgu : A.guards = some []) :
    EB (cxG P w K mg base n_Flow_up "Flow.up" (defScope s_Flow_up) f cdv A outer s H) W (run prog k) (defBody s_Flow_up) f_Flow_up.body :=
  have G : Good (cxG P w K mg base n_Flow_up "Flow.up" (defScope s_Flow_up) f cdv A outer s H) := good_of sc_Flow_up hr hgu hdg
  (B_cons hW (S_ret (E_neg (E_bin .fdiv (E_neg (E_fld (allC T.fd_top_Flow allN) (E_var rfl (.inl rfl) (by decide) (by decide)))) (E_fld (allC T.fd_bottom_Flow allN) (E_var rfl (.inl rfl) (by decide) (by decide))))))
  B_nil)
theorem sc_l_deck : FnScope n_l_deck ["_law_script"] (defScope s_l_deck) := ⟨rfl, rfl, rfl, by decide +kernel, rfl, by decide +kernel, by decide +kernel⟩
theorem w_l_deck {f : Addr} {cdv : Value} {A : Around} {outer : List Env} {s : Shared} {H : Hp} {W : XW} (S : Cs P w K mg base k fs ds) (T : Txt K mg) (hdg : base.NoDigits) (hW : WInv W) (hr : Room (3 * k + 2) (A.deeper (envOfC "_law_deck" (defScope s_l_deck) s.heap.objs.size f cdv))) (hgu : A.guards = some []) :
    EB (cxG P w K mg base n_l_deck "_law_deck" (defScope s_l_deck) f cdv A outer s H) W (run prog k) (defBody s_l_deck) f_l_deck.body :=
  have G : Good (cxG P w K mg base n_l_deck "_law_deck" (defScope s_l_deck) f cdv A outer s H) := good_of sc_l_deck hr hgu hdg
  (B_cons hW (S_asg (own := [1]) E_int (G_name G rfl (.inl rfl) (.inl rfl) (by decide)))
  (B_cons hW (S_for (own := [2]) G hW PassesOwn.never (I_val (E_slc (E_var rfl (.inl rfl) (by decide) (by decide)) O_none (O_some E_int))) (G_name G rfl (.inl rfl) (.inl rfl) (by decide)) (B_cons hW (S_asg (own := [1]) (E_bin .mod (E_bi G .int T.z_int (A_cons (E_bin .add (E_bin .add (E_bin .mul (E_var rfl (.inl rfl) (by decide) (by decide)) E_int) (E_bin .mod (E_bi G .int T.z_int (A_cons (E_var rfl (.inl rfl) (by decide) (by decide)) A_nil)) E_int)) E_int) A_nil)) E_int) (G_name G rfl (.inl rfl) (.inl rfl) (by decide)))
  B_nil))
  (B_cons hW (S_ret (E_dct (P_str (E_rev (E_comp (ow := [("_law_cell", 2)]) G hW (I_val (E_slc (E_var rfl (.inl rfl) (by decide) (by decide)) O_none (O_some E_int))) (blkOk_by (by show blkC n_l_deck (defScope s_l_deck) _ _ = true; decide +kernel)) (fun _ _ _ _ _ => (G_name (Good.blk G) rfl (.inl rfl) (.inr rfl) (by decide))) (fun _ _ _ _ _ => (C_one (T_cmp (Good.blk G) .ge (E_var rfl (.inl rfl) (by decide) (by decide)) (E_bin .pow E_int E_int)))) (fun _ _ _ _ _ => (E_var rfl (.inl rfl) (by decide) (by decide))))) (P_str (E_var rfl (.inl rfl) (by decide) (by decide)) P_nil))))
  B_nil)))
theorem sc_l_draw : FnScope n_l_draw ["_law_deck_here", "_law_many"] (defScope s_l_draw) := ⟨rfl, rfl, rfl, by decide +kernel, rfl, by decide +kernel, by decide +kernel⟩
theorem w_l_draw {f : Addr} {cdv : Value} {A : Around} {outer : List Env} {s : Shared} {H : Hp} {W : XW} (S : Cs P w K mg base k fs ds) (T : Txt K mg) (hdg : base.NoDigits) (hW : WInv W) (hr : Room (3 * k + 2) (A.deeper (envOfC "_law_draw" (defScope s_l_draw) s.heap.objs.size f cdv))) (hgu : A.guards = some []) :
    EB (cxG P w K mg base n_l_draw "_law_draw" (defScope s_l_draw) f cdv A outer s H) W (run prog k) (defBody s_l_draw) f_l_draw.body :=
  have G : Good (cxG P w K mg base n_l_draw "_law_draw" (defScope s_l_draw) f cdv A outer s H) := good_of sc_l_draw hr hgu hdg
  (B_cons hW (S_ifs (T_cmp G .ne (E_ix G (E_var rfl (.inl rfl) (by decide) (by decide)) E_str) (E_lst A_nil)) (B_cons hW (S_asg (own := [2]) (E_bi G .int T.z_int (A_cons (E_mth0 .pop (E_ix G (E_var rfl (.inl rfl) (by decide) (by decide)) E_str)) A_nil)) (G_name G rfl (.inl rfl) (.inl rfl) (by decide)))
  (B_cons hW (S_ifs (T_cmp G .ge (E_var rfl (.inl rfl) (by decide) (by decide)) (E_var rfl (.inl rfl) (by decide) (by decide))) (B_cons hW (S_exp (E_mth .append (E_ix G (E_var rfl (.inl rfl) (by decide) (by decide)) E_str) (A_cons (E_bin .fdiv (E_var rfl (.inl rfl) (by decide) (by decide)) (E_var rfl (.inl rfl) (by decide) (by decide))) A_nil)))
  B_nil) B_nil)
  (B_cons hW (S_ret (E_bin .mod (E_var rfl (.inl rfl) (by decide) (by decide)) (E_var rfl (.inl rfl) (by decide) (by decide))))
  B_nil))) B_nil)
  (B_cons hW (S_asg (own := []) (E_bin .mod (E_bi G .int T.z_int (A_cons (E_bin .add (E_bin .mul (E_bi G .int T.z_int (A_cons (E_ix G (E_var rfl (.inl rfl) (by decide) (by decide)) E_str) A_nil)) E_int) E_int) A_nil)) E_int) (G_sub G (E_var rfl (.inl rfl) (by decide) (by decide)) E_str))
  (B_cons hW (S_ret (E_bin .mod (E_bin .fdiv (E_bi G .int T.z_int (A_cons (E_ix G (E_var rfl (.inl rfl) (by decide) (by decide)) E_str) A_nil)) E_int) (E_var rfl (.inl rfl) (by decide) (by decide))))
  B_nil)))
theorem sc_l_near : FnScope n_l_near ["_law_deck_here", "_law_a", "_law_b"] (defScope s_l_near) := ⟨rfl, rfl, rfl, by decide +kernel, rfl, by decide +kernel, by decide +kernel⟩
theorem w_l_near {f : Addr} {cdv : Value} {A : Around} {outer : List Env} {s : Shared} {H : Hp} {W : XW} (S : Cs P w K mg base k fs ds) (T : Txt K mg) (hdg : base.NoDigits) (hW : WInv W) (hr : Room (3 * k + 2) (A.deeper (envOfC "_law_near" (defScope s_l_near) s.heap.objs.size f cdv))) (hgu : A.guards = some []) :
    EB (cxG P w K mg base n_l_near "_law_near" (defScope s_l_near) f cdv A outer s H) W (run prog k) (defBody s_l_near) f_l_near.body :=
  have G : Good (cxG P w K mg base n_l_near "_law_near" (defScope s_l_near) f cdv A outer s H) := good_of sc_l_near hr hgu hdg
  (B_cons hW (S_asg (own := [3]) (E_ix G (E_lst (A_cons E_int (A_cons E_int (A_cons E_int (A_cons E_int (A_cons (E_bin .pow E_int E_int) A_nil)))))) (E_call G S.c8 hr S.b8_0 (A_cons (E_var rfl (.inl rfl) (by decide) (by decide)) (A_cons E_int A_nil)) K_nil)) (G_name G rfl (.inl rfl) (.inl rfl) (by decide)))
  (B_cons hW (S_ret (E_tup (A_cons (E_bin .add (E_bin .mul (E_var rfl (.inl rfl) (by decide) (by decide)) (E_var rfl (.inl rfl) (by decide) (by decide))) (E_call G S.c8 hr S.b8_0 (A_cons (E_var rfl (.inl rfl) (by decide) (by decide)) (A_cons E_int A_nil)) K_nil)) (A_cons (E_bin .add (E_bin .mul (E_var rfl (.inl rfl) (by decide) (by decide)) (E_var rfl (.inl rfl) (by decide) (by decide))) (E_call G S.c8 hr S.b8_0 (A_cons (E_var rfl (.inl rfl) (by decide) (by decide)) (A_cons E_int A_nil)) K_nil)) A_nil))))
  B_nil))
theorem sc_l_fraction : FnScope n_l_fraction ["_law_deck_here", "_law_ahead"] (defScope s_l_fraction) := ⟨rfl, rfl, rfl, by decide +kernel, rfl, by decide +kernel, by decide +kernel⟩
theorem w_l_fraction {f : Addr} {cdv : Value} {A : Around} {outer : List Env} {s : Shared} {H : Hp} {W : XW} (S : Cs P w K mg base k fs ds) (T : Txt K mg) (hdg : base.NoDigits) (hW : WInv W) (hr : Room (3 * k + 2) (A.deeper (envOfC "_law_fraction" (defScope s_l_fraction) s.heap.objs.size f cdv))) (hgu : A.guards = some []) :
    EB (cxG P w K mg base n_l_fraction "_law_fraction" (defScope s_l_fraction) f cdv A outer s H) W (run prog k) (defBody s_l_fraction) f_l_fraction.body :=
  have G : Good (cxG P w K mg base n_l_fraction "_law_fraction" (defScope s_l_fraction) f cdv A outer s H) := good_of sc_l_fraction hr hgu hdg
  (B_cons hW (S_asg (own := [2]) (E_call G S.c8 hr S.b8_0 (A_cons (E_var rfl (.inl rfl) (by decide) (by decide)) (A_cons E_int A_nil)) K_nil) (G_name G rfl (.inl rfl) (.inl rfl) (by decide)))
  (B_cons hW (S_ifs (T_w (W_and (T_cmp G .lt (E_var rfl (.inl rfl) (by decide) (by decide)) E_int) (W_and1 (T_cmp G .ne (E_var rfl (.inl rfl) (by decide) (by decide)) (E_lst A_nil))))) (B_cons hW (S_asg (own := [3, 4]) (E_ix G (E_var rfl (.inl rfl) (by decide) (by decide)) (E_call G S.c8 hr S.b8_0 (A_cons (E_var rfl (.inl rfl) (by decide) (by decide)) (A_cons (E_bi G .len T.z_len (A_cons (E_var rfl (.inl rfl) (by decide) (by decide)) A_nil)) A_nil)) K_nil)) (G_tup G (Gs_cons hW (G_name G rfl (.inl rfl) (.inl rfl) (by decide)) (Gs_cons hW (G_name G rfl (.inl rfl) (.inl rfl) (by decide)) Gs_nil))))
  (B_cons hW (S_ret (E_call G S.c9 hr S.b9_0 (A_cons (E_var rfl (.inl rfl) (by decide) (by decide)) (A_cons (E_var rfl (.inl rfl) (by decide) (by decide)) (A_cons (E_var rfl (.inl rfl) (by decide) (by decide)) A_nil))) K_nil))
  B_nil)) B_nil)
  (B_cons hW (S_ifs (T_cmp G .eq (E_var rfl (.inl rfl) (by decide) (by decide)) E_int) (B_cons hW (S_ret (E_call G S.c9 hr S.b9_0 (A_cons (E_var rfl (.inl rfl) (by decide) (by decide)) (A_cons (E_bin .add E_int (E_call G S.c8 hr S.b8_0 (A_cons (E_var rfl (.inl rfl) (by decide) (by decide)) (A_cons E_int A_nil)) K_nil)) (A_cons E_int A_nil))) K_nil))
  B_nil) B_nil)
  (B_cons hW (S_ifs (T_cmp G .eq (E_var rfl (.inl rfl) (by decide) (by decide)) E_int) (B_cons hW (S_asg (own := [5]) (E_bin .add (E_bin .pow E_int E_int) (E_call G S.c8 hr S.b8_0 (A_cons (E_var rfl (.inl rfl) (by decide) (by decide)) (A_cons (E_bin .pow E_int E_int) A_nil)) K_nil)) (G_name G rfl (.inl rfl) (.inl rfl) (by decide)))
  (B_cons hW (S_ret (E_tup (A_cons (E_bin .mul (E_var rfl (.inl rfl) (by decide) (by decide)) (E_bin .add E_int (E_call G S.c8 hr S.b8_0 (A_cons (E_var rfl (.inl rfl) (by decide) (by decide)) (A_cons (E_bin .pow E_int E_int) A_nil)) K_nil))) (A_cons (E_bin .mul (E_var rfl (.inl rfl) (by decide) (by decide)) (E_bin .add E_int (E_call G S.c8 hr S.b8_0 (A_cons (E_var rfl (.inl rfl) (by decide) (by decide)) (A_cons (E_bin .pow E_int E_int) A_nil)) K_nil))) A_nil))))
  B_nil)) B_nil)
  (B_cons hW (S_ifs (T_cmp G .eq (E_var rfl (.inl rfl) (by decide) (by decide)) E_int) (B_cons hW (S_ret (E_tup (A_cons E_int (A_cons (E_bin .add E_int (E_call G S.c8 hr S.b8_0 (A_cons (E_var rfl (.inl rfl) (by decide) (by decide)) (A_cons E_int A_nil)) K_nil)) A_nil))))
  B_nil) B_nil)
  (B_cons hW (S_ret (E_tup (A_cons (E_bin .add E_int (E_call G S.c8 hr S.b8_0 (A_cons (E_var rfl (.inl rfl) (by decide) (by decide)) (A_cons E_int A_nil)) K_nil)) (A_cons (E_bin .add E_int (E_call G S.c8 hr S.b8_0 (A_cons (E_var rfl (.inl rfl) (by decide) (by decide)) (A_cons E_int A_nil)) K_nil)) A_nil))))
  B_nil))))))
theorem sc_l_up : FnScope n_l_up ["_law_a", "_law_b"] (defScope s_l_up) := ⟨rfl, rfl, rfl, by decide +kernel, rfl, by decide +kernel, by decide +kernel⟩
theorem w_l_up {f : Addr} {cdv : Value} {A : Around} {outer : List Env} {s : Shared} {H : Hp} {W : XW} (S : Cs P w K mg base k fs ds) (T : Txt K mg) (hdg : base.NoDigits) (hW : WInv W) (hr : Room (3 * k + 2) (A.deeper (envOfC "_law_up" (defScope s_l_up) s.heap.objs.size f cdv))) (hgu : A.guards = some []) :
    EB (cxG P w K mg base n_l_up "_law_up" (defScope s_l_up) f cdv A outer s H) W (run prog k) (defBody s_l_up) f_l_up.body :=
  have G : Good (cxG P w K mg base n_l_up "_law_up" (defScope s_l_up) f cdv A outer s H) := good_of sc_l_up hr hgu hdg
  (B_cons hW (S_asg (own := [2]) (E_bin .fdiv (E_var rfl (.inl rfl) (by decide) (by decide)) (E_var rfl (.inl rfl) (by decide) (by decide))) (G_name G rfl (.inl rfl) (.inl rfl) (by decide)))
  (B_cons hW (S_whl G hW PassesOwn.never (T_cmp G .lt (E_bin .mul (E_var rfl (.inl rfl) (by decide) (by decide)) (E_var rfl (.inl rfl) (by decide) (by decide))) (E_var rfl (.inl rfl) (by decide) (by decide))) (B_cons hW (S_asg (own := [2]) (E_bin .add (E_var rfl (.inl rfl) (by decide) (by decide)) E_int) (G_name G rfl (.inl rfl) (.inl rfl) (by decide)))
  B_nil))
  (B_cons hW (S_ret (E_var rfl (.inl rfl) (by decide) (by decide)))
  B_nil)))
theorem sc_law : FnScope n_law ["_law_script"] (defScope s_law) := ⟨rfl, rfl, rfl, by decide +kernel, rfl, by decide +kernel, by decide +kernel⟩
theorem w_law {f : Addr} {cdv : Value} {A : Around} {outer : List Env} {s : Shared} {H : Hp} {W : XW} (S : Cs P w K mg base k fs ds) (T : Txt K mg) (hdg : base.NoDigits) (hW : WInv W) (hr : Room (3 * k + 2) (A.deeper (envOfC "law" (defScope s_law) s.heap.objs.size f cdv))) (hgu : A.guards = some []) :
    EB (cxG P w K mg base n_law "law" (defScope s_law) f cdv A outer s H) W (run prog k) (defBody s_law) f_law.body :=
  have G : Good (cxG P w K mg base n_law "law" (defScope s_law) f cdv A outer s H) := good_of sc_law hr hgu hdg
  (B_cons hW (S_asg (own := [1]) (E_call G S.c7 hr S.b7_0 (A_cons (E_var rfl (.inl rfl) (by decide) (by decide)) A_nil) K_nil) (G_name G rfl (.inl rfl) (.inl rfl) (by decide)))
  (B_cons hW (S_for (own := [2]) G hW PassesOwn.never (I_rng1 T.z_range E_int) (G_name G rfl (.inl rfl) (.inl rfl) (by decide)) (B_cons hW (S_asg (own := [3]) (E_lst A_nil) (G_name G rfl (.inl rfl) (.inl rfl) (by decide)))
  (B_cons hW (S_for (own := [4]) G hW PassesOwn.never (I_rng1 T.z_range (E_bin .add E_int (E_call G S.c8 hr S.b8_0 (A_cons (E_var rfl (.inl rfl) (by decide) (by decide)) (A_cons E_int A_nil)) K_nil))) (G_name G rfl (.inl rfl) (.inl rfl) (by decide)) (B_cons hW (S_exp (E_mth .append (E_var rfl (.inl rfl) (by decide) (by decide)) (A_cons (E_call G S.c10 hr S.b10_0 (A_cons (E_var rfl (.inl rfl) (by decide) (by decide)) (A_cons (E_var rfl (.inl rfl) (by decide) (by decide)) A_nil)) K_nil) A_nil)))
  B_nil))
  (B_cons hW (S_asg (own := [5]) (E_comp (ow := [("_law_a", 7), ("_law_b", 8)]) G hW (I_val (E_var rfl (.inl rfl) (by decide) (by decide))) (blkOk_by (by show blkC n_law (defScope s_law) _ _ = true; decide +kernel)) (fun _ _ _ _ _ => (G_tup (Good.blk G) (Gs_cons hW (G_name (Good.blk G) rfl (.inl rfl) (.inr rfl) (by decide)) (Gs_cons hW (G_name (Good.blk G) rfl (.inl rfl) (.inr rfl) (by decide)) Gs_nil)))) (fun _ _ _ _ _ => C_none) (fun _ _ _ _ _ => (E_mk (Good.blk G) S.k_Flow_0 hr (A_cons (E_var rfl (.inl rfl) (by decide) (by decide)) (A_cons (E_var rfl (.inl rfl) (by decide) (by decide)) A_nil)) K_nil))) (G_name G rfl (.inr rfl) (.inl rfl) (by decide)))
  (B_cons hW (S_for (own := [6, 7, 8]) G hW PassesOwn.never (I_enm T.z_enumerate (E_var rfl (.inl rfl) (by decide) (by decide))) (G_tup G (Gs_cons hW (G_name G rfl (.inl rfl) (.inl rfl) (by decide)) (Gs_cons hW (G_tup G (Gs_cons hW (G_name G rfl (.inl rfl) (.inl rfl) (by decide)) (Gs_cons hW (G_name G rfl (.inl rfl) (.inl rfl) (by decide)) Gs_nil))) Gs_nil))) (B_cons hW (S_asg (own := [9]) (E_call G S.c11 hr S.b11_0 (A_cons (E_var rfl (.inl rfl) (by decide) (by decide)) (A_cons (E_var rfl (.inl rfl) (by decide) (by decide)) A_nil)) K_nil) (G_name G rfl (.inl rfl) (.inl rfl) (by decide)))
  (B_cons hW (S_ifs (T_w (W_or (T_cmp G .ne (E_bi G .repr T.z_repr (A_cons (E_lst (A_cons (E_omtK G (allC S.t_up_0_Flow allN) hr (E_ix G (E_var rfl (.inr (.inl rfl)) (by decide) (by decide)) (E_var rfl (.inl rfl) (by decide) (by decide))) K_nil) (A_cons (E_omtK G (allC S.t_up_0_Flow allN) hr (E_ix G (E_var rfl (.inr (.inl rfl)) (by decide) (by decide)) (E_var rfl (.inl rfl) (by decide) (by decide))) K_nil) A_nil))) A_nil)) (E_bi G .repr T.z_repr (A_cons (E_lst (A_cons (E_var rfl (.inl rfl) (by decide) (by decide)) (A_cons (E_var rfl (.inl rfl) (by decide) (by decide)) A_nil))) A_nil))) (W_or1 (T_cmp G .lt (E_var rfl (.inl rfl) (by decide) (by decide)) E_int)))) (B_cons hW (S_ret E_bl)
  B_nil) B_nil)
  (B_cons hW (S_for (own := [10, 11, 12]) G hW PassesOwn.never (I_enm T.z_enumerate (E_var rfl (.inl rfl) (by decide) (by decide))) (G_tup G (Gs_cons hW (G_name G rfl (.inl rfl) (.inl rfl) (by decide)) (Gs_cons hW (G_tup G (Gs_cons hW (G_name G rfl (.inl rfl) (.inl rfl) (by decide)) (Gs_cons hW (G_name G rfl (.inl rfl) (.inl rfl) (by decide)) Gs_nil))) Gs_nil))) (B_cons hW (S_asg (own := [13]) (E_lst (A_cons (E_omt G (allC S.t_is_below_0_Flow allN) hr (E_ix G (E_var rfl (.inr (.inl rfl)) (by decide) (by decide)) (E_var rfl (.inl rfl) (by decide) (by decide))) (A_cons (E_ix G (E_var rfl (.inr (.inl rfl)) (by decide) (by decide)) (E_var rfl (.inl rfl) (by decide) (by decide))) A_nil) K_nil) (A_cons (E_omtK G (allC S.t_is_below_1_Flow allN) hr (E_ix G (E_var rfl (.inr (.inl rfl)) (by decide) (by decide)) (E_var rfl (.inl rfl) (by decide) (by decide))) (K_cons (E_ix G (E_var rfl (.inr (.inl rfl)) (by decide) (by decide)) (E_var rfl (.inl rfl) (by decide) (by decide))) K_nil)) (A_cons (E_omt G (allC S.t_is_below_0_Flow allN) hr (E_ix G (E_var rfl (.inr (.inl rfl)) (by decide) (by decide)) (E_var rfl (.inl rfl) (by decide) (by decide))) (A_cons (E_ix G (E_var rfl (.inr (.inl rfl)) (by decide) (by decide)) (E_var rfl (.inl rfl) (by decide) (by decide))) A_nil) K_nil) A_nil)))) (G_name G rfl (.inl rfl) (.inl rfl) (by decide)))
  (B_cons hW (S_ifs (T_cmp G .ne (E_bi G .repr T.z_repr (A_cons (E_var rfl (.inl rfl) (by decide) (by decide)) A_nil)) (E_bi G .repr T.z_repr (A_cons (E_bin .mul (E_lst (A_cons (E_cmp G .lt (E_bin .mul (E_var rfl (.inl rfl) (by decide) (by decide)) (E_var rfl (.inl rfl) (by decide) (by decide))) (E_bin .mul (E_var rfl (.inl rfl) (by decide) (by decide)) (E_var rfl (.inl rfl) (by decide) (by decide)))) A_nil)) E_int) A_nil))) (B_cons hW (S_ret E_bl)
  B_nil) B_nil)
  (B_cons hW (S_ifs (T_cmp G .ne (E_mth .count (E_lst (A_cons (E_omt G (allC S.t_is_below_0_Flow allN) hr (E_ix G (E_var rfl (.inr (.inl rfl)) (by decide) (by decide)) (E_var rfl (.inl rfl) (by decide) (by decide))) (A_cons (E_ix G (E_var rfl (.inr (.inl rfl)) (by decide) (by decide)) (E_var rfl (.inl rfl) (by decide) (by decide))) A_nil) K_nil) (A_cons (E_omt G (allC S.t_is_below_0_Flow allN) hr (E_ix G (E_var rfl (.inr (.inl rfl)) (by decide) (by decide)) (E_var rfl (.inl rfl) (by decide) (by decide))) (A_cons (E_ix G (E_var rfl (.inr (.inl rfl)) (by decide) (by decide)) (E_var rfl (.inl rfl) (by decide) (by decide))) A_nil) K_nil) (A_cons (E_oeq G false (allC S.e_Flow allN) hr (E_ix G (E_var rfl (.inr (.inl rfl)) (by decide) (by decide)) (E_var rfl (.inl rfl) (by decide) (by decide))) (E_ix G (E_var rfl (.inr (.inl rfl)) (by decide) (by decide)) (E_var rfl (.inl rfl) (by decide) (by decide)))) A_nil)))) (A_cons E_bl A_nil)) E_int) (B_cons hW (S_ret E_bl)
  B_nil) B_nil)
  B_nil))))
  B_nil))))
  (B_cons hW (S_ifs (T_cmp G .ne (E_comp (ow := [("_law_x", 6), ("_law_a", 7), ("_law_b", 8)]) G hW (I_enm T.z_enumerate (E_var rfl (.inl rfl) (by decide) (by decide))) (blkOk_by (by show blkC n_law (defScope s_law) _ _ = true; decide +kernel)) (fun _ _ _ _ _ => (G_tup (Good.blk G) (Gs_cons hW (G_name (Good.blk G) rfl (.inl rfl) (.inr rfl) (by decide)) (Gs_cons hW (G_tup (Good.blk G) (Gs_cons hW (G_name (Good.blk G) rfl (.inl rfl) (.inr rfl) (by decide)) (Gs_cons hW (G_name (Good.blk G) rfl (.inl rfl) (.inr rfl) (by decide)) Gs_nil))) Gs_nil)))) (fun _ _ _ _ _ => C_none) (fun _ _ _ _ _ => (E_cmp (Good.blk G) .eq (E_bin .mul (E_fld (allC T.fd_top_Flow allN) (E_ix (Good.blk G) (E_var rfl (.inr (.inl rfl)) (by decide) (by decide)) (E_var rfl (.inl rfl) (by decide) (by decide)))) (E_var rfl (.inl rfl) (by decide) (by decide))) (E_bin .mul (E_fld (allC T.fd_bottom_Flow allN) (E_ix (Good.blk G) (E_var rfl (.inr (.inl rfl)) (by decide) (by decide)) (E_var rfl (.inl rfl) (by decide) (by decide)))) (E_var rfl (.inl rfl) (by decide) (by decide)))))) (E_bin .mul (E_lst (A_cons E_bl A_nil)) (E_bi G .len T.z_len (A_cons (E_var rfl (.inl rfl) (by decide) (by decide)) A_nil)))) (B_cons hW (S_ret E_bl)
  B_nil) B_nil)
  B_nil))))))
  (B_cons hW (S_ret E_bl)
  B_nil)))
end

theorem all_mk {l : PySem.W.OpenLaw} {w : World} {K : PySem.W.Frag} {h : Heap} {mg : Str → Option Value} {fa g0 g1 g2 g3 g4 g5 g6 g7 g8 g9 g10 g11 g12 C_Flow : Addr} (X : K.In h) (hns : h.Ns mainGlobals mg) (hfa : mg "law" = some (.ref fa))
    (aC_Flow : PySem.W.nsIn K mainGlobals "Flow" = some (some (.ref C_Flow)))
    {od0 an0 : Option Addr} {sl0 : Array (Option Value)} {oc0 kV0 dc0 pm0 cd0 ct0 : Value}
    (a0 : PySem.W.nsIn K mainGlobals "greatest_divisor" = some (some (.ref g0)))
    (l0 : K.lookup g0 = some ⟨oc0, od0, .func (PySem.W.fnOf "greatest_divisor" "greatest_divisor" (defArgs s_greatest_divisor) (defBody s_greatest_divisor) (defScope s_greatest_divisor) .none kV0 dc0 pm0 an0 cd0 ct0), sl0⟩) (c0 : PySem.W.codeIn K cd0 "greatest_divisor" = true) (k0 : PySem.W.keepIn K (.ref g0) = true)
    {od1 an1 : Option Addr} {sl1 : Array (Option Value)} {oc1 kV1 dc1 pm1 cd1 ct1 : Value}
    (a1 : PySem.W.findIn K (.ref C_Flow) "__init__" = some (some (.ref g1))) (i1 : PySem.W.isFn K (.ref g1) = true)
    {T1 : Addr} {tc1 : Value} {td1 : Option Addr} {tn1 : Nat} {ts1 : Array (Option Value)} {tk1_0 : Tok} (t1 : K.lookup T1 = some ⟨tc1, td1, .seq ([Value.int (1) tk1_0]).toArray tn1, ts1⟩)
    (l1 : K.lookup g1 = some ⟨oc1, od1, .func (PySem.W.fnOf "__init__" "Flow.__init__" (defArgs s_Flow___init__) (defBody s_Flow___init__) (defScope s_Flow___init__) (.ref T1) kV1 dc1 pm1 an1 cd1 ct1), sl1⟩) (c1 : PySem.W.codeIn K cd1 "Flow.__init__" = true) (k1 : PySem.W.keepIn K (.ref g1) = true)
    {od2 an2 : Option Addr} {sl2 : Array (Option Value)} {oc2 kV2 dc2 pm2 cd2 ct2 : Value}
    (a2 : PySem.W.findIn K (.ref C_Flow) "__mul__" = some (some (.ref g2))) (i2 : PySem.W.isFn K (.ref g2) = true)
    (l2 : K.lookup g2 = some ⟨oc2, od2, .func (PySem.W.fnOf "__mul__" "Flow.__mul__" (defArgs s_Flow___mul__) (defBody s_Flow___mul__) (defScope s_Flow___mul__) .none kV2 dc2 pm2 an2 cd2 ct2), sl2⟩) (c2 : PySem.W.codeIn K cd2 "Flow.__mul__" = true) (k2 : PySem.W.keepIn K (.ref g2) = true)
    {od3 an3 : Option Addr} {sl3 : Array (Option Value)} {oc3 kV3 dc3 pm3 cd3 ct3 : Value}
    (a3 : PySem.W.findIn K (.ref C_Flow) "__eq__" = some (some (.ref g3))) (i3 : PySem.W.isFn K (.ref g3) = true)
    (l3 : K.lookup g3 = some ⟨oc3, od3, .func (PySem.W.fnOf "__eq__" "Flow.__eq__" (defArgs s_Flow___eq__) (defBody s_Flow___eq__) (defScope s_Flow___eq__) .none kV3 dc3 pm3 an3 cd3 ct3), sl3⟩) (c3 : PySem.W.codeIn K cd3 "Flow.__eq__" = true) (k3 : PySem.W.keepIn K (.ref g3) = true)
    {od4 an4 : Option Addr} {sl4 : Array (Option Value)} {oc4 kV4 dc4 pm4 cd4 ct4 : Value}
    (a4 : PySem.W.findIn K (.ref C_Flow) "__str__" = some (some (.ref g4))) (i4 : PySem.W.isFn K (.ref g4) = true)
    (l4 : K.lookup g4 = some ⟨oc4, od4, .func (PySem.W.fnOf "__str__" "Flow.__str__" (defArgs s_Flow___str__) (defBody s_Flow___str__) (defScope s_Flow___str__) .none kV4 dc4 pm4 an4 cd4 ct4), sl4⟩) (c4 : PySem.W.codeIn K cd4 "Flow.__str__" = true) (k4 : PySem.W.keepIn K (.ref g4) = true)
    {od5 an5 : Option Addr} {sl5 : Array (Option Value)} {oc5 kV5 dc5 pm5 cd5 ct5 : Value}
    (a5 : PySem.W.findIn K (.ref C_Flow) "is_below" = some (some (.ref g5))) (i5 : PySem.W.isFn K (.ref g5) = true)
    (l5 : K.lookup g5 = some ⟨oc5, od5, .func (PySem.W.fnOf "is_below" "Flow.is_below" (defArgs s_Flow_is_below) (defBody s_Flow_is_below) (defScope s_Flow_is_below) .none kV5 dc5 pm5 an5 cd5 ct5), sl5⟩) (c5 : PySem.W.codeIn K cd5 "Flow.is_below" = true) (k5 : PySem.W.keepIn K (.ref g5) = true)
    {od6 an6 : Option Addr} {sl6 : Array (Option Value)} {oc6 kV6 dc6 pm6 cd6 ct6 : Value}
    (a6 : PySem.W.findIn K (.ref C_Flow) "up" = some (some (.ref g6))) (i6 : PySem.W.isFn K (.ref g6) = true)
    (l6 : K.lookup g6 = some ⟨oc6, od6, .func (PySem.W.fnOf "up" "Flow.up" (defArgs s_Flow_up) (defBody s_Flow_up) (defScope s_Flow_up) .none kV6 dc6 pm6 an6 cd6 ct6), sl6⟩) (c6 : PySem.W.codeIn K cd6 "Flow.up" = true) (k6 : PySem.W.keepIn K (.ref g6) = true)
    {od7 an7 : Option Addr} {sl7 : Array (Option Value)} {oc7 kV7 dc7 pm7 cd7 ct7 : Value}
    (a7 : PySem.W.nsIn K mainGlobals "_law_deck" = some (some (.ref g7)))
    (l7 : K.lookup g7 = some ⟨oc7, od7, .func (PySem.W.fnOf "_law_deck" "_law_deck" (defArgs s_l_deck) (defBody s_l_deck) (defScope s_l_deck) .none kV7 dc7 pm7 an7 cd7 ct7), sl7⟩) (c7 : PySem.W.codeIn K cd7 "_law_deck" = true) (k7 : PySem.W.keepIn K (.ref g7) = true)
    {od8 an8 : Option Addr} {sl8 : Array (Option Value)} {oc8 kV8 dc8 pm8 cd8 ct8 : Value}
    (a8 : PySem.W.nsIn K mainGlobals "_law_draw" = some (some (.ref g8)))
    (l8 : K.lookup g8 = some ⟨oc8, od8, .func (PySem.W.fnOf "_law_draw" "_law_draw" (defArgs s_l_draw) (defBody s_l_draw) (defScope s_l_draw) .none kV8 dc8 pm8 an8 cd8 ct8), sl8⟩) (c8 : PySem.W.codeIn K cd8 "_law_draw" = true) (k8 : PySem.W.keepIn K (.ref g8) = true)
    {od9 an9 : Option Addr} {sl9 : Array (Option Value)} {oc9 kV9 dc9 pm9 cd9 ct9 : Value}
    (a9 : PySem.W.nsIn K mainGlobals "_law_near" = some (some (.ref g9)))
    (l9 : K.lookup g9 = some ⟨oc9, od9, .func (PySem.W.fnOf "_law_near" "_law_near" (defArgs s_l_near) (defBody s_l_near) (defScope s_l_near) .none kV9 dc9 pm9 an9 cd9 ct9), sl9⟩) (c9 : PySem.W.codeIn K cd9 "_law_near" = true) (k9 : PySem.W.keepIn K (.ref g9) = true)
    {od10 an10 : Option Addr} {sl10 : Array (Option Value)} {oc10 kV10 dc10 pm10 cd10 ct10 : Value}
    (a10 : PySem.W.nsIn K mainGlobals "_law_fraction" = some (some (.ref g10)))
    (l10 : K.lookup g10 = some ⟨oc10, od10, .func (PySem.W.fnOf "_law_fraction" "_law_fraction" (defArgs s_l_fraction) (defBody s_l_fraction) (defScope s_l_fraction) .none kV10 dc10 pm10 an10 cd10 ct10), sl10⟩) (c10 : PySem.W.codeIn K cd10 "_law_fraction" = true) (k10 : PySem.W.keepIn K (.ref g10) = true)
    {od11 an11 : Option Addr} {sl11 : Array (Option Value)} {oc11 kV11 dc11 pm11 cd11 ct11 : Value}
    (a11 : PySem.W.nsIn K mainGlobals "_law_up" = some (some (.ref g11)))
    (l11 : K.lookup g11 = some ⟨oc11, od11, .func (PySem.W.fnOf "_law_up" "_law_up" (defArgs s_l_up) (defBody s_l_up) (defScope s_l_up) .none kV11 dc11 pm11 an11 cd11 ct11), sl11⟩) (c11 : PySem.W.codeIn K cd11 "_law_up" = true) (k11 : PySem.W.keepIn K (.ref g11) = true)
    {od12 an12 : Option Addr} {sl12 : Array (Option Value)} {oc12 kV12 dc12 pm12 cd12 ct12 : Value}
    (a12 : PySem.W.nsIn K mainGlobals "law" = some (some (.ref g12)))
    (l12 : K.lookup g12 = some ⟨oc12, od12, .func (PySem.W.fnOf "law" "law" (defArgs s_law) (defBody s_law) (defScope s_law) .none kV12 dc12 pm12 an12 cd12 ct12), sl12⟩) (c12 : PySem.W.codeIn K cd12 "law" = true) (k12 : PySem.W.keepIn K (.ref g12) = true)
    (pg_Flow : PySem.W.plainGet K C_Flow Str.empty = true) (hd_Flow : PySem.W.hasDictIn K C_Flow = true) (po_Flow : PySem.W.plainOver K C_Flow = true) (sa_Flow : PySem.W.findIn K (.ref C_Flow) "__setattr__" = some (some (.builtin "object.__setattr__")))
    (ca_Flow : PySem.W.findIn K (.ref C_Flow) "__class__" = some (some (.builtin "object.__class__"))) (cm_Flow : PySem.W.mroIn K C_Flow (.type "object") = some true)
    (mk_Flow : PySem.W.makesIn K C_Flow = true) (kc_Flow : PySem.W.keepIn K (.ref C_Flow) = true) (ty_Flow : PySem.W.typeIn K (.ref C_Flow) = some (.type "type")) (sf_Flow : PySem.W.selfFirst K C_Flow = true) (ne_Flow : PySem.W.findIn K (.ref C_Flow) "__ne__" = some (some (.builtin "object.__ne__")))
    (cn : PySem.W.specialIn K (.builtin "object.__class__") "__get__" = some (some (.builtin "getset_descriptor.__get__"))) (ct : PySem.W.takesIn K (.builtin "object.__class__") = some true)
    (fd_bottom_Flow : PySem.W.findIn K (.ref C_Flow) "bottom" = some none)
    (fd_top_Flow : PySem.W.findIn K (.ref C_Flow) "top" = some none)
    (z_enumerate : PySem.W.nsIn K mainGlobals "enumerate" = some none)
    (z_int : PySem.W.nsIn K mainGlobals "int" = some none)
    (z_isinstance : PySem.W.nsIn K mainGlobals "isinstance" = some none)
    (z_len : PySem.W.nsIn K mainGlobals "len" = some none)
    (z_range : PySem.W.nsIn K mainGlobals "range" = some none)
    (z_repr : PySem.W.nsIn K mainGlobals "repr" = some none)
    (z_str : PySem.W.nsIn K mainGlobals "str" = some none)
    : ∃ fd : FuncData, (∀ (s : Shared) (v : Value), BindsTo s fd ⟨[v], []⟩ [("_law_script", v)]) ∧ ∀ base : Heap, K.In base → base.Ns mainGlobals mg → base.NoDigits → FnG l.prog w K mg base 12 fa fd ["_law_script"] (run prog 12 12) := by
  have e := hfa.symm.trans (PySem.W.mg_of X hns a12)
  cases e
  have F_Flow : ClsF K C_Flow := ⟨⟨pg_Flow, hd_Flow, po_Flow, sa_Flow⟩, ca_Flow, cn, ct, cm_Flow⟩
  have I_Flow : (PySem.W.clsIn K C_Flow).isSome = true := by
    obtain ⟨cd, hc, _⟩ := PySem.W.any_some hd_Flow
    rw [hc]
    rfl
  have T : Txt K mg := ⟨PySem.W.mg_none_of X hns z_enumerate, PySem.W.mg_none_of X hns z_int, PySem.W.mg_none_of X hns z_isinstance, PySem.W.mg_none_of X hns z_len, PySem.W.mg_none_of X hns z_range, PySem.W.mg_none_of X hns z_repr, PySem.W.mg_none_of X hns z_str, ⟨C_Flow, aC_Flow, fd_bottom_Flow⟩, ⟨C_Flow, aC_Flow, fd_top_Flow⟩, ⟨⟨C_Flow, PySem.W.mg_of X hns aC_Flow, I_Flow, ty_Flow, (allC ⟨C_Flow, aC_Flow, kit_self⟩ allN)⟩⟩⟩
  refine ⟨PySem.W.fnOf "law" "law" (defArgs s_law) (defBody s_law) (defScope s_law) .none kV12 dc12 pm12 an12 cd12 ct12, fun s v => .of_eq rfl, fun base _ _ hdg => ?_⟩
  have all : ∀ k : Nat, FnG l.prog w K mg base k g0 (PySem.W.fnOf "greatest_divisor" "greatest_divisor" (defArgs s_greatest_divisor) (defBody s_greatest_divisor) (defScope s_greatest_divisor) .none kV0 dc0 pm0 an0 cd0 ct0) ["one", "other"] (run prog k 0) ∧ FnG l.prog w K mg base k g1 (PySem.W.fnOf "__init__" "Flow.__init__" (defArgs s_Flow___init__) (defBody s_Flow___init__) (defScope s_Flow___init__) (.ref T1) kV1 dc1 pm1 an1 cd1 ct1) ["self", "top", "bottom"] (run prog k 1) ∧ FnG l.prog w K mg base k g2 (PySem.W.fnOf "__mul__" "Flow.__mul__" (defArgs s_Flow___mul__) (defBody s_Flow___mul__) (defScope s_Flow___mul__) .none kV2 dc2 pm2 an2 cd2 ct2) ["self", "other"] (run prog k 2) ∧ FnG l.prog w K mg base k g3 (PySem.W.fnOf "__eq__" "Flow.__eq__" (defArgs s_Flow___eq__) (defBody s_Flow___eq__) (defScope s_Flow___eq__) .none kV3 dc3 pm3 an3 cd3 ct3) ["self", "other"] (run prog k 3) ∧ FnG l.prog w K mg base k g4 (PySem.W.fnOf "__str__" "Flow.__str__" (defArgs s_Flow___str__) (defBody s_Flow___str__) (defScope s_Flow___str__) .none kV4 dc4 pm4 an4 cd4 ct4) ["self"] (run prog k 4) ∧ FnG l.prog w K mg base k g5 (PySem.W.fnOf "is_below" "Flow.is_below" (defArgs s_Flow_is_below) (defBody s_Flow_is_below) (defScope s_Flow_is_below) .none kV5 dc5 pm5 an5 cd5 ct5) ["self", "other"] (run prog k 5) ∧ FnG l.prog w K mg base k g6 (PySem.W.fnOf "up" "Flow.up" (defArgs s_Flow_up) (defBody s_Flow_up) (defScope s_Flow_up) .none kV6 dc6 pm6 an6 cd6 ct6) ["self"] (run prog k 6) ∧ FnG l.prog w K mg base k g7 (PySem.W.fnOf "_law_deck" "_law_deck" (defArgs s_l_deck) (defBody s_l_deck) (defScope s_l_deck) .none kV7 dc7 pm7 an7 cd7 ct7) ["_law_script"] (run prog k 7) ∧ FnG l.prog w K mg base k g8 (PySem.W.fnOf "_law_draw" "_law_draw" (defArgs s_l_draw) (defBody s_l_draw) (defScope s_l_draw) .none kV8 dc8 pm8 an8 cd8 ct8) ["_law_deck_here", "_law_many"] (run prog k 8) ∧ FnG l.prog w K mg base k g9 (PySem.W.fnOf "_law_near" "_law_near" (defArgs s_l_near) (defBody s_l_near) (defScope s_l_near) .none kV9 dc9 pm9 an9 cd9 ct9) ["_law_deck_here", "_law_a", "_law_b"] (run prog k 9) ∧ FnG l.prog w K mg base k g10 (PySem.W.fnOf "_law_fraction" "_law_fraction" (defArgs s_l_fraction) (defBody s_l_fraction) (defScope s_l_fraction) .none kV10 dc10 pm10 an10 cd10 ct10) ["_law_deck_here", "_law_ahead"] (run prog k 10) ∧ FnG l.prog w K mg base k g11 (PySem.W.fnOf "_law_up" "_law_up" (defArgs s_l_up) (defBody s_l_up) (defScope s_l_up) .none kV11 dc11 pm11 an11 cd11 ct11) ["_law_a", "_law_b"] (run prog k 11) ∧ FnG l.prog w K mg base k fa (PySem.W.fnOf "law" "law" (defArgs s_law) (defBody s_law) (defScope s_law) .none kV12 dc12 pm12 an12 cd12 ct12) ["_law_script"] (run prog k 12) := by
    intro k
    induction k with
    | zero => exact ⟨fnG_zero, fnG_zero, fnG_zero, fnG_zero, fnG_zero, fnG_zero, fnG_zero, fnG_zero, fnG_zero, fnG_zero, fnG_zero, fnG_zero, fnG_zero⟩
    | succ k ih =>
      obtain ⟨h0, h1, h2, h3, h4, h5, h6, h7, h8, h9, h10, h11, h12⟩ := ih
      have S : Cs l.prog w K mg base k (fun i => match i with | 0 => g0 | 1 => g1 | 2 => g2 | 3 => g3 | 4 => g4 | 5 => g5 | 6 => g6 | 7 => g7 | 8 => g8 | 9 => g9 | 10 => g10 | 11 => g11 | 12 => fa | _ => 0) (fun i => match i with | 0 => PySem.W.fnOf "greatest_divisor" "greatest_divisor" (defArgs s_greatest_divisor) (defBody s_greatest_divisor) (defScope s_greatest_divisor) .none kV0 dc0 pm0 an0 cd0 ct0 | 1 => PySem.W.fnOf "__init__" "Flow.__init__" (defArgs s_Flow___init__) (defBody s_Flow___init__) (defScope s_Flow___init__) (.ref T1) kV1 dc1 pm1 an1 cd1 ct1 | 2 => PySem.W.fnOf "__mul__" "Flow.__mul__" (defArgs s_Flow___mul__) (defBody s_Flow___mul__) (defScope s_Flow___mul__) .none kV2 dc2 pm2 an2 cd2 ct2 | 3 => PySem.W.fnOf "__eq__" "Flow.__eq__" (defArgs s_Flow___eq__) (defBody s_Flow___eq__) (defScope s_Flow___eq__) .none kV3 dc3 pm3 an3 cd3 ct3 | 4 => PySem.W.fnOf "__str__" "Flow.__str__" (defArgs s_Flow___str__) (defBody s_Flow___str__) (defScope s_Flow___str__) .none kV4 dc4 pm4 an4 cd4 ct4 | 5 => PySem.W.fnOf "is_below" "Flow.is_below" (defArgs s_Flow_is_below) (defBody s_Flow_is_below) (defScope s_Flow_is_below) .none kV5 dc5 pm5 an5 cd5 ct5 | 6 => PySem.W.fnOf "up" "Flow.up" (defArgs s_Flow_up) (defBody s_Flow_up) (defScope s_Flow_up) .none kV6 dc6 pm6 an6 cd6 ct6 | 7 => PySem.W.fnOf "_law_deck" "_law_deck" (defArgs s_l_deck) (defBody s_l_deck) (defScope s_l_deck) .none kV7 dc7 pm7 an7 cd7 ct7 | 8 => PySem.W.fnOf "_law_draw" "_law_draw" (defArgs s_l_draw) (defBody s_l_draw) (defScope s_l_draw) .none kV8 dc8 pm8 an8 cd8 ct8 | 9 => PySem.W.fnOf "_law_near" "_law_near" (defArgs s_l_near) (defBody s_l_near) (defScope s_l_near) .none kV9 dc9 pm9 an9 cd9 ct9 | 10 => PySem.W.fnOf "_law_fraction" "_law_fraction" (defArgs s_l_fraction) (defBody s_l_fraction) (defScope s_l_fraction) .none kV10 dc10 pm10 an10 cd10 ct10 | 11 => PySem.W.fnOf "_law_up" "_law_up" (defArgs s_l_up) (defBody s_l_up) (defScope s_l_up) .none kV11 dc11 pm11 an11 cd11 ct11 | 12 => PySem.W.fnOf "law" "law" (defArgs s_law) (defBody s_law) (defScope s_law) .none kV12 dc12 pm12 an12 cd12 ct12 | _ => PySem.W.fnOf "law" "law" (defArgs s_law) (defBody s_law) (defScope s_law) .none kV12 dc12 pm12 an12 cd12 ct12) := ⟨
        ⟨h0, PySem.W.mg_of X hns a0, k0⟩,
        fun s us ws zs _ e1 e2 e3 => match us, ws, e1, e2, e3 with | [_, _], [], _, _, e => by cases e; exact ⟨.of_eq rfl, rfl⟩,
        ⟨h7, PySem.W.mg_of X hns a7, k7⟩,
        fun s us ws zs _ e1 e2 e3 => match us, ws, e1, e2, e3 with | [_], [], _, _, e => by cases e; exact ⟨.of_eq rfl, rfl⟩,
        ⟨h8, PySem.W.mg_of X hns a8, k8⟩,
        fun s us ws zs _ e1 e2 e3 => match us, ws, e1, e2, e3 with | [_, _], [], _, _, e => by cases e; exact ⟨.of_eq rfl, rfl⟩,
        ⟨h9, PySem.W.mg_of X hns a9, k9⟩,
        fun s us ws zs _ e1 e2 e3 => match us, ws, e1, e2, e3 with | [_, _, _], [], _, _, e => by cases e; exact ⟨.of_eq rfl, rfl⟩,
        ⟨h10, PySem.W.mg_of X hns a10, k10⟩,
        fun s us ws zs _ e1 e2 e3 => match us, ws, e1, e2, e3 with | [_, _], [], _, _, e => by cases e; exact ⟨.of_eq rfl, rfl⟩,
        ⟨h11, PySem.W.mg_of X hns a11, k11⟩,
        fun s us ws zs _ e1 e2 e3 => match us, ws, e1, e2, e3 with | [_, _], [], _, _, e => by cases e; exact ⟨.of_eq rfl, rfl⟩,
        ⟨h12, PySem.W.mg_of X hns a12, k12⟩,
        ⟨⟨C_Flow, g1, _, _, PySem.W.mg_of X hns aC_Flow, aC_Flow, F_Flow, ⟨mk_Flow, a1, i1, kc_Flow⟩, h1, ⟨[Value.int (1) tk1_0], (.cons ⟨_, rfl⟩ .nil), fun s self us ws zs X e1 e2 e3 => match us, ws, e1, e2, e3 with | [_, _], [], _, _, e => by cases e; exact ⟨bind_dfl X t1 rfl ⟨_, rfl, rfl⟩, rfl⟩⟩⟩⟩,
        ⟨⟨C_Flow, g5, _, _, aC_Flow, ⟨a5, i5, k5⟩, h5, ⟨[], .nil, fun s self us ws zs X e1 e2 e3 => match us, ws, e1, e2, e3 with | [_], [], _, _, e => by cases e; exact ⟨.of_eq rfl, rfl⟩⟩⟩⟩,
        ⟨⟨C_Flow, g5, _, _, aC_Flow, ⟨a5, i5, k5⟩, h5, ⟨[], .nil, fun s self us ws zs X e1 e2 e3 => match us, ws, e1, e2, e3 with | [], [_], _, _, e => by cases e; exact ⟨.of_eq rfl, rfl⟩⟩⟩⟩,
        ⟨⟨C_Flow, g6, _, _, aC_Flow, ⟨a6, i6, k6⟩, h6, ⟨[], .nil, fun s self us ws zs X e1 e2 e3 => match us, ws, e1, e2, e3 with | [], [], _, _, e => by cases e; exact ⟨.of_eq rfl, rfl⟩⟩⟩⟩,
        ⟨⟨C_Flow, g3, _, _, aC_Flow, a3, i3, ne_Flow, h3, ⟨[], .nil, fun s self us ws zs X e1 e2 e3 => match us, ws, e1, e2, e3 with | [_], [], _, _, e => by cases e; exact ⟨.of_eq rfl, rfl⟩⟩⟩⟩⟩
      exact ⟨fnG_of l0 c0 sc_greatest_divisor rfl rfl fun W A outer s H hW hr hg => w_greatest_divisor S T hdg hW hr hg,
        fnG_of l1 c1 sc_Flow___init__ rfl rfl fun W A outer s H hW hr hg => w_Flow___init__ S T hdg hW hr hg,
        fnG_of l2 c2 sc_Flow___mul__ rfl rfl fun W A outer s H hW hr hg => w_Flow___mul__ S T hdg hW hr hg,
        fnG_of l3 c3 sc_Flow___eq__ rfl rfl fun W A outer s H hW hr hg => w_Flow___eq__ S T hdg hW hr hg,
        fnG_of l4 c4 sc_Flow___str__ rfl rfl fun W A outer s H hW hr hg => w_Flow___str__ S T hdg hW hr hg,
        fnG_of l5 c5 sc_Flow_is_below rfl rfl fun W A outer s H hW hr hg => w_Flow_is_below S T hdg hW hr hg,
        fnG_of l6 c6 sc_Flow_up rfl rfl fun W A outer s H hW hr hg => w_Flow_up S T hdg hW hr hg,
        fnG_of l7 c7 sc_l_deck rfl rfl fun W A outer s H hW hr hg => w_l_deck S T hdg hW hr hg,
        fnG_of l8 c8 sc_l_draw rfl rfl fun W A outer s H hW hr hg => w_l_draw S T hdg hW hr hg,
        fnG_of l9 c9 sc_l_near rfl rfl fun W A outer s H hW hr hg => w_l_near S T hdg hW hr hg,
        fnG_of l10 c10 sc_l_fraction rfl rfl fun W A outer s H hW hr hg => w_l_fraction S T hdg hW hr hg,
        fnG_of l11 c11 sc_l_up rfl rfl fun W A outer s H hW hr hg => w_l_up S T hdg hW hr hg,
        fnG_of l12 c12 sc_law rfl rfl fun W A outer s H hW hr hg => w_law S T hdg hW hr hg⟩
  obtain ⟨h0, h1, h2, h3, h4, h5, h6, h7, h8, h9, h10, h11, h12⟩ := all 12
  exact h12
end K15
set_option maxRecDepth 100000 in
set_option maxHeartbeats 0 in
open PySem PySem.W PyProof.Rows in
theorem PySem.Challenge.cw_twostrokes_k15_order_of_flows_holds : PySem.Challenge.rw_twostrokes_k15_order_of_flows.Holds := by
  w_on; o_law; k_head; (case hw => w_witness2)
  k_fill
  refine Mv.walkG (l := PySem.Challenge.rw_twostrokes_k15_order_of_flows) (n := 63) (k := 12) (x := "_law_script") (Rl := Mv.run K15.prog 12 12) rfl (by decide) rfl ⟨rfl, by decide, by decide⟩ (fun w h Y => PySem.W.kIn_of Y) ?F K15.law_ok
  case F =>
    intro w mg fa h KX G hmg
    refine' K15.all_mk KX G hmg ?aC_Flow ?a0 ?l0 ?c0 ?k0 ?a1 ?i1 ?t1 ?l1 ?c1 ?k1 ?a2 ?i2 ?l2 ?c2 ?k2 ?a3 ?i3 ?l3 ?c3 ?k3 ?a4 ?i4 ?l4 ?c4 ?k4 ?a5 ?i5 ?l5 ?c5 ?k5 ?a6 ?i6 ?l6 ?c6 ?k6 ?a7 ?l7 ?c7 ?k7 ?a8 ?l8 ?c8 ?k8 ?a9 ?l9 ?c9 ?k9 ?a10 ?l10 ?c10 ?k10 ?a11 ?l11 ?c11 ?k11 ?a12 ?l12 ?c12 ?k12 ?pg_Flow ?hd_Flow ?po_Flow ?sa_Flow ?ca_Flow ?cm_Flow ?mk_Flow ?kc_Flow ?ty_Flow ?sf_Flow ?ne_Flow ?cn ?ct ?fd_bottom_Flow ?fd_top_Flow ?z_enumerate ?z_int ?z_isinstance ?z_len ?z_range ?z_repr ?z_str
    (case aC_Flow => k_is)
    (case a0 => k_is)
    (case l0 => k_is)
    (case c0 => k_is)
    (case k0 => k_is)
    (case a1 => k_is)
    (case i1 => k_is)
    (case l1 => k_is)
    (case t1 => k_is)
    (case c1 => k_is)
    (case k1 => k_is)
    (case a2 => k_is)
    (case i2 => k_is)
    (case l2 => k_is)
    (case c2 => k_is)
    (case k2 => k_is)
    (case a3 => k_is)
    (case i3 => k_is)
    (case l3 => k_is)
    (case c3 => k_is)
    (case k3 => k_is)
    (case a4 => k_is)
    (case i4 => k_is)
    (case l4 => k_is)
    (case c4 => k_is)
    (case k4 => k_is)
    (case a5 => k_is)
    (case i5 => k_is)
    (case l5 => k_is)
    (case c5 => k_is)
    (case k5 => k_is)
    (case a6 => k_is)
    (case i6 => k_is)
    (case l6 => k_is)
    (case c6 => k_is)
    (case k6 => k_is)
    (case a7 => k_is)
    (case l7 => k_is)
    (case c7 => k_is)
    (case k7 => k_is)
    (case a8 => k_is)
    (case l8 => k_is)
    (case c8 => k_is)
    (case k8 => k_is)
    (case a9 => k_is)
    (case l9 => k_is)
    (case c9 => k_is)
    (case k9 => k_is)
    (case a10 => k_is)
    (case l10 => k_is)
    (case c10 => k_is)
    (case k10 => k_is)
    (case a11 => k_is)
    (case l11 => k_is)
    (case c11 => k_is)
    (case k11 => k_is)
    (case a12 => k_is)
    (case l12 => k_is)
    (case c12 => k_is)
    (case k12 => k_is)
    (case pg_Flow => k_is)
    (case hd_Flow => k_is)
    (case po_Flow => k_is)
    (case sa_Flow => k_is)
    (case ca_Flow => k_is)
    (case cm_Flow => k_is)
    (case mk_Flow => k_is)
    (case kc_Flow => k_is)
    (case ty_Flow => k_is)
    (case sf_Flow => k_is)
    (case ne_Flow => k_is)
    (case cn => k_is)
    (case ct => k_is)
    (case fd_bottom_Flow => k_is)
    (case fd_top_Flow => k_is)
    (case z_enumerate => k_is)
    (case z_int => k_is)
    (case z_isinstance => k_is)
    (case z_len => k_is)
    (case z_range => k_is)
    (case z_repr => k_is)
    (case z_str => k_is)

