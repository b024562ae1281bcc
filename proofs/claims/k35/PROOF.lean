import PyProof.Rows.All
import Wide.All
import OpenK.AllK
import Wide.FinOn
import HandS.ForMost
import HandS.TupAny
import HandS.TupMul
import HandS.Wide
import HandS.Style
import HandS.IsInst
import HandS.NoneIn
import HandS.Ends
import HandS.Words
import PySem.Challenge.RW_twostrokes_k35_sweeps_of_any_value
set_option linter.all false
set_option Elab.async false
set_option maxRecDepth 100000
set_option maxHeartbeats 4000000
/-! Mv1: logical values, the logical heap, the small language, its evaluator. No model in sight (but Str, PyData, Key). -/
namespace Mv
open PySem L2

/-- a logical value: tuples by their items, what can change by its number -/
inductive LV where
  | non | bl (b : Bool) | int (i : Int) | str (s : Str) | tup (xs : List LV) | ref (n : Nat)
/-- a logical object -/
inductive LO where
  | lst (xs : List LV)
  | frz (ns : List Int)
  | dic (kvs : List (Key × LV))
abbrev LH := List LO
inductive Out (α : Type) where
  | ok (a : α) (L : LH)
  | ex (c : Nat) (fs : List (Str × LV)) (L : LH)
def M (α : Type) : Type := LH → Option (Out α)
def M.ret {α : Type} (a : α) : M α := fun L => some (.ok a L)
def M.no {α : Type} : M α := fun _ => none
def M.bind {α β : Type} (m : M α) (f : α → M β) : M β := fun L =>
  match m L with
  | some (.ok a L1) => f a L1
  | some (.ex c fs L1) => some (.ex c fs L1)
  | none => none
theorem M.bind_bind {α β γ : Type} (m : M α) (f : α → M β) (g : β → M γ) : M.bind (M.bind m f) g = M.bind m fun x => M.bind (f x) g := by
  funext L
  unfold M.bind
  cases m L with
  | none => rfl
  | some o => cases o <;> rfl
theorem M.bind_ret {α β : Type} (a : α) (f : α → M β) : M.bind (M.ret a) f = f a := rfl
/-- go on only if b -/
def M.chk {α : Type} (b : Bool) (m : M α) : M α := if b then m else M.no
def M.ofO {α β : Type} (o : Option α) (f : α → M β) : M β := match o with | some a => f a | none => M.no
/-- the heap, as it stands -/
def M.look {α β : Type} (g : LH → Option α) (f : α → M β) : M β := fun L => match g L with | some a => f a L | none => none

def optAll {α β : Type} (f : α → Option β) : List α → Option (List β)
  | [] => some []
  | x :: r => match f x, optAll f r with
    | some y, some ys => some (y :: ys)
    | _, _ => none

/-! ### data -/
def itemsL (L : LH) : LV → Option (List LV)
  | .ref n => match L[n]? with
    | some (.lst xs) => some xs
    | some (.frz ns) => some (ns.map .int)
    | _ => none
  | _ => none
def items (L : LH) : LV → Option (List LV)
  | .tup xs => some xs
  | v => itemsL L v
/-- nested data: none, bools, intL, texts, tuples, lists -/
def toD (L : LH) : Nat → LV → Option PyData
  | 0, _ => none
  | n + 1, v => match v with
    | .non => some .none
    | .bl b => some (.bool b)
    | .int i => some (.int i)
    | .str s => some (.str s)
    | .tup xs => (optAll (toD L n) xs).map .tuple
    | .ref k => match L[k]? with
      | some (.lst xs) => (optAll (toD L n) xs).map .list
      | some (.frz ns) => some (.list (ns.map .int))
      | _ => none
def intL : List LV → Option (List Int)
  | [] => some []
  | .int i :: r => (intL r).map (i :: ·)
  | _ :: _ => none
def blL : List LV → Option (List Bool)
  | [] => some []
  | .bl i :: r => (blL r).map (i :: ·)
  | _ :: _ => none
def keyOf : LV → Option Key
  | .int i => some (.inl i)
  | .str s => some (.inr s)
  | _ => none
def dval (kvs : List (Key × LV)) (k : Key) : Option LV := (kvs.find? fun kv => decide (kv.1 = k)).map (·.2)
def dput (kvs : List (Key × LV)) (k : Key) (v : LV) : List (Key × LV) :=
  if (kvs.any fun kv => decide (kv.1 = k)) = true then kvs.map (fun kv => if kv.1 = k then (kv.1, v) else kv) else kvs ++ [(k, v)]
def small (n : Nat) : Bool := decide (n ≤ sizeLine)

/-! ### operators -/
inductive BOp where | add | sub | mul | fdiv | mod | pow
inductive COp where | eq | ne | lt | le | gt | ge | inn | nin
def new (o : LO) : M LV := fun L => some (.ok (.ref L.length) (L ++ [o]))
def setO (n : Nat) (o : LO) : M Unit := fun L => some (.ok () (L.set n o))

def mulOk (i j : Int) : Bool := decide ((-(2 ^ 64) < i ∧ i < 2 ^ 64) ∨ (-(2 ^ 64) < j ∧ j < 2 ^ 64) ∨ i.natAbs.log2 + j.natAbs.log2 < 1000000)
def divOk (j : Int) : Bool := decide (0 < j ∧ j.natAbs.log2 < 9000)
def reps {α : Type} (xs : List α) (k : Int) : List α := (List.replicate k.toNat xs).flatten

def catR : Option LO → Option LO → M LV
  | some (.lst xs), some (.lst ys) => M.chk (small (xs.length + ys.length)) (new (.lst (xs ++ ys)))
  | _, _ => M.no
def repR (k : Int) : Option LO → M LV
  | some (.lst xs) => M.chk (decide (-(2 ^ 63) ≤ k ∧ k < 2 ^ 63) && small (xs.length * k.toNat)) (new (.lst (reps xs k)))
  | _ => M.no
def binV (op : BOp) (x y : LV) : M LV :=
  match op, x, y with
  | .add, .int i, .int j => M.ret (.int (i + j))
  | .sub, .int i, .int j => M.ret (.int (i - j))
  | .mul, .int i, .int j => M.chk (mulOk i j) (M.ret (.int (i * j)))
  | .fdiv, .int i, .int j => M.chk (divOk j) (M.ret (.int (i / j)))
  | .mod, .int i, .int j => M.chk (decide (0 < j)) (M.ret (.int (i % j)))
  | .pow, .int i, .int j => M.chk (decide (0 ≤ j ∧ j ≤ 1000000 ∧ i.natAbs < 2 ^ 64)) (M.ret (.int (i ^ j.toNat)))
  | .add, .str a, .str b => M.chk (small (a.length + b.length)) (M.ret (.str (a ++ b)))
  | .add, .tup a, .tup b => M.chk (small (a.length + b.length)) (M.ret (.tup (a ++ b)))
  | .add, .ref a, .ref b => fun L => catR L[a]? L[b]? L
  | .mul, .ref a, .int k => fun L => repR k L[a]? L
  | .mul, .tup xs, .int k => M.chk (decide (-(2 ^ 63) ≤ k ∧ k < 2 ^ 63) && small (xs.length * k.toNat)) (M.ret (.tup (reps xs k)))
  | _, _, _ => M.no

/-- a op= b at a name: ints -/
def augV (op : BOp) (x y : LV) : M LV :=
  match op, x, y with
  | .add, .int i, .int j => M.ret (.int (i + j))
  | .sub, .int i, .int j => M.ret (.int (i - j))
  | .mul, .int i, .int j => M.chk (decide ((-(2 ^ 64) < i ∧ i < 2 ^ 64) ∨ (-(2 ^ 64) < j ∧ j < 2 ^ 64))) (M.ret (.int (i * j)))
  | .fdiv, .int i, .int j => M.chk (decide (0 < j ∧ j < 1073741824)) (M.ret (.int (i / j)))
  | _, _, _ => M.no
/-- == of data -/
def eqVd (L : LH) (x y : LV) : Option Bool :=
  match toD L 66 x, toD L 66 y with
  | some d, some e => if SeqAt.shaped d && SeqAt.shaped e then some (PyData.eqv d e) else none
  | _, _ => none
def strPair : LV → LV → Option Bool
  | .str a, .str b => some (decide (a = b))
  | _, _ => none
def eqV (L : LH) (x y : LV) : Option Bool :=
  match strPair x y with
  | some b => some b
  | none => eqVd L x y
def flat : LV → Bool
  | .non | .bl _ | .int _ | .str _ => true
  | _ => false
def flatEq : LV → LV → Bool
  | .non, .non => true
  | .bl a, .bl b => a == b
  | .int a, .int b => a == b
  | .str a, .str b => a == b
  | .bl a, .int b => (if a then 1 else 0) == b
  | .int a, .bl b => a == (if b then 1 else 0)
  | _, _ => false
def inSeq (x : LV) (xs : List LV) : Bool := xs.any fun y => flatEq y x
def cmpV (op : COp) (x y : LV) : M LV :=
  match op, x, y with
  | .eq, x, y => M.look (fun L => eqV L x y) fun b => M.ret (.bl b)
  | .ne, x, y => M.look (fun L => eqV L x y) fun b => M.ret (.bl (!b))
  | .lt, .int i, .int j => M.ret (.bl (decide (i < j)))
  | .le, .int i, .int j => M.ret (.bl (decide (i ≤ j)))
  | .gt, .int i, .int j => M.ret (.bl (decide (j < i)))
  | .ge, .int i, .int j => M.ret (.bl (decide (j ≤ i)))
  | .lt, .tup a, .tup b => M.ofO (intL a) fun m => M.ofO (intL b) fun n => M.ret (.bl (HT.lexLt m n))
  | .inn, x, y => M.look (fun L => items L y) fun ys => M.chk (flat x && ys.all flat) (M.ret (.bl (inSeq x ys)))
  | .nin, x, y => M.look (fun L => items L y) fun ys => M.chk (flat x && ys.all flat) (M.ret (.bl (!inSeq x ys)))
  | _, _, _ => M.no

/-- the new dict is filled -/
def dmerge (kvs more : List (Key × LV)) : List (Key × LV) := more.foldl (fun acc kv => dput acc kv.1 kv.2) kvs
def dctR (n : Nat) (kvs : List (Key × LV)) : Option LO → M LV
  | some (.dic []) => M.bind (setO n (.dic kvs)) fun _ => M.ret (.ref n)
  | _ => M.no
/-! ### subscripts -/
def ixR : Option LO → LV → M LV
  | some (.lst xs), .int i => M.ofO (atI xs i) M.ret
  | some (.frz ns), .int i => M.ofO (atI ns i) fun j => M.ret (.int j)
  | some (.dic kvs), k => M.ofO ((keyOf k).bind (dval kvs)) M.ret
  | _, _ => M.no
def ixV (x y : LV) : M LV :=
  match x, y with
  | .tup xs, .int i => M.ofO (atI xs i) M.ret
  | .str s, .int i => M.chk (small s.length) (M.ofO (atI s.cps.toList i) fun c => M.ret (.str ⟨#[c]⟩))
  | .ref n, k => fun L => ixR L[n]? k L
  | _, _ => M.no
def cut {α : Type} (xs : List α) (lo hi : Option Int) : List α := (xs.drop (HT.sIx xs.length 0 lo)).take (HT.sIx xs.length xs.length hi - HT.sIx xs.length 0 lo)
def slV (x : LV) (lo hi : Option Int) : M LV :=
  match x with
  | .tup xs => M.ret (.tup (cut xs lo hi))
  | .ref n => M.look (fun L => itemsL L (.ref n)) fun xs => new (.lst (cut xs lo hi))
  | _ => M.no
/-- x[::-1] -/
def revV (x : LV) : M LV :=
  match x with
  | .tup xs => M.ret (.tup xs.reverse)
  | .ref n => M.look (fun L => itemsL L (.ref n)) fun xs => new (.lst xs.reverse)
  | _ => M.no
/-- o[i] = v -/
def setR (n : Nat) (v : LV) : Option LO → LV → M Unit
  | some (.lst xs), .int k => M.ofO (ixN xs.length k) fun j => setO n (.lst (xs.set j v))
  | some (.dic kvs), k => M.ofO (keyOf k) fun k => M.chk (decide (kvs.length < sizeLine)) (setO n (.dic (dput kvs k v)))
  | _, _ => M.no
def setV (o i v : LV) : M Unit :=
  match o with
  | .ref n => fun L => setR n v L[n]? i L
  | _ => M.no

/-- what is shown of a flat value, of a dict of such -/
def flatD : LV → Option PyData
  | .non => some .none
  | .bl b => some (.bool b)
  | .int i => some (.int i)
  | .str s => some (.str s)
  | _ => none
def keyD : Key → PyData
  | .inl i => .int i
  | .inr s => .str s
def dicD (kvs : List (Key × LV)) : Option (List (PyData × PyData)) := optAll (fun kv => (flatD kv.2).map fun d => (keyD kv.1, d)) kvs
def dicAt (L : LH) : LV → Option (List (Key × LV))
  | .ref n => match L[n]? with
    | some (.dic kvs) => some kvs
    | _ => none
  | _ => none
def toR (L : LH) (x : LV) : Option PyData := match dicAt L x with
  | some kvs => (dicD kvs).map .dict
  | none => toD L 66 x
/-! ### built-ins -/
inductive Bi where | len | int | str | repr | list | tuple | abs | min | max | sum | all | any
inductive Ty where | int | bool | str | tuple | list | dict
  deriving DecidableEq
def lenV (L : LH) : LV → Option Nat
  | .str s => if small s.length then some s.length else none
  | .tup xs => some xs.length
  | .ref n => match L[n]? with
    | some (.lst xs) => some xs.length
    | some (.frz xs) => some xs.length
    | some (.dic kvs) => some kvs.length
    | _ => none
  | _ => none
def biV (b : Bi) (xs : List LV) : M LV :=
  match b, xs with
  | .len, [x] => M.look (fun L => lenV L x) fun n => M.ret (.int n)
  | .int, [.int i] => M.ret (.int i)
  | .str, [.int i] => M.chk (decide (i.natAbs.log2 < 1920)) (M.ret (.str (toString i)))
  | .repr, [x] => M.look (fun L => toR L x) fun d => M.chk (d.showable && small d.shown.length && decide (d.depth ≤ 64)) (M.ret (.str d.shown))
  | .list, [x] => M.look (fun L => items L x) fun ys => new (.lst ys)
  | .tuple, [x] => M.look (fun L => items L x) fun ys => M.ret (.tup ys)
  | .abs, [.int i] => M.ret (.int (if i < 0 then -i else i))
  | .max, [.int i, .int j] => M.ret (.int (if j > i then j else i))
  | .min, [.int i, .int j] => M.ret (.int (if j < i then j else i))
  | .sum, [x] => M.look (fun L => (itemsL L x).bind intL) fun ns => M.ret (.int ns.sum)
  | .all, [x] => M.look (fun L => (itemsL L x).bind blL) fun bs => M.ret (.bl (bs.all id))
  | .any, [x] => M.look (fun L => (itemsL L x).bind blL) fun bs => M.ret (.bl (bs.any id))
  | _, _ => M.no
def tyOf (L : LH) : LV → Option (List Ty)
  | .non => some []
  | .bl _ => some [.bool, .int]
  | .int _ => some [.int]
  | .str _ => some [.str]
  | .tup _ => some [.tuple]
  | .ref n => match L[n]? with
    | some (.lst _) => some [.list]
    | some (.dic _) => some [.dict]
    | _ => none
def isiV (x : LV) (t : Ty) : M LV := M.look (fun L => tyOf L x) fun ts => M.ret (.bl (decide (t ∈ ts)))

inductive Mth where | append | pop | extend
def mthR (n : Nat) : Mth → Option LO → List LV → M LV
  | .append, some (.lst ys), [x] => M.chk (decide (ys.length < sizeLine)) (M.bind (setO n (.lst (ys ++ [x]))) fun _ => M.ret .non)
  | .pop, some (.lst ys), [] => M.ofO ys[ys.length - 1]? fun y => M.bind (setO n (.lst ys.dropLast)) fun _ => M.ret y
  | _, _, _ => M.no
def lstAt (L : LH) : LV → Option Unit
  | .ref n => match L[n]? with
    | some (.lst _) => some ()
    | _ => none
  | _ => none
def mthV (m : Mth) (o : LV) (xs : List LV) : M LV :=
  match o with
  | .ref n => fun L => mthR n m L[n]? xs L
  | _ => M.no

/-! ### the small language -/
abbrev LSt := List (Option LV)
/-- what a loop goes through -/
inductive Src where
  | fixed (xs : List LV)
  | live (n : Nat) (k : Nat)
def Src.len : Src → Nat
  | .fixed xs => xs.length
  | .live _ k => k
def Src.at (s : Src) (i : Nat) (L : LH) : Option LV := match s with
  | .fixed xs => xs[i]?
  | .live n _ => (itemsL L (.ref n)).bind fun xs => xs[i]?
def Src.fin (s : Src) (L : LH) : Bool := match s with
  | .fixed _ => true
  | .live n k => match itemsL L (.ref n) with
    | some xs => decide (xs.length ≤ k)
    | none => false

mutual
inductive IE where
  | var (i : Nat)
  | lit (v : LV)
  | glo (v : LV)
  | bin (op : BOp) (a b : IE)
  | neg (a : IE)
  | cmp (op : COp) (a b : IE)
  | cmp2 (op op' : COp) (a b c : IE)
  | and (a b : IE)
  | or (a b : IE)
  | not (a : IE)
  | ife (c a b : IE)
  | tup (es : IEs)
  | lst (es : IEs)
  | dct0
  | dct (ks : List Key) (es : IEs)
  | ix (a b : IE)
  | slc (a : IE) (lo hi : IO)
  | rev (a : IE)
  | bi (b : Bi) (es : IEs)
  | isi (a : IE) (t : Ty)
  | mth (m : Mth) (o : IE) (es : IEs)
  /-- a call of the f-th def: the written values, then where each parameter's value stands among them -/
  | call (f : Nat) (es ks : IEs) (perm : List Nat)
  | comp (own : List Nat) (t : IT) (it : II) (c : IO) (e : IE)
inductive IEs where
  | nil
  | cons (e : IE) (es : IEs)
/-- an optional part -/
inductive IO where
  | none
  | some (e : IE)
/-- what is walked -/
inductive II where
  | val (e : IE)
  | rng1 (a : IE)
  | rng2 (a b : IE)
/-- a target -/
inductive IT where
  | name (i : Nat)
  | tup (ts : ITs)
  | sub (o i : IE)
inductive ITs where
  | nil
  | cons (t : IT) (ts : ITs)
end

def ITs.len : ITs → Nat
  | .nil => 0
  | .cons _ ts => ts.len + 1
def IEs.len : IEs → Nat
  | .nil => 0
  | .cons _ es => es.len + 1
inductive Fl where
  | nx | bk | ct | rt (v : LV)
inductive IS where
  | asg (t : IT) (e : IE)
  /-- a, b = x, y with local names: the values first, then the stores -/
  | par (is : List Nat) (es : IEs)
  | aug (i : Nat) (op : BOp) (e : IE)
  | exp (e : IE)
  | ret (e : IE)
  | retN
  | ifs (c : IE) (a b : List IS)
  | for (t : IT) (it : II) (b : List IS)
  | whl (c : IE) (b : List IS)
  | brk
  | cnt
  | pss

/-- what a call of the f-th def gives -/
abbrev Cal := Nat → List LV → M LV

def getR : Option (Option LV) → M LV
  | some (some v) => M.ret v
  | _ => M.no
def getV (σ : LSt) (i : Nat) : M LV := getR σ[i]?
def wipeL (σ : LSt) : List Nat → LSt
  | [] => σ
  | v :: vs => (wipeL σ vs).set v none
def permG {α : Type} (vs : List α) : List Nat → Option (List α)
  | [] => some []
  | i :: r => match vs[i]?, permG vs r with
    | some v, some ws => some (v :: ws)
    | _, _ => none
/-- an int part of a slice -/
def partV : LV → Option (Option Int)
  | .int i => some (some i)
  | _ => none
def iterR (n : Nat) : Option LO → M Src
  | some (.lst xs) => M.ret (.live n xs.length)
  | some (.frz ns) => M.ret (.live n ns.length)
  | _ => M.no
def iterV (v : LV) : M Src :=
  match v with
  | .tup xs => M.ret (.fixed xs)
  | .str s => M.chk (small s.length) (M.ret (.fixed (s.cps.toList.map fun c => .str ⟨#[c]⟩)))
  | .ref n => fun L => iterR n L[n]? L
  | _ => M.no
def ints62 (i : Int) : Bool := decide (-(2 ^ 62) ≤ i ∧ i < 2 ^ 62)
def rngV (lo : Int) (n : Nat) : Src := .fixed ((List.range n).map fun (k : Nat) => LV.int (lo + (k : Int)))

/-- y behind the list at D -/
def appM (D : Nat) (y : LV) : M LV := fun L => mthR D .append L[D]? [y] L
/-- the turns of a comprehension, the new list at D -/
def compGo (s : Src) (turn : LV → M (Option LV)) (D : Nat) : Nat → Nat → M LV
  | 0, i => fun L => if s.fin L then some (.ok (.ref D) L) else none
  | k + 1, i => fun L => match s.at i L with
    | none => none
    | some x => M.bind (turn x) (fun r => match r with
      | none => compGo s turn D k (i + 1)
      | some y => M.bind (appM D y) fun _ => compGo s turn D k (i + 1)) L

mutual
def evE (R : Cal) : IE → LSt → M LV
  | .var i, σ => getV σ i
  | .lit v, _ => M.ret v
  | .glo v, _ => M.ret v
  | .bin op a b, σ => M.bind (evE R a σ) fun x => M.bind (evE R b σ) fun y => binV op x y
  | .neg a, σ => M.bind (evE R a σ) fun x => match x with
    | .int i => M.ret (.int (-i))
    | _ => M.no
  | .cmp op a b, σ => M.bind (evE R a σ) fun x => M.bind (evE R b σ) fun y => cmpV op x y
  | .cmp2 op op' a b c, σ => M.bind (evE R a σ) fun x => M.bind (evE R b σ) fun y => M.bind (cmpV op x y) fun r => match r with
    | .bl true => M.bind (evE R c σ) fun z => cmpV op' y z
    | .bl false => M.ret (.bl false)
    | _ => M.no
  | .and a b, σ => M.bind (evE R a σ) fun x => match x with
    | .bl true => evE R b σ
    | .bl false => M.ret (.bl false)
    | _ => M.no
  | .or a b, σ => M.bind (evE R a σ) fun x => match x with
    | .bl true => M.ret (.bl true)
    | .bl false => evE R b σ
    | _ => M.no
  | .not a, σ => M.bind (evE R a σ) fun x => match x with
    | .bl b => M.ret (.bl (!b))
    | _ => M.no
  | .ife c a b, σ => M.bind (evE R c σ) fun x => match x with
    | .bl true => evE R a σ
    | .bl false => evE R b σ
    | _ => M.no
  | .tup es, σ => M.bind (evEs R es σ) fun xs => M.chk (small xs.length) (M.ret (.tup xs))
  | .lst es, σ => M.bind (evEs R es σ) fun xs => M.chk (small xs.length) (new (.lst xs))
  | .dct0, _ => new (.dic [])
  | .dct ks es, σ => M.bind (new (.dic [])) fun d => M.bind (evEs R es σ) fun xs => match d with
    | .ref n => fun L => dctR n (dmerge [] (ks.zip xs)) L[n]? L
    | _ => M.no
  | .ix a b, σ => M.bind (evE R a σ) fun x => M.bind (evE R b σ) fun y => ixV x y
  | .slc a lo hi, σ => M.bind (evE R a σ) fun x => M.bind (evO R lo σ) fun l => M.bind (evO R hi σ) fun h => slV x l h
  | .rev a, σ => M.bind (evE R a σ) revV
  | .bi b es, σ => M.bind (evEs R es σ) fun xs => biV b xs
  | .isi a t, σ => M.bind (evE R a σ) fun x => isiV x t
  | .mth m o es, σ => M.bind (evE R o σ) fun x => M.look (fun L => lstAt L x) fun _ => M.bind (evEs R es σ) fun xs => mthV m x xs
  | .call f es ks perm, σ => M.bind (evEs R es σ) fun xs => M.bind (evEs R ks σ) fun ys => M.ofO (permG (xs ++ ys) perm) fun zs => R f zs
  | .comp own t it c e, σ => M.bind (evI R it σ) fun src => M.bind (new (.lst [])) fun d => match d with
    | .ref D => compGo src (fun x => M.bind (evT R t x (wipeL σ own)) fun σ2 => M.bind (evC R c σ2) fun k =>
        if k then M.bind (evE R e σ2) fun y => M.ret (some y) else M.ret none) D src.len 0
    | _ => M.no
def evEs (R : Cal) : IEs → LSt → M (List LV)
  | .nil, _ => M.ret []
  | .cons e es, σ => M.bind (evE R e σ) fun x => M.bind (evEs R es σ) fun xs => M.ret (x :: xs)
/-- a part of a slice -/
def evO (R : Cal) : IO → LSt → M (Option Int)
  | .none, _ => M.ret none
  | .some e, σ => M.bind (evE R e σ) fun x => match x with
    | .int i => M.ret (some i)
    | _ => M.no
/-- a comprehension's test -/
def evC (R : Cal) : IO → LSt → M Bool
  | .none, _ => M.ret true
  | .some e, σ => M.bind (evE R e σ) fun x => match x with
    | .bl b => M.ret b
    | _ => M.no
def evI (R : Cal) : II → LSt → M Src
  | .val e, σ => M.bind (evE R e σ) iterV
  | .rng1 a, σ => M.bind (evE R a σ) fun x => match x with
    | .int j => M.chk (ints62 j) (M.ret (rngV 0 j.toNat))
    | _ => M.no
  | .rng2 a b, σ => M.bind (evE R a σ) fun x => M.bind (evE R b σ) fun y => match x, y with
    | .int i, .int j => M.chk (ints62 i && ints62 j) (M.ret (rngV i (j - i).toNat))
    | _, _ => M.no
def evT (R : Cal) : IT → LV → LSt → M LSt
  | .name i, v, σ => M.chk (decide (i < σ.length)) (M.ret (σ.set i (some v)))
  | .tup ts, v, σ => M.look (fun L => items L v) fun xs => M.chk (decide (xs.length = ts.len)) (evTs R ts xs σ)
  | .sub o i, v, σ => M.bind (evE R o σ) fun x => M.bind (evE R i σ) fun y => M.bind (setV x y v) fun _ => M.ret σ
def evTs (R : Cal) : ITs → List LV → LSt → M LSt
  | .nil, [], σ => M.ret σ
  | .cons t ts, x :: xs, σ => M.bind (evT R t x σ) fun σ1 => evTs R ts xs σ1
  | _, _, _ => M.no
end

/-- the turns of a for -/
def forGo (s : Src) (turn : LV → LSt → M (Fl × LSt)) : Nat → Nat → LSt → M (Fl × LSt)
  | 0, i, σ => fun L => if s.fin L then some (.ok (.nx, σ) L) else none
  | k + 1, i, σ => fun L => match s.at i L with
    | none => none
    | some x => M.bind (turn x σ) (fun (r : Fl × LSt) => match r with
      | (.nx, σ1) => forGo s turn k (i + 1) σ1
      | (.ct, σ1) => forGo s turn k (i + 1) σ1
      | (.bk, σ1) => M.ret (.nx, σ1)
      | (.rt v, σ1) => M.ret (.rt v, σ1)) L
/-- the turns of a while, at most so many -/
def whlGo (c : LSt → M LV) (b : LSt → M (Fl × LSt)) : Nat → LSt → M (Fl × LSt)
  | 0, _ => M.no
  | k + 1, σ => M.bind (c σ) fun x => match x with
    | .bl false => M.ret (.nx, σ)
    | .bl true => M.bind (b σ) fun (r : Fl × LSt) => match r with
      | (.nx, σ1) => whlGo c b k σ1
      | (.ct, σ1) => whlGo c b k σ1
      | (.bk, σ1) => M.ret (.nx, σ1)
      | (.rt v, σ1) => M.ret (.rt v, σ1)
    | _ => M.no
def fuel : Nat := 10 ^ 1000
def setAll : LSt → List Nat → List LV → Option LSt
  | σ, [], [] => some σ
  | σ, i :: is, v :: vs => if i < σ.length then setAll (σ.set i (some v)) is vs else none
  | _, _, _ => none

mutual
def evS (R : Cal) : IS → LSt → M (Fl × LSt)
  | .asg t e, σ => M.bind (evE R e σ) fun x => M.bind (evT R t x σ) fun σ1 => M.ret (.nx, σ1)
  | .par is es, σ => M.bind (evEs R es σ) fun xs => M.ofO (setAll σ is xs) fun σ1 => M.ret (.nx, σ1)
  | .aug i op e, σ => M.bind (getV σ i) fun x => M.bind (evE R e σ) fun y => M.bind (augV op x y) fun z => M.ret (.nx, σ.set i (some z))
  | .exp e, σ => M.bind (evE R e σ) fun _ => M.ret (.nx, σ)
  | .ret e, σ => M.bind (evE R e σ) fun x => M.ret (.rt x, σ)
  | .retN, σ => M.ret (.rt .non, σ)
  | .ifs c a b, σ => M.bind (evE R c σ) fun x => match x with
    | .bl true => evB R a σ
    | .bl false => evB R b σ
    | _ => M.no
  | .for t it b, σ => M.bind (evI R it σ) fun src => forGo src (fun x σ1 => M.bind (evT R t x σ1) fun σ2 => evB R b σ2) src.len 0 σ
  | .whl c b, σ => whlGo (evE R c) (evB R b) fuel σ
  | .brk, σ => M.ret (.bk, σ)
  | .cnt, σ => M.ret (.ct, σ)
  | .pss, σ => M.ret (.nx, σ)
def evB (R : Cal) : List IS → LSt → M (Fl × LSt)
  | [], σ => M.ret (.nx, σ)
  | s :: r, σ => M.bind (evS R s σ) fun (x : Fl × LSt) => match x with
    | (.nx, σ1) => evB R r σ1
    | (f, σ1) => M.ret (f, σ1)
end

/-- a def: how many names, how many of them parameters, the body -/
structure Fn where
  n : Nat
  p : Nat
  body : List IS
def startL (n : Nat) (vs : List LV) : LSt := vs.map some ++ List.replicate (n - vs.length) none
def callFn (R : Cal) (f : Fn) (vs : List LV) : M LV :=
  M.chk (decide (vs.length = f.p)) (M.bind (evB R f.body (startL f.n vs)) fun (r : Fl × LSt) => match r with
    | (.rt v, _) => M.ret v
    | (.nx, _) => M.ret .non
    | _ => M.no)
/-- the program, calls nested at most so deep -/
def run (T : List Fn) : Nat → Cal
  | 0, _, _ => M.no
  | k + 1, f, vs => match T[f]? with
    | some fn => callFn (run T k) fn vs
    | none => M.no
end Mv

/-! Mv2: how logical values and heaps stand for the hand layer's; readings by the evaluator; binding. -/
namespace Mv
open PySem PySem.Spec PyProof.Rows L2

mutual
inductive RV (K : PySem.W.Frag) (H : Hp) (ι : Nat → Addr) (n : Nat) : V → LV → Prop
  | non : RV K H ι n .non .non
  | bl (b : Bool) : RV K H ι n (.bl b) (.bl b)
  | int (i : Int) : RV K H ι n (.int i) (.int i)
  | str (s : Str) : RV K H ι n (.str s) (.str s)
  | tup {a : Addr} {xs : List V} {ds : List LV} : SqT K H a xs → RVs K H ι n xs ds → RV K H ι n (.ref a) (.tup ds)
  | ref (k : Nat) : k < n → RV K H ι n (.ref (ι k)) (.ref k)
inductive RVs (K : PySem.W.Frag) (H : Hp) (ι : Nat → Addr) (n : Nat) : List V → List LV → Prop
  | nil : RVs K H ι n [] []
  | cons {v : V} {d : LV} {vs : List V} {ds : List LV} : RV K H ι n v d → RVs K H ι n vs ds → RVs K H ι n (v :: vs) (d :: ds)
end

/-- a later heap: the numbers' places stay, the tuples stay -/
structure Ev (K : PySem.W.Frag) (ι : Nat → Addr) (H : Hp) (n : Nat) (ι' : Nat → Addr) (H' : Hp) (n' : Nat) : Prop where
  pl : ∀ k, k < n → ι' k = ι k
  le : n ≤ n'
  tp : ∀ a xs, SqT K H a xs → SqT K H' a xs
section
variable {K : PySem.W.Frag} {ι ι' ι'' : Nat → Addr} {H H' H'' : Hp} {n n' n'' : Nat}
theorem Ev.refl : Ev K ι H n ι H n := ⟨fun _ _ => rfl, Nat.le_refl _, fun _ _ h => h⟩
theorem Ev.trans (a : Ev K ι H n ι' H' n') (b : Ev K ι' H' n' ι'' H'' n'') : Ev K ι H n ι'' H'' n'' :=
  ⟨fun k hk => (b.pl k (Nat.lt_of_lt_of_le hk a.le)).trans (a.pl k hk), Nat.le_trans a.le b.le, fun x xs h => b.tp x xs (a.tp x xs h)⟩
mutual
theorem RV.mono (ev : Ev K ι H n ι' H' n') : ∀ {d : LV} {v : V}, RV K H ι n v d → RV K H' ι' n' v d
  | .non, _, h => by cases h; exact .non
  | .bl b, _, h => by cases h; exact .bl b
  | .int i, _, h => by cases h; exact .int i
  | .str s, _, h => by cases h; exact .str s
  | .tup ds, _, h => by
    cases h with
    | tup hs hr => exact .tup (ev.tp _ _ hs) (RVs.mono ev hr)
  | .ref k, _, h => by
    cases h with
    | ref _ hk =>
      rw [← ev.pl k hk]
      exact .ref k (Nat.lt_of_lt_of_le hk ev.le)
theorem RVs.mono (ev : Ev K ι H n ι' H' n') : ∀ {ds : List LV} {vs : List V}, RVs K H ι n vs ds → RVs K H' ι' n' vs ds
  | [], _, h => by cases h; exact .nil
  | d :: ds, _, h => by
    cases h with
    | cons h1 h2 => exact .cons (RV.mono ev h1) (RVs.mono ev h2)
end
theorem RVs.length {vs : List V} {ds : List LV} : RVs K H ι n vs ds → vs.length = ds.length
  | .nil => rfl
  | .cons _ t => congrArg (· + 1) (RVs.length t)
theorem RVs.append : ∀ {vs ws : List V} {ds es : List LV}, RVs K H ι n vs ds → RVs K H ι n ws es → RVs K H ι n (vs ++ ws) (ds ++ es)
  | _, _, _, _, .nil, s => s
  | _, _, _, _, .cons r t, s => .cons r (RVs.append t s)
theorem RVs.take : ∀ {vs : List V} {ds : List LV} (k : Nat), RVs K H ι n vs ds → RVs K H ι n (vs.take k) (ds.take k)
  | _, _, 0, _ => .nil
  | _, _, _ + 1, .nil => .nil
  | _, _, k + 1, .cons r t => .cons r (RVs.take k t)
theorem RVs.drop : ∀ {vs : List V} {ds : List LV} (k : Nat), RVs K H ι n vs ds → RVs K H ι n (vs.drop k) (ds.drop k)
  | _, _, 0, r => r
  | _, _, _ + 1, .nil => .nil
  | _, _, k + 1, .cons r t => RVs.drop k t
theorem RVs.reverse : ∀ {vs : List V} {ds : List LV}, RVs K H ι n vs ds → RVs K H ι n vs.reverse ds.reverse
  | _, _, .nil => .nil
  | _, _, .cons r t => by
    rw [List.reverse_cons, List.reverse_cons]
    exact RVs.append (RVs.reverse t) (.cons r .nil)
theorem RVs.flat {vs : List V} {ds : List LV} (r : RVs K H ι n vs ds) : ∀ k : Nat, RVs K H ι n (List.replicate k vs).flatten (List.replicate k ds).flatten
  | 0 => .nil
  | k + 1 => by
    rw [List.replicate_succ, List.replicate_succ, List.flatten_cons, List.flatten_cons]
    exact RVs.append r (RVs.flat r k)
theorem RVs.get : ∀ {vs : List V} {ds : List LV} {i : Nat} {d : LV}, RVs K H ι n vs ds → ds[i]? = some d → ∃ v, vs[i]? = some v ∧ RV K H ι n v d
  | _, _, _, _, .nil, e => by simp at e
  | _, _, 0, _, .cons r _, e => by
    simp at e
    subst e
    exact ⟨_, rfl, r⟩
  | _, _, i + 1, d, .cons _ t, e => by
    obtain ⟨u, h1, h2⟩ := RVs.get (i := i) (d := d) t (by simpa using e)
    exact ⟨u, by simpa using h1, h2⟩
theorem RVs.getV : ∀ {vs : List V} {ds : List LV} {i : Nat} {v : V}, RVs K H ι n vs ds → vs[i]? = some v → ∃ d, ds[i]? = some d ∧ RV K H ι n v d
  | _, _, _, _, .nil, e => by simp at e
  | _, _, 0, _, .cons r _, e => by
    simp at e
    subst e
    exact ⟨_, rfl, r⟩
  | _, _, i + 1, d, .cons _ t, e => by
    obtain ⟨u, h1, h2⟩ := RVs.getV (i := i) (v := d) t (by simpa using e)
    exact ⟨u, by simpa using h1, h2⟩
theorem RVs.set {v : V} {d : LV} (r : RV K H ι n v d) : ∀ {vs : List V} {ds : List LV} (i : Nat), RVs K H ι n vs ds → RVs K H ι n (vs.set i v) (ds.set i d)
  | _, _, _, .nil => .nil
  | _, _, 0, .cons _ t => .cons r t
  | _, _, i + 1, .cons q t => .cons q (RVs.set r i t)
theorem RVs.dropLast : ∀ {vs : List V} {ds : List LV}, RVs K H ι n vs ds → RVs K H ι n vs.dropLast ds.dropLast
  | _, _, .nil => .nil
  | _, _, .cons _ .nil => .nil
  | _, _, .cons r (.cons q t) => .cons r (RVs.dropLast (.cons q t))
theorem RVs.ints : ∀ (ns : List Int), RVs K H ι n (ns.map V.int) (ns.map LV.int)
  | [] => .nil
  | i :: r => .cons (.int i) (RVs.ints r)
theorem RVs.toInts : ∀ {ds : List LV} {vs : List V} {ns : List Int}, RVs K H ι n vs ds → intL ds = some ns → vs = ns.map V.int
  | [], _, _, h, e => by
    cases h
    cases e
    rfl
  | .int i :: ds, _, _, h, e => by
    cases h with
    | cons h1 h2 =>
      cases h1
      unfold intL at e
      obtain ⟨r, e1, e2⟩ := Option.map_eq_some_iff.mp e
      rw [← e2, RVs.toInts h2 e1]
      rfl
  | .non :: _, _, _, _, e => by cases e
  | .bl _ :: _, _, _, _, e => by cases e
  | .str _ :: _, _, _, _, e => by cases e
  | .tup _ :: _, _, _, _, e => by cases e
  | .ref _ :: _, _, _, _, e => by cases e
theorem RVs.toBls : ∀ {ds : List LV} {vs : List V} {ns : List Bool}, RVs K H ι n vs ds → blL ds = some ns → vs = ns.map V.bl
  | [], _, _, h, e => by
    cases h
    cases e
    rfl
  | .bl i :: ds, _, _, h, e => by
    cases h with
    | cons h1 h2 =>
      cases h1
      unfold blL at e
      obtain ⟨r, e1, e2⟩ := Option.map_eq_some_iff.mp e
      rw [← e2, RVs.toBls h2 e1]
      rfl
  | .non :: _, _, _, _, e => by cases e
  | .int _ :: _, _, _, _, e => by cases e
  | .str _ :: _, _, _, _, e => by cases e
  | .tup _ :: _, _, _, _, e => by cases e
  | .ref _ :: _, _, _, _, e => by cases e
end

/-- pairs of a dict -/
inductive RKV (K : PySem.W.Frag) (H : Hp) (ι : Nat → Addr) (n : Nat) : List (Key × V) → List (Key × LV) → Prop
  | nil : RKV K H ι n [] []
  | cons {k : Key} {v : V} {d : LV} {vs : List (Key × V)} {ds : List (Key × LV)} : RV K H ι n v d → RKV K H ι n vs ds → RKV K H ι n ((k, v) :: vs) ((k, d) :: ds)
/-- the script's list: read, never written -/
def FrzAt (K : PySem.W.Frag) (H : Hp) (a : Addr) (xs : List V) : Prop := (∃ o, H a = some (.frz o (.lst xs))) ∨ SqL K (fun _ => none) a xs
def isMut : LO → Bool
  | .frz _ => false
  | _ => true
/-- the object at a is o -/
def RO (K : PySem.W.Frag) (H : Hp) (ι : Nat → Addr) (n : Nat) (a : Addr) : LO → Prop
  | .lst ds => ∃ xs, H a = some (.lst xs) ∧ RVs K H ι n xs ds
  | .frz ns => FrzAt K H a (ns.map V.int)
  | .dic ds => ∃ vs, H a = some (.dK vs) ∧ RKV K H ι n vs ds
/-- the heap H is L, object by object -/
structure Rep (K : PySem.W.Frag) (ι : Nat → Addr) (H : Hp) (L : LH) : Prop where
  ob : ∀ (k : Nat) (o : LO), L[k]? = some o → RO K H ι L.length (ι k) o
  inj : ∀ (j k : Nat) (x y : LO), L[j]? = some x → L[k]? = some y → isMut x = true → isMut y = true → ι j = ι k → j = k
/-- the names' values; what is none there may be anything -/
structure RS (K : PySem.W.Frag) (H : Hp) (ι : Nat → Addr) (n : Nat) (σV : L2.St) (σ : LSt) : Prop where
  len : σV.length = σ.length
  at_ : ∀ (i : Nat) (d : LV), σ[i]? = some (some d) → ∃ v, σV[i]? = some (some v) ∧ RV K H ι n v d

section
variable {K : PySem.W.Frag} {ι ι' : Nat → Addr} {H H' : Hp} {n n' : Nat} {L : LH} {a p : Addr}
theorem RKV.mono (ev : Ev K ι H n ι' H' n') : ∀ {vs : List (Key × V)} {ds : List (Key × LV)}, RKV K H ι n vs ds → RKV K H' ι' n' vs ds
  | _, _, .nil => .nil
  | _, _, .cons r t => .cons (r.mono ev) (RKV.mono ev t)
theorem RKV.length : ∀ {vs : List (Key × V)} {ds : List (Key × LV)}, RKV K H ι n vs ds → vs.length = ds.length
  | _, _, .nil => rfl
  | _, _, .cons _ t => congrArg (· + 1) (RKV.length t)
theorem RKV.val {k : Key} : ∀ {vs : List (Key × V)} {ds : List (Key × LV)} {d : LV}, RKV K H ι n vs ds → dval ds k = some d → ∃ v, valV vs k = some v ∧ RV K H ι n v d
  | _, _, _, .nil, e => by cases e
  | _, _, d, .cons (k := k') (v := v) (d := d') r t, e => by
    by_cases h : k' = k
    · subst h
      have e' : dval ((k', d') :: _) k' = some d := e
      unfold dval at e'
      rw [List.find?_cons_of_pos (by simp)] at e'
      cases e'
      exact ⟨v, valV_pos rfl, r⟩
    · have e' : dval ((k', d') :: _) k = some d := e
      unfold dval at e'
      rw [List.find?_cons_of_neg (by simpa using h)] at e'
      obtain ⟨v', h1, h2⟩ := RKV.val (k := k) (d := d) t e'
      exact ⟨v', by rw [valV_neg h]; exact h1, h2⟩
theorem RKV.any {k : Key} : ∀ {vs : List (Key × V)} {ds : List (Key × LV)}, RKV K H ι n vs ds → (vs.any fun kv => decide (kv.1 = k)) = ds.any fun kv => decide (kv.1 = k)
  | _, _, .nil => rfl
  | _, _, .cons r t => by
    rw [List.any_cons, List.any_cons, RKV.any t]
theorem RKV.repl {k : Key} {v : V} {d : LV} (r : RV K H ι n v d) : ∀ {vs : List (Key × V)} {ds : List (Key × LV)}, RKV K H ι n vs ds →
    RKV K H ι n (vs.map fun kv => if kv.1 = k then (kv.1, v) else kv) (ds.map fun kv => if kv.1 = k then (kv.1, d) else kv)
  | _, _, .nil => .nil
  | _, _, .cons (k := k') q t => by
    rw [List.map_cons, List.map_cons]
    by_cases h : k' = k
    · rw [if_pos h, if_pos h]
      exact .cons r (RKV.repl r t)
    · rw [if_neg h, if_neg h]
      exact .cons q (RKV.repl r t)
theorem RKV.append : ∀ {vs ws : List (Key × V)} {ds es : List (Key × LV)}, RKV K H ι n vs ds → RKV K H ι n ws es → RKV K H ι n (vs ++ ws) (ds ++ es)
  | _, _, _, _, .nil, s => s
  | _, _, _, _, .cons r t, s => .cons r (RKV.append t s)
theorem RKV.put {k : Key} {v : V} {d : LV} {vs : List (Key × V)} {ds : List (Key × LV)} (r : RV K H ι n v d) (h : RKV K H ι n vs ds) : RKV K H ι n (putK vs k v) (dput ds k d) := by
  unfold putK dput
  rw [h.any]
  split
  · exact RKV.repl r h
  · exact RKV.append h (.cons r .nil)
theorem SqT.upd {xs zs : List V} {o : HO} (h : SqT K H a xs) (hp : ∀ u, H p = some u → (∀ ys, u ≠ .tup ys) ∧ ∀ q ys, u ≠ .frz q (.tup ys)) : SqT K (upd H p o) a xs := by
  rcases h with (h | ⟨q, h⟩) | h
  · refine .inl (.inl ?_)
    rw [upd_ne]
    · exact h
    · rintro rfl
      exact (hp _ h).1 xs rfl
  · refine .inl (.inr ⟨q, ?_⟩)
    rw [upd_ne]
    · exact h
    · rintro rfl
      exact (hp _ h).2 q xs rfl
  · exact .inr h
theorem noTup_none {H : Hp} {p : Addr} (h : H p = none) : ∀ u, H p = some u → (∀ ys, u ≠ .tup ys) ∧ ∀ q ys, u ≠ .frz q (.tup ys) := fun u e => by rw [h] at e; cases e
theorem Ev.fresh {o : HO} (hp : H p = none) : Ev K ι H n ι (upd H p o) n := ⟨fun _ _ => rfl, Nat.le_refl _, fun _ xs h => SqT.upd (zs := xs) h (noTup_none hp)⟩
/-- the place of the next number -/
def ext (ι : Nat → Addr) (n : Nat) (p : Addr) : Nat → Addr := fun k => if k = n then p else ι k
theorem ext_lt {k : Nat} (h : k < n) : ext ι n p k = ι k := if_neg (Nat.ne_of_lt h)
theorem ext_eq : ext ι n p n = p := if_pos rfl
theorem Ev.new {o : HO} (hp : H p = none) : Ev K ι H n (ext ι n p) (upd H p o) (n + 1) :=
  ⟨fun _ hk => ext_lt hk, Nat.le_succ _, fun _ xs h => SqT.upd (zs := xs) h (noTup_none hp)⟩
theorem RO.mono_ne {o : LO} {u : HO} (ev : Ev K ι H n ι' (upd H p u) n') (h : RO K H ι n a o) (ha : a ≠ p ∨ ∃ ns, o = .frz ns ∧ ¬ ∃ q xs, H p = some (.frz q (.lst xs))) : RO K (upd H p u) ι' n' a o := by
  cases o with
  | lst ds =>
    obtain ⟨xs, h1, h2⟩ := h
    rcases ha with ha | ⟨_, e, _⟩
    · exact ⟨xs, by rw [upd_ne ha]; exact h1, h2.mono ev⟩
    · cases e
  | dic ds =>
    obtain ⟨xs, h1, h2⟩ := h
    rcases ha with ha | ⟨_, e, _⟩
    · exact ⟨xs, by rw [upd_ne ha]; exact h1, h2.mono ev⟩
    · cases e
  | frz ns =>
    rcases h with ⟨q, h⟩ | h
    · refine .inl ⟨q, ?_⟩
      rw [upd_ne]
      · exact h
      · rintro rfl
        rcases ha with ha | ⟨_, _, ha⟩
        · exact ha rfl
        · exact ha ⟨_, _, h⟩
    · exact .inr h
theorem RO.some {o : LO} (h : RO K H ι n a o) (m : isMut o = true) : ∃ u, H a = some u ∧ Mut (some u) := by
  cases o with
  | lst ds => obtain ⟨xs, h1, _⟩ := h; exact ⟨_, h1, trivial⟩
  | dic ds => obtain ⟨xs, h1, _⟩ := h; exact ⟨_, h1, trivial⟩
  | frz ns => cases m
theorem get_lt {k : Nat} {o : LO} (h : L[k]? = some o) : k < L.length := (List.getElem?_eq_some_iff.mp h).1
/-- a new tuple, or any other thing that has no number -/
theorem Rep.free {u : HO} (R : Rep K ι H L) (hp : H p = none) : Rep K ι (upd H p u) L :=
  ⟨fun k o h => (R.ob k o h).mono_ne (Ev.fresh hp) (by
    by_cases m : isMut o = true
    · obtain ⟨u, e, _⟩ := (R.ob k o h).some m
      exact .inl (ne_of_none e hp)
    · cases o with
      | frz ns => exact .inr ⟨ns, rfl, fun ⟨_, _, z⟩ => by rw [hp] at z; cases z⟩
      | _ => exact absurd rfl m), R.inj⟩
/-- a new object -/
theorem Rep.new {u : HO} {o : LO} (R : Rep K ι H L) (hp : H p = none) (h : RO K (upd H p u) (ext ι L.length p) (L.length + 1) p o) : Rep K (ext ι L.length p) (upd H p u) (L ++ [o]) := by
  have old : ∀ k x, L[k]? = some x → isMut x = true → ι k ≠ p := fun k x e m => by
    obtain ⟨u, e', _⟩ := (R.ob k x e).some m
    exact ne_of_none e' hp
  refine ⟨fun k x e => ?_, fun j k x y ej ek mx my eq => ?_⟩
  · rw [List.length_append, List.length_singleton]
    by_cases hk : k < L.length
    · rw [List.getElem?_append_left hk] at e
      rw [ext_lt hk]
      refine (R.ob k x e).mono_ne (Ev.new hp) ?_
      by_cases m : isMut x = true
      · exact .inl (old k x e m)
      · cases x with
        | frz ns => exact .inr ⟨ns, rfl, fun ⟨_, _, z⟩ => by rw [hp] at z; cases z⟩
        | _ => exact absurd rfl m
    · have hl := get_lt e
      rw [List.length_append, List.length_singleton] at hl
      have hk' : k = L.length := by omega
      subst hk'
      rw [List.getElem?_append_right (Nat.le_refl _)] at e
      simp at e
      subst e
      rw [ext_eq]
      exact h
  · have cas : ∀ i z, (L ++ [o])[i]? = some z → (i < L.length ∧ L[i]? = some z) ∨ i = L.length := fun i z e => by
      by_cases hi : i < L.length
      · rw [List.getElem?_append_left hi] at e
        exact .inl ⟨hi, e⟩
      · have hl := get_lt e
        rw [List.length_append, List.length_singleton] at hl
        exact .inr (by omega)
    rcases cas j x ej with ⟨hj, ej'⟩ | hj
    · rcases cas k y ek with ⟨hk, ek'⟩ | hk
      · rw [ext_lt hj, ext_lt hk] at eq
        exact R.inj j k x y ej' ek' mx my eq
      · subst hk
        rw [ext_lt hj, ext_eq] at eq
        exact absurd eq (old j x ej' mx)
    · rcases cas k y ek with ⟨hk, ek'⟩ | hk
      · subst hj
        rw [ext_lt hk, ext_eq] at eq
        exact absurd eq.symm (old k y ek' my)
      · rw [hj, hk]
theorem noTup_mut {u : HO} (h : H p = some u) (m : Mut (some u)) : ∀ u, H p = some u → (∀ ys, u ≠ .tup ys) ∧ ∀ q ys, u ≠ .frz q (.tup ys) := fun u' e => by
  rw [h] at e
  cases e
  refine ⟨fun ys z => ?_, fun q ys z => ?_⟩ <;> (subst z; exact m)
theorem Ev.set {u o : HO} (h : H p = some u) (m : Mut (some u)) : Ev K ι H n ι (upd H p o) n := ⟨fun _ _ => rfl, Nat.le_refl _, fun _ xs q => SqT.upd (zs := xs) q (noTup_mut h m)⟩
/-- an object is changed -/
theorem Rep.set {k : Nat} {u : HO} {o o' : LO} (R : Rep K ι H L) (hk : L[k]? = some o) (m : isMut o = true) (m' : isMut o' = true) (h : RO K (upd H (ι k) u) ι L.length (ι k) o') :
    Rep K ι (upd H (ι k) u) (L.set k o') := by
  obtain ⟨w, hw, mw⟩ := (R.ob k o hk).some m
  have hl := get_lt hk
  refine ⟨fun j x e => ?_, fun i j x y ei ej mx my eq => ?_⟩
  · rw [List.length_set]
    by_cases hj : j = k
    · subst hj
      rw [List.getElem?_set_self hl] at e
      cases e
      exact h
    · rw [List.getElem?_set_ne (Ne.symm hj)] at e
      refine (R.ob j x e).mono_ne (Ev.set hw mw) ?_
      by_cases mx : isMut x = true
      · exact .inl fun z => hj (R.inj j k x o e hk mx m z)
      · cases x with
        | frz ns => exact .inr ⟨ns, rfl, fun ⟨_, _, z⟩ => by rw [hw] at z; cases z; exact mw⟩
        | _ => exact absurd rfl mx
  · have cas : ∀ i z, (L.set k o')[i]? = some z → ∃ z', L[i]? = some z' ∧ (isMut z = true → isMut z' = true) := fun i z e => by
      by_cases hi : i = k
      · subst hi
        exact ⟨o, hk, fun _ => m⟩
      · rw [List.getElem?_set_ne (Ne.symm hi)] at e
        exact ⟨z, e, fun q => q⟩
    obtain ⟨x', ex, mx'⟩ := cas i x ei
    obtain ⟨y', ey, my'⟩ := cas j y ej
    exact R.inj i j x' y' ex ey (mx' mx) (my' my) eq
theorem RS.mono {σV : L2.St} {σ : LSt} (ev : Ev K ι H n ι' H' n') (r : RS K H ι n σV σ) : RS K H' ι' n' σV σ :=
  ⟨r.len, fun i d e => let ⟨v, h1, h2⟩ := r.at_ i d e; ⟨v, h1, h2.mono ev⟩⟩
theorem RS.set {σV : L2.St} {σ : LSt} {v : V} {d : LV} (i : Nat) (q : RV K H ι n v d) (r : RS K H ι n σV σ) : RS K H ι n (σV.set i (some v)) (σ.set i (some d)) := by
  refine ⟨by rw [List.length_set, List.length_set]; exact r.len, fun j e h => ?_⟩
  by_cases hj : i = j
  · subst hj
    have hl : i < σ.length := by
      have z := (List.getElem?_eq_some_iff.mp h).1
      rwa [List.length_set] at z
    rw [List.getElem?_set_self hl] at h
    cases h
    exact ⟨v, List.getElem?_set_self (by rw [r.len]; exact hl), q⟩
  · rw [List.getElem?_set_ne hj] at h
    rw [List.getElem?_set_ne hj]
    exact r.at_ j e h
end

/-! ### what is wanted -/
/-- of an exception: its class's number, its fields, the heap; the names -/
abbrev XW := Nat → List (Str × LV) → LH → (Nat → Addr) → Hp → L2.St → Prop
/-- a relation between what the layer has and the logical thing, over a heap -/
abbrev Rl (α β : Type) := Hp → (Nat → Addr) → Nat → β → α → Prop
section
variable {α β γ δ : Type}
def Po (K : PySem.W.Frag) (W : XW) (R : Rl α β) (σV : L2.St) (Q : β → Hp → Prop) (ι : Nat → Addr) (H : Hp) (n : Nat) : Out α → Prop
  | .ok d L' => ∀ ι' H' v, Ev K ι H n ι' H' L'.length → Rep K ι' H' L' → R H' ι' L'.length v d → Q v H'
  | .ex c fs L' => ∀ ι' H', Ev K ι H n ι' H' L'.length → Rep K ι' H' L' → W c fs L' ι' H' σV
/-- the evaluator stands at r, over L; Q is what is wanted of its end -/
structure At (K : PySem.W.Frag) (W : XW) (R : Rl α β) (σV : L2.St) (σ : LSt) (ι : Nat → Addr) (L : LH) (r : Option (Out α)) (Q : β → Hp → Prop) (H : Hp) : Prop where
  rep : Rep K ι H L
  rs : RS K H ι L.length σV σ
  go : ∃ o, r = some o ∧ Po K W R σV Q ι H L.length o
variable {K : PySem.W.Frag} {W : XW} {R : Rl α β} {R2 : Rl γ δ} {σV : L2.St} {σ : LSt} {ι : Nat → Addr} {L : LH} {H : Hp} {Q Q' : β → Hp → Prop} {Q2 : δ → Hp → Prop} {r : Option (Out α)}
theorem At.imp (h : At K W R σV σ ι L r Q H) (q : ∀ v H', Q v H' → Q' v H') : At K W R σV σ ι L r Q' H := by
  obtain ⟨a, b, o, e, p⟩ := h
  refine ⟨a, b, o, e, ?_⟩
  cases o with
  | ok d L' => exact fun ι' H' v e1 e2 e3 => q _ _ (p ι' H' v e1 e2 e3)
  | ex c fs L' => exact p
theorem At.bind {m : M α} {f : α → M γ} (h : At K W R2 σV σ ι L (M.bind m f L) Q2 H) :
    At K W R σV σ ι L (m L) (fun v H1 => ∃ d ι1 L1, R H1 ι1 L1.length v d ∧ Ev K ι H L.length ι1 H1 L1.length ∧ At K W R2 σV σ ι1 L1 (f d L1) Q2 H1) H := by
  obtain ⟨a, b, o, e, p⟩ := h
  unfold M.bind at e
  refine ⟨a, b, ?_⟩
  cases hm : m L with
  | none => rw [hm] at e; cases e
  | some om =>
    cases om with
    | ok d L1 =>
      rw [hm] at e
      have e : f d L1 = some o := e
      refine ⟨_, rfl, fun ι1 H1 v ev rp rv => ⟨d, ι1, L1, rv, ev, rp, b.mono ev, o, e, ?_⟩⟩
      cases o with
      | ok d2 L2 => exact fun ι2 H2 v2 ev2 rp2 rv2 => p ι2 H2 v2 (ev.trans ev2) rp2 rv2
      | ex c fs L2 => exact fun ι2 H2 ev2 rp2 => p ι2 H2 (ev.trans ev2) rp2
    | ex c fs L1 =>
      rw [hm] at e
      have e : some (Out.ex c fs L1) = some o := e
      cases e
      exact ⟨_, rfl, fun ι1 H1 ev rp => p ι1 H1 ev rp⟩
theorem At.bindE {m : M α} {f : α → M γ} (h : At K W R2 σV σ ι L (M.bind m f L) Q2 H) :
    At K W R σV σ ι L (m L) (fun v H1 => ∃ d ι1 L1, m L = some (.ok d L1) ∧ R H1 ι1 L1.length v d ∧ Ev K ι H L.length ι1 H1 L1.length ∧ At K W R2 σV σ ι1 L1 (f d L1) Q2 H1) H := by
  have h0 := h.bind (R := R)
  obtain ⟨a, b, o, e, p⟩ := h0
  refine ⟨a, b, o, e, ?_⟩
  obtain ⟨a2, b2, o2, e2, p2⟩ := h
  unfold M.bind at e2
  rw [e] at e2
  cases o with
  | ok d L' =>
    have e2 : f d L' = some o2 := e2
    refine fun ι1 H1 v ev rp rv => ⟨d, ι1, L', e, rv, ev, rp, b2.mono ev, o2, e2, ?_⟩
    cases o2 with
    | ok d2 L2 => exact fun ι2 H2 v2 ev2 rp2 rv2 => p2 ι2 H2 v2 (ev.trans ev2) rp2 rv2
    | ex c fs L2 => exact fun ι2 H2 ev2 rp2 => p2 ι2 H2 (ev.trans ev2) rp2
  | ex c fs L' => exact p
theorem At.ret {d : α} {v : β} (h : At K W R σV σ ι L (M.ret d L) Q H) (q : R H ι L.length v d) : Q v H := by
  obtain ⟨a, b, o, e, p⟩ := h
  have e : some (Out.ok d L) = some o := e
  cases e
  exact p ι H v Ev.refl a q
/-- .. where the heap got a thing that has no number -/
theorem At.retF {d : α} {v : β} {p : Addr} {u : HO} (h : At K W R σV σ ι L (M.ret d L) Q H) (hp : H p = none) (q : R (upd H p u) ι L.length v d) : Q v (upd H p u) := by
  obtain ⟨a, b, o, e, z⟩ := h
  have e : some (Out.ok d L) = some o := e
  cases e
  exact z ι _ v (Ev.fresh hp) (a.free hp) q
theorem At.no (h : At K W R σV σ ι L (M.no L) Q H) : False := by
  obtain ⟨_, _, o, e, _⟩ := h
  cases e
theorem At.chk {b : Bool} {m : M α} (h : At K W R σV σ ι L (M.chk b m L) Q H) : b = true ∧ At K W R σV σ ι L (m L) Q H := by
  cases b with
  | true => exact ⟨rfl, h⟩
  | false => exact (At.no h).elim
theorem At.ofO {o : Option γ} {f : γ → M α} (h : At K W R σV σ ι L (M.ofO o f L) Q H) : ∃ a, o = some a ∧ At K W R σV σ ι L (f a L) Q H := by
  cases o with
  | some a => exact ⟨a, rfl, h⟩
  | none => exact (At.no h).elim
theorem At.look {g : LH → Option γ} {f : γ → M α} (h : At K W R σV σ ι L (M.look g f L) Q H) : ∃ a, g L = some a ∧ At K W R σV σ ι L (f a L) Q H := by
  unfold M.look at h
  cases e : g L with
  | some a => rw [e] at h; exact ⟨a, rfl, h⟩
  | none => rw [e] at h; obtain ⟨_, _, o, z, _⟩ := h; cases z
theorem At.none (h : At K W R σV σ ι L (Option.none : Option (Out α)) Q H) : False := by
  obtain ⟨_, _, o, e, _⟩ := h
  cases e
end
abbrev RVr (K : PySem.W.Frag) : Rl LV V := fun H ι n v d => RV K H ι n v d
abbrev RVsr (K : PySem.W.Frag) : Rl (List LV) (List V) := fun H ι n v d => RVs K H ι n v d
/-- a value that is the same in both -/
abbrev Eqr {α : Type} : Rl α α := fun _ _ _ v d => v = d
section
variable {K : PySem.W.Frag} {W : XW} {σV : L2.St} {σ : LSt} {ι : Nat → Addr} {L : LH} {H : Hp} {Q : VK}
/-- a new object with a number -/
theorem At.new {o : LO} {u : HO} {p : Addr} (h : At K W (RVr K) σV σ ι L (new o L) Q H) (hp : H p = Option.none) (q : RO K (upd H p u) (ext ι L.length p) (L.length + 1) p o) : Q (.ref p) (upd H p u) := by
  obtain ⟨a, b, o', e, z⟩ := h
  have e : some (Out.ok (.ref L.length) (L ++ [o])) = some o' := e
  cases e
  refine z (ext ι L.length p) _ _ ?_ (a.new hp q) ?_
  · rw [List.length_append, List.length_singleton]
    exact Ev.new hp
  · have z : RV K (upd H p u) (ext ι L.length p) (L ++ [o]).length (.ref (ext ι L.length p L.length)) (.ref L.length) := .ref _ (by rw [List.length_append, List.length_singleton]; omega)
    rw [ext_eq] at z
    exact z
end

/-! ### readings -/
def tG {α β : Type} (K : PySem.W.Frag) (W : XW) (R : Rl α β) (m : LSt → M α) : L2.St → Hp → (β → Hp → Prop) → Prop := fun σV H Q => ∃ ι σ L, At K W R σV σ ι L (m σ L) Q H
abbrev tI (K : PySem.W.Frag) (W : XW) (m : LSt → M LV) : TE := tG K W (RVr K) m
abbrev tIs (K : PySem.W.Frag) (W : XW) (m : LSt → M (List LV)) : TA := tG K W (RVsr K) m
abbrev tIO (K : PySem.W.Frag) (W : XW) (m : LSt → M (Option Int)) : TO := tG K W Eqr m
theorem PE.imp {X : Cx} {e : Expr} {t t' : TE} (h : PE X e t) (q : ∀ σ H Q, t' σ H Q → t σ H Q) : PE X e t' := ⟨fun pins s σ H Q I w => h.run pins s σ H Q I (q σ H Q w)⟩
theorem PT.imp {X : Cx} {e : Expr} {t t' : TT} (h : PT X e t) (q : ∀ σ H Q, t' σ H Q → t σ H Q) : PT X e t' := ⟨fun pins s σ H Q I w => h.run pins s σ H Q I (q σ H Q w)⟩
theorem PA.imp {X : Cx} {e : List Expr} {t t' : TA} (h : PA X e t) (q : ∀ σ H Q, t' σ H Q → t σ H Q) : PA X e t' := ⟨fun pos pins s σ H Q I w => h.run pos pins s σ H Q I (q σ H Q w)⟩
theorem PO.imp {X : Cx} {e : Option Expr} {t t' : TO} (h : PO X e t) (q : ∀ σ H Q, t' σ H Q → t σ H Q) : PO X e t' := ⟨fun pins s σ H Q I w => h.run pins s σ H Q I (q σ H Q w)⟩
theorem PS.imp {X : Cx} {e : Stmt} {t t' : TS} (h : PS X e t) (q : ∀ D σ H, t' D σ H → t D σ H) : PS X e t' := ⟨fun pins s σ H D I w => h.run pins s σ H D I (q D σ H w)⟩
theorem PSs.imp {X : Cx} {e : List Stmt} {t t' : TS} (h : PSs X e t) (q : ∀ D σ H, t' D σ H → t D σ H) : PSs X e t' := ⟨fun pins s σ H D I w => h.run pins s σ H D I (q D σ H w)⟩
end Mv

/-! Mv3a: rules that the layer lacks: t * k for any k; t[::-1]. -/
namespace Mv
open PySem PySem.Spec PyProof.Rows L2

theorem tuple_mul_same (l : Addr) (items : Array Value) (n : Nat) (dd : Option Addr) (sl : Array (Option Value)) (x : Int) (u : Tok) (c0 : (decide (x < -(2 ^ 63)) || decide (x ≥ 2 ^ 63)) = false) (c1 : (items.isEmpty || x == 1) = true) :
    Meets (Builtin.«tuple.__mul__» ⟨[.ref l, .int x u], []⟩) (fun _ R s => s.heap.get? l = some { cls := .type "tuple", dict := dd, data := .seq items n, slots := sl } ∧
      R (.ok (.ret (Value.ref l))) s) :=
  .of_wp fun prog w A R s h => by
    obtain ⟨hp, g, d, tk, os⟩ := s
    obtain ⟨hl, h⟩ := h
    have f1 := AutoSeq1.idx_int
    wp_walk using wpAny_loadPart' hl
    repeat (first
      | (refine wpAny_ite_false (decide_eq_false (by rw [c0]; exact Bool.false_ne_true)) ?_; wp_walk using wpAny_loadPart' hl)
      | (refine wpAny_ite_true (decide_eq_true c1) ?_; wp_walk using wpAny_loadPart' hl))
    exact ⟨_, rfl, h⟩
theorem tuple_mul_none (l : Addr) (items : Array Value) (n : Nat) (dd : Option Addr) (sl : Array (Option Value)) (x : Int) (u : Tok) (c0 : (decide (x < -(2 ^ 63)) || decide (x ≥ 2 ^ 63)) = false) (c1 : (items.isEmpty || x == 1) = false) (c2 : (decide (x ≤ 0) || items.isEmpty) = true) :
    Meets (Builtin.«tuple.__mul__» ⟨[.ref l, .int x u], []⟩) (fun _ R s => s.heap.get? l = some { cls := .type "tuple", dict := dd, data := .seq items n, slots := sl } ∧
      R (.ok (.ret (Value.ref s.heap.objs.size))) { s with heap := s.heap.push { cls := Value.type "tuple", data := Data.seq #[] }, toks := s.toks }) :=
  .of_wp fun prog w A R s h => by
    obtain ⟨hp, g, d, tk, os⟩ := s
    obtain ⟨hl, h⟩ := h
    have f1 := AutoSeq1.idx_int
    wp_walk using wpAny_loadPart' hl
    repeat (first
      | (refine wpAny_ite_false (decide_eq_false (by rw [c0]; exact Bool.false_ne_true)) ?_; wp_walk using wpAny_loadPart' hl)
      | (refine wpAny_ite_false (decide_eq_false (by rw [c1]; exact Bool.false_ne_true)) ?_; wp_walk using wpAny_loadPart' hl)
      | (refine wpAny_ite_true (decide_eq_true c2) ?_; wp_walk using wpAny_loadPart' hl))
    exact ⟨_, rfl, h⟩
/-- t * k -/
def rMulT (K : PySem.W.Frag) : R2 := fun x y H Q => ∃ l k xs, x = .ref l ∧ y = .int k ∧ SqT K H l xs ∧ -(2 ^ 63) ≤ k ∧ k < 2 ^ 63 ∧ xs.length * k.toNat ≤ sizeLine ∧
  (xs = [] ∨ k = 1 → Q (.ref l) H) ∧ (¬ (xs = [] ∨ k = 1) → ∀ p, H p = none → Q (.ref p) (upd H p (.tup (List.replicate k.toNat xs).flatten)))
theorem tup_dict {X : Cx} {pins : List (Addr × Obj)} {σ : L2.St} {H : Hp} {s : Shared} {l : Addr} {xs : List V} (I : Inv X pins σ H s) (h : SqT X.K H l xs) :
    ∃ (its : List Value) (n : Nat) (dd : Option Addr) (sl : Array (Option Value)), Vals xs its ∧ s.heap.get? l = some { cls := .type "tuple", dict := dd, data := .seq its.toArray n, slots := sl } ∧ xs.length ≤ sizeLine := by
  obtain ⟨its, r, ⟨⟨cls, dd, data, sl⟩, ho, hc, n, hd⟩, hs⟩ := I.tuple h
  simp only at hc hd
  subst hc hd
  exact ⟨its, n, dd, sl, r, ho, hs⟩
section
variable {X : Cx}
theorem op_mulT : OpR X (binaryOp .Mult) (rMulT X.K) := by
  intro pins s σ H x y v u Q I rx ry h
  obtain ⟨l, k, xs, rfl, rfl, hT, h1, h2, hz, q1, q2⟩ := h
  cases rx
  obtain ⟨t, rfl⟩ := ry
  obtain ⟨its, n, dd, sl, r, ho, hs⟩ := tup_dict I hT
  have hle : its.length = xs.length := r.length.symm
  have c0 : (decide (k < -(2 ^ 63)) || decide (k ≥ 2 ^ 63)) = false := by
    rw [decide_eq_false (by omega), decide_eq_false (by omega)] <;> rfl
  refine wpAny_binaryOp_repeat_ref (T := "tuple") (U := "int") (by decide) ⟨_, ho, rfl⟩ (fun s' => typeIs_int s' k t) noFill_tuple_mul F.fills_int_mul F.slot_int_rmul repeat_tuple F.slot_int_index.lookup
    (call_meets F.slot_int_rmul (typeIs_int s k t) F.entry_int_rmul (F.args_int_rmul_2 _ _) (int_rmul_tuple k t l its.toArray n dd sl)
      ⟨ho, rfl, ⟨_, ho, rfl⟩, ?_⟩)
  have hemp : its.toArray.isEmpty = xs.isEmpty := by
    cases r <;> rfl
  by_cases hc : xs = [] ∨ k = 1
  · have c1 : (its.toArray.isEmpty || k == 1) = true := by
      rw [hemp]
      rcases hc with rfl | rfl <;> simp
    exact call_meets F.slot_tuple_mul ⟨_, ho, rfl⟩ F.entry_tuple_mul (F.args_tuple_mul_2 _ _) (tuple_mul_same l its.toArray n dd sl k t c0 c1) ⟨ho, .ref l, H, I, rfl, q1 hc⟩
  · have hx : xs ≠ [] := fun e => hc (.inl e)
    have hk : k ≠ 1 := fun e => hc (.inr e)
    have hxe : xs.isEmpty = false := by
      cases xs with
      | nil => exact absurd rfl hx
      | cons a b => rfl
    have c1 : (its.toArray.isEmpty || k == 1) = false := by
      rw [hemp, hxe, Bool.false_or]
      exact beq_eq_false_iff_ne.mpr hk
    have fin : ∀ ys : List Value, ys = (List.replicate k.toNat its).flatten → EP X pins σ Q (Value.ref s.heap.objs.size) { s with heap := s.heap.push { cls := Value.type "tuple", data := Data.seq ys.toArray }, toks := s.toks } := fun ys e => by
      subst e
      refine ⟨.ref s.heap.objs.size, _, I.laid (t' := s.toks) (o := .tup (List.replicate k.toNat xs).flatten) (fun b ob q => Heap.get?_push_of_some _ q) (Nat.le_refl _) ?_, rfl, q2 hc _ (I.hok.fresh (Nat.le_refl _))⟩
      exact ⟨by rw [PyProof.Rows.lm_len_rep_flat, Nat.mul_comm]; exact hz, _, r.rep k.toNat, IsTup.new _ _⟩
    by_cases h0 : k ≤ 0
    · have c2 : (decide (k ≤ 0) || its.toArray.isEmpty) = true := by rw [decide_eq_true h0]; rfl
      refine call_meets F.slot_tuple_mul ⟨_, ho, rfl⟩ F.entry_tuple_mul (F.args_tuple_mul_2 _ _) (tuple_mul_none l its.toArray n dd sl k t c0 c1 c2) ⟨ho, ?_⟩
      have e : k.toNat = 0 := by omega
      exact fin [] (by rw [e]; rfl)
    · have c2 : (decide (k ≤ 0) || its.toArray.isEmpty) = false := by
        rw [decide_eq_false h0, hemp, hxe]
        rfl
      have hsz0 : its.toArray.size = xs.length := by rw [List.size_toArray, hle]
      have hm : ((its.toArray.size : Nat) : Int) * k = ((xs.length * k.toNat : Nat) : Int) := by
        rw [hsz0, Int.natCast_mul, Int.toNat_of_nonneg (by omega)]
      have hline : sizeLine = 16777216 := sizeLine_eq
      have c4 : Builtin.Tuple.tupleTooMany (((its.toArray.size : Nat) : Int) * k) = false := by
        unfold Builtin.Tuple.tupleTooMany
        rw [hm]
        exact decide_eq_false (by omega)
      refine call_meets F.slot_tuple_mul ⟨_, ho, rfl⟩ F.entry_tuple_mul (F.args_tuple_mul_2 _ _) (tuple_mulW l its.toArray n dd sl k t c0 c1 c2 (by rw [hm]; omega) c4 (by rw [size_rep, List.size_toArray, PyProof.Rows.lm_len_rep_flat, hle, Nat.mul_comm]; exact hz)) ⟨ho, ?_⟩
      rw [size_rep]
      exact fin _ rfl
end

/-! ### x[::-1] of a list or a tuple -/
section
variable {prog : Program} {w : World} {A : Around} {E : Value → Shared → Prop} {s : Shared}
theorem adjust_back (n : Nat) : Builtin.Slice.sliceAdjust none none (-1) (n : Int) = ((n : Int) - 1, -1) := by
  unfold Builtin.Slice.sliceAdjust
  have h1 : ((-1 : Int) < 0) := by omega
  simp only [h1, if_true]
theorem places_back (n : Nat) : Builtin.Slice.slicePlaces ((n : Int) - 1) (-1) (-1) = n := by
  unfold Builtin.Slice.slicePlaces
  have h1 : ¬ ((-1 : Int) > 0) := by omega
  simp only [h1, if_false, Int.neg_neg, Int.ediv_one]
  split <;> omega
theorem fm_some {α β : Type} {f : α → Option β} {g : α → β} : ∀ {l : List α}, (∀ x, x ∈ l → f x = some (g x)) → l.filterMap f = l.map g
  | [], _ => rfl
  | a :: l, h => by
    rw [List.filterMap_cons_some (h a List.mem_cons_self), List.map_cons, fm_some fun x hx => h x (List.mem_cons_of_mem _ hx)]
theorem applied_back {sl : Addr} {vs : Value} {n : Nat} {Q : Int × Int × Nat → Shared → Prop} (hs : s.heap.IsSliceOf sl .none .none vs) (ps : IsPart vs (some (-1)))
    (h : Q ((n : Int) - 1, -1, n) s) : wpAny (model prog w) A (Builtin.Slice.sliceApplied (.ref sl) (pure (n : Int))) Q E s := by
  obtain ⟨os, hos, hcs, hds⟩ := id hs
  unfold Builtin.Slice.sliceApplied Builtin.Slice.sliceFields
  refine wpAny_bind (wpAny_bind (wpAny_field hos hds (x := .none) rfl (wpAny_bind (wpAny_field hos hds (x := .none) rfl (wpAny_bind (wpAny_field hos hds (x := vs) rfl (wpAny_pure ?_)))))))
  refine wpAny_bind (HT.slicePart_ ps ?_)
  show wpAny _ _ (if ((-1 : Int) == 0) = true then _ else _) _ _ s
  rw [if_neg (by decide)]
  refine wpAny_bind (HT.slicePart_ .none (wpAny_bind (HT.slicePart_ .none (wpAny_bind (wpAny_pure ?_)))))
  show wpAny _ _ (match Builtin.Slice.sliceAdjust none none (-1) (n : Int) with | (lo, hi) => pure (lo, (-1 : Int), Builtin.Slice.slicePlaces lo hi (-1))) _ _ s
  rw [adjust_back]
  show wpAny _ _ (pure ((n : Int) - 1, (-1 : Int), Builtin.Slice.slicePlaces ((n : Int) - 1) (-1) (-1))) _ _ s
  rw [places_back]
  exact wpAny_pure h
theorem pick_back (xs : Array Value) : ((List.range xs.size).filterMap fun (k : Nat) => xs[(((xs.size : Nat) : Int) - 1 + (k : Int) * (-1)).toNat]?).toArray = xs.toList.reverse.toArray := by
  congr 1
  apply List.ext_getElem?
  intro i
  have e : ((List.range xs.size).filterMap fun (k : Nat) => xs[(((xs.size : Nat) : Int) - 1 + (k : Int) * (-1)).toNat]?) = (List.range xs.size).map fun k => xs.toList.reverse.getD k Value.none := by
    apply fm_some
    intro k hk
    have hk := List.mem_range.mp hk
    have e1 : (((xs.size : Nat) : Int) - 1 + (k : Int) * (-1)).toNat = xs.size - 1 - k := by omega
    rw [e1]
    have hl : k < xs.toList.reverse.length := by simpa using hk
    simp only [Function.comp, List.getD_eq_getElem?_getD, List.getElem?_eq_getElem hl, Option.getD_some, List.getElem_reverse]
    rw [Array.getElem?_eq_getElem (by omega)]
    simp
  rw [e, List.getElem?_map]
  by_cases hi : i < xs.size
  · rw [List.getElem?_range hi]
    have hl : i < xs.toList.reverse.length := by simpa using hi
    simp only [Option.map_some, List.getD_eq_getElem?_getD, List.getElem?_eq_getElem hl, Option.getD_some]
  · rw [List.getElem?_eq_none (by simpa using hi), List.getElem?_eq_none (by simpa using hi)]
    rfl
theorem getItem_tuple_back {t sl : Addr} {items : Array Value} {vs : Value} {Q : Value → Shared → Prop} (ht : IsTup s.heap t items) (hs : s.heap.IsSliceOf sl .none .none vs) (ps : IsPart vs (some (-1)))
    (h : Q (.ref s.heap.objs.size) { s with heap := s.heap.push { cls := .type "tuple", data := .seq items.toList.reverse.toArray } })
    (hsz : items.size ≤ sizeLine) : wpAny (model prog w) A (getItem (.ref t) (.ref sl)) Q E s := by
  have htake : sizeOk (.seq items.toList.reverse.toArray) := by
    show items.toList.reverse.toArray.size ≤ sizeLine
    rw [List.size_toArray, List.length_reverse, Array.length_toList]
    exact hsz
  obtain ⟨os, hos, hcs, hds⟩ := id hs
  have hTs : s.TypeIs (.ref sl) "slice" := ⟨os, hos, hcs⟩
  unfold getItem
  try with_reducible refine wpAny_holding ?_
  first | refine wpAny_bind (wpAny_pure ?_) | skip
  refine wpAny_bind (wpAny_sequenceKey ht.typeIs (by decide) ?_)
  refine wpAny_bind (wpAny_callSpecial?_slot (name := Str.ofString "__getitem__") ht.typeIs PyProof.Rows.slot_tuple_getitem
    (wpAny_call_entry PyProof.Rows.slot_tuple_getitem ht.typeIs entry_tuple_getitem ?_ (args_tuple_getitem _ _)))
  show wpAny _ _ (Builtin.Tuple.tupleItemsOf (.ref t) >>= _) _ _ s
  refine wpAny_bind (tupleItemsOf_ ht ?_)
  refine wpAny_bind (wpAny_typeOf hTs ?_)
  rw [if_pos (by decide)]
  refine wpAny_bind (applied_back hs ps ?_)
  have hno : ¬ (((((items.size : Nat) : Int) - 1 == 0) && ((-1 : Int) == 1) && (items.size == items.size)) = true) := by
    intro q
    rw [Bool.and_eq_true, Bool.and_eq_true] at q
    exact absurd q.1.2 (by decide)
  show wpAny _ _ (if ((((items.size : Nat) : Int) - 1 == 0) && ((-1 : Int) == 1) && (items.size == items.size)) = true then _ else _) _ _ s
  rw [if_neg hno, pick_back]
  first
    | exact wpAny_bind (m := Builtin.Tuple.tupleExact _) (wpAny_newObj_type (wpAny_pure ⟨_, rfl, wpAny_pure h⟩) htake)
    | exact wpAny_bind (m := Builtin.Tuple.tupleExact _) (wpAny_newObj_type (wpAny_bind (wpAny_pure (wpAny_pure ⟨_, rfl, wpAny_pure h⟩))) htake)
    | exact wpAny_bind (wpAny_bind (m := Builtin.Tuple.tupleExact _) (wpAny_newObj_type (wpAny_pure (wpAny_pure ⟨_, rfl, wpAny_pure h⟩)) htake))
    | exact wpAny_bind (wpAny_bind (m := Builtin.Tuple.tupleExact _) (wpAny_newObj_type (wpAny_pure ⟨_, rfl, wpAny_pure h⟩) htake))
end
def rRev (K : PySem.W.Frag) (x : V) (H : Hp) (Q : VK) : Prop := ∃ a xs, x = .ref a ∧ ((SqL K H a xs ∧ ∀ p, H p = none → Q (.ref p) (upd H p (.lst xs.reverse))) ∨ (SqT K H a xs ∧ ∀ p, H p = none → Q (.ref p) (upd H p (.tup xs.reverse))))
theorem pe_back {X : Cx} {e : Expr} {te : TE} {k : Nat} {p1 p2 p3 pos : Pos} (he : PE X e te) :
    PE X (.Subscript e (.Slice none none (some (.UnaryOp .USub (.Constant (.int 1) k p1) p2)) p3) pos) (fun σ H Q => te σ H fun x H1 => rRev X.K x H1 Q) := by
  refine ⟨fun pins s σ H Q I h => ?_⟩
  refine Subscript_ (thn (he.run pins s σ H _ I h) fun v s1 ⟨x, H1, I1, r1, q1⟩ => ?_)
  obtain ⟨a, xs, ex, hx⟩ := q1
  subst ex
  cases r1
  have hst : PO X (some (.UnaryOp .USub (.Constant (.int 1) k p1) p2)) (tPart (tUn (rU fun i => .int (-i)) (tC (.int 1)))) := po_some (pe_un un_neg pe_int)
  refine wpAny_Slice ?_
  rw [evalPart_none]
  refine wpAny_pure ?_
  refine wpAny_pure ?_
  refine thn (hst.run pins s1 σ H1 (fun o H4 => o = some (-1) ∧ H4 = H1) I1 ⟨1, rfl, -1, rfl, rfl, rfl⟩) fun vs s4 ⟨o, H4, I4, ps, eo, e4⟩ => ?_
  subst eo e4
  have I5 : Inv X pins σ H4 { s4 with heap := s4.heap.push { cls := .type "slice", data := .fields #[.none, .none, vs] } } := I4.kept (t' := s4.toks) fun b ob q => Heap.get?_push_of_some _ q
  have hsl := Heap.IsSliceOf.new s4.heap .none .none vs
  show wpAny (model X.prog X.w) X.A (subscriptTail e (.Slice none none (some (.UnaryOp .USub (.Constant (.int 1) k p1) p2)) p3) (.ref a) (.ref s4.heap.objs.size)) (EP X pins σ Q) X.xe { s4 with heap := s4.heap.push { cls := .type "slice", data := .fields #[.none, .none, vs] } }
  rcases hx with ⟨hx, q⟩ | ⟨hx, q⟩
  · obtain ⟨its, r, ht, hz⟩ := I5.list hx
    have hlen := r.length
    refine tail_any (ops := [.ref a, .ref s4.heap.objs.size]) ht.isList.typeIs (PySem.slot_list_getitem.lookup) ?_ (by with_unfolding_all rfl)
    refine wpAny_getItem_list_slice ht.isList hsl .none .none ps (by decide) ?_ (by rw [List.size_toArray]; omega)
    rw [PySem.W.krv_pick]
    refine ⟨.ref _, _, I5.laid (t' := s4.toks) (o := .lst xs.reverse) (fun b ob q => Heap.get?_push_of_some _ q) (Nat.le_refl _) ?_, rfl, q _ (I5.hok.fresh (Nat.le_refl _))⟩
    exact ⟨by rw [List.length_reverse]; exact hz, _, 0, r.reverse, Heap.get?_push_size _ rfl⟩
  · obtain ⟨its, r, ht, hz⟩ := I5.tuple hx
    have hlen := r.length
    refine tail_any (ops := [.ref a, .ref s4.heap.objs.size]) ht.typeIs PyProof.Rows.slot_tuple_getitem.lookup ?_ (by with_unfolding_all rfl)
    refine getItem_tuple_back ht hsl ps ?_ (by rw [List.size_toArray]; omega)
    refine ⟨.ref _, _, I5.laid (t' := s4.toks) (o := .tup xs.reverse) (fun b ob q => Heap.get?_push_of_some _ q) (Nat.le_refl _) ?_, rfl, q _ (I5.hok.fresh (Nat.le_refl _))⟩
    exact ⟨by rw [List.length_reverse]; exact hz, _, r.reverse, IsTup.new _ _⟩
end Mv

/-! Mv3: each operation of the evaluator is the layer's. -/
namespace Mv
open PySem PySem.Spec PyProof.Rows L2

/-- what must be so where code runs -/
structure Good (X : Cx) : Prop where
  calm : X.calm = true
  hg : X.A.guards = some []
  hu : X.A.units + 150 < cLine
  nd : X.N.Nodup

section
variable {K : PySem.W.Frag} {H : Hp} {ι : Nat → Addr} {n : Nat} {L : LH}
theorem FrzAt.seq {a : Addr} {xs : List V} (h : FrzAt K H a xs) : SqL K H a xs := by
  rcases h with ⟨o, h⟩ | h
  · exact .inl (.inr ⟨o, h⟩)
  · rcases h with (h | ⟨o, h⟩) | h
    · cases h
    · cases h
    · exact .inr h
/-- the list that is read -/
theorem Rep.listOf (R : Rep K ι H L) {k : Nat} {ds : List LV} (h : itemsL L (.ref k) = some ds) : ∃ xs, SqL K H (ι k) xs ∧ RVs K H ι L.length xs ds := by
  dsimp only [itemsL] at h
  cases e : L[k]? with
  | none => rw [e] at h; cases h
  | some o =>
    rw [e] at h
    cases o with
    | lst ys =>
      cases h
      obtain ⟨xs, h1, h2⟩ := R.ob k _ e
      exact ⟨xs, .inl (.inl h1), h2⟩
    | frz ns =>
      cases h
      exact ⟨_, (show FrzAt K H (ι k) (ns.map V.int) from R.ob k _ e).seq, RVs.ints ns⟩
    | dic _ => cases h
/-- what is read: a list or a tuple -/
theorem Rep.seq (R : Rep K ι H L) {d : LV} {v : V} {ds : List LV} (r : RV K H ι L.length v d) (h : Mv.items L d = some ds) : ∃ a xs, v = .ref a ∧ (SqL K H a xs ∨ SqT K H a xs) ∧ RVs K H ι L.length xs ds := by
  cases d with
  | tup ys =>
    cases h
    cases r with
    | tup hs hr => exact ⟨_, _, rfl, .inr hs, hr⟩
  | ref k =>
    cases r
    obtain ⟨xs, h1, h2⟩ := R.listOf h
    exact ⟨_, xs, rfl, .inl h1, h2⟩
  | non => cases h
  | bl _ => cases h
  | int _ => cases h
  | str _ => cases h
theorem dpAll_of {f : LV → Option PyData} (hf : ∀ d v pd, f d = some pd → RV K H ι n v d → Dp K H v pd) : ∀ {ds : List LV} {vs : List V} {pds : List PyData}, optAll f ds = some pds → RVs K H ι n vs ds → DpAll K H vs pds
  | [], _, _, e, r => by
    cases r
    cases e
    exact .nil
  | d :: ds, _, _, e, r => by
    cases r with
    | cons r1 r2 =>
      unfold optAll at e
      cases e1 : f d with
      | none => rw [e1] at e; cases e
      | some pd =>
        cases e2 : optAll f ds with
        | none => rw [e1, e2] at e; cases e
        | some pds =>
          rw [e1, e2] at e
          cases e
          exact .cons (hf d _ pd e1 r1) (dpAll_of hf e2 r2)
theorem dpAll_ints : ∀ ns : List Int, DpAll K H (ns.map V.int) (ns.map PyData.int)
  | [] => .nil
  | i :: r => .cons (.int i) (dpAll_ints r)
theorem dp_of (R : Rep K ι H L) : ∀ (k : Nat) (d : LV) (v : V) (pd : PyData), toD L k d = some pd → RV K H ι L.length v d → Dp K H v pd
  | 0, _, _, _, e, _ => by cases e
  | k + 1, d, v, pd, e, r => by
    cases d with
    | non => cases r; cases e; exact .non
    | bl b => cases r; cases e; exact .bl b
    | int i => cases r; cases e; exact .int i
    | str x => cases r; cases e; exact .str x
    | tup ds =>
      cases r with
      | tup hs hr =>
        obtain ⟨pds, e1, e2⟩ := Option.map_eq_some_iff.mp e
        subst e2
        exact .tup hs (dpAll_of (dp_of R k) e1 hr)
    | ref j =>
      cases r
      have e : (match L[j]? with
        | some (.lst xs) => (optAll (toD L k) xs).map .list
        | some (.frz ns) => some (.list (ns.map .int))
        | _ => none) = some pd := e
      cases hl : L[j]? with
      | none => rw [hl] at e; cases e
      | some o =>
        rw [hl] at e
        cases o with
        | lst xs =>
          obtain ⟨pds, e1, e2⟩ := Option.map_eq_some_iff.mp e
          subst e2
          obtain ⟨ys, h1, h2⟩ := R.ob j _ hl
          exact .lst (.inl (.inl h1)) (dpAll_of (dp_of R k) e1 h2)
        | frz ns =>
          cases e
          exact .lst (show FrzAt K H (ι j) (ns.map V.int) from R.ob j _ hl).seq (dpAll_ints ns)
        | dic _ => cases e
theorem flat_rel {v : V} {d : LV} (r : RV K H ι n v d) (h : flat d = true) : flatV v = true := by
  cases d <;> first | (cases r; rfl) | cases h
theorem flat_all : ∀ {ds : List LV} {vs : List V}, RVs K H ι n vs ds → ds.all flat = true → vs.all flatV = true
  | [], _, r, _ => by cases r; rfl
  | d :: ds, _, r, h => by
    cases r with
    | cons r1 r2 =>
      rw [List.all_cons, Bool.and_eq_true] at h ⊢
      exact ⟨flat_rel r1 h.1, flat_all r2 h.2⟩
theorem flatEq_rel {v u : V} {d e : LV} (r : RV K H ι n v d) (q : RV K H ι n u e) (hd : flat d = true) (he : flat e = true) : L2.eqV v u = flatEq d e := by
  cases d <;> first | (cases hd; done) | (cases r; cases e <;> first | (cases he; done) | (cases q; rfl))
theorem inV_rel {x : V} {d : LV} (r : RV K H ι n x d) (hd : flat d = true) : ∀ {ds : List LV} {vs : List V}, RVs K H ι n vs ds → ds.all flat = true → inV x vs = inSeq d ds
  | [], _, q, _ => by cases q; rfl
  | e :: ds, _, q, h => by
    cases q with
    | cons q1 q2 =>
      rw [List.all_cons, Bool.and_eq_true] at h
      unfold inV inSeq
      rw [List.any_cons, List.any_cons, flatEq_rel q1 r h.1 hd]
      have ih := inV_rel r hd q2 h.2
      unfold inV inSeq at ih
      rw [ih]
theorem line_of {k : Nat} (h : small k = true) : k ≤ sizeLine := of_decide_eq_true h
end

/-! ### operators -/
def opOf : BOp → Operator
  | .add => .Add
  | .sub => .Sub
  | .mul => .Mult
  | .fdiv => .FloorDiv
  | .mod => .Mod
  | .pow => .Pow
def rB (K : PySem.W.Frag) : BOp → R2
  | .add => fun x y H Q => rI0 (fun i j => .int (i + j)) x y H Q ∨ (∃ i j, x = .str i ∧ y = .str j ∧ i.length + j.length ≤ sizeLine ∧ Q (.str (i ++ j)) H) ∨ rCatA K x y H Q ∨ rCat x y H Q
  | .sub => rI0 fun i j => .int (i - j)
  | .mul => fun x y H Q => rI CMul (fun i j => .int (i * j)) x y H Q ∨ rI CMulW (fun i j => .int (i * j)) x y H Q ∨ rRep x y H Q ∨ rMulT K x y H Q
  | .fdiv => rI CDivW fun i j => .int (i / j)
  | .mod => rI (fun _ j => 0 < j) fun i j => .int (i % j)
  | .pow => rI CPow fun i j => .int (i ^ j.toNat)
theorem rB_ok {X : Cx} : ∀ op : BOp, OpR X (binaryOp (opOf op)) (rB X.K op)
  | .add => op_add.or (op_add_str.or (op_catA.or op_cat))
  | .sub => op_sub
  | .mul => op_mul.or (op_mulW.or (op_rep.or op_mulT))
  | .fdiv => op_fdivW
  | .mod => op_mod
  | .pow => op_pow
section
variable {K : PySem.W.Frag} {W : XW} {σV : L2.St} {σ : LSt} {ι : Nat → Addr} {L : LH} {H : Hp} {Q : VK}
theorem mul_ok {i j : Int} (h : mulOk i j = true) : CMul i j ∨ CMulW i j := by
  have h := of_decide_eq_true h
  rcases h with h | h | h
  · exact .inl (.inl h)
  · exact .inl (.inr h)
  · exact .inr h
theorem div_ok {i j : Int} (h : divOk j = true) : CDivW i j := of_decide_eq_true (p := 0 < j ∧ j.natAbs.log2 < 9000) h
theorem pow_ok {i j : Int} (h : decide (0 ≤ j ∧ j ≤ 1000000 ∧ i.natAbs < 2 ^ 64) = true) : CPow i j := of_decide_eq_true (p := 0 ≤ j ∧ j ≤ 1000000 ∧ i.natAbs < 2 ^ 64) h
theorem RVs.nil_of {xs : List V} {n : Nat} (h : RVs K H ι n xs []) : xs = [] := by cases h; rfl
theorem RVs.nil_iff {xs : List V} {ds : List LV} {n : Nat} (h : RVs K H ι n xs ds) : xs = [] ↔ ds = [] := by
  cases h <;> simp
theorem RV.intV {v : V} {i : Int} {n : Nat} (h : RV K H ι n v (.int i)) : v = .int i := by cases h; rfl
theorem RV.strV {v : V} {i : Str} {n : Nat} (h : RV K H ι n v (.str i)) : v = .str i := by cases h; rfl
theorem RV.blV {v : V} {i : Bool} {n : Nat} (h : RV K H ι n v (.bl i)) : v = .bl i := by cases h; rfl
theorem RV.tupV {v : V} {i : List LV} {n : Nat} (h : RV K H ι n v (.tup i)) : ∃ a xs, v = .ref a ∧ SqT K H a xs ∧ RVs K H ι n xs i := by cases h; exact ⟨_, _, rfl, by assumption, by assumption⟩
theorem RV.refV {v : V} {i : Nat} {n : Nat} (h : RV K H ι n v (.ref i)) : v = .ref (ι i) := by cases h; rfl
/-- a new tuple as a value -/
theorem tup_new {p : Addr} {xs : List V} {ds : List LV} {n : Nat} (hp : H p = none) (r : RVs K H ι n xs ds) : RV K (upd H p (.tup xs)) ι n (.ref p) (.tup ds) :=
  .tup (.inl (.inl upd_same)) (r.mono (Ev.fresh hp))
/-- a new list -/
theorem lst_new {p : Addr} {xs : List V} {ds : List LV} (hp : H p = none) (r : RVs K H ι L.length xs ds) : RO K (upd H p (.lst xs)) (ext ι L.length p) (L.length + 1) p (.lst ds) :=
  ⟨xs, upd_same, r.mono (Ev.new hp)⟩
theorem none_at {f : LH → Option (Out LV)} (h : At K W (RVr K) σV σ ι L (f L) Q H) (e : f L = none) : False := by
  rw [e] at h
  exact h.none
theorem bin_at {d e : LV} {x y : V} (op : BOp) (h : At K W (RVr K) σV σ ι L (binV op d e L) Q H) (rx : RV K H ι L.length x d) (ry : RV K H ι L.length y e) : rB K op x y H Q := by
  cases op with
  | sub =>
    cases d <;> cases e <;> first
      | exact h.no.elim
      | (cases rx; cases ry; exact ⟨_, _, rfl, rfl, h.ret (.int _)⟩)
  | fdiv =>
    cases d <;> cases e <;> first
      | exact h.no.elim
      | (obtain ⟨c, h⟩ := h.chk; cases rx; cases ry; exact ⟨_, _, rfl, rfl, div_ok c, h.ret (.int _)⟩)
  | mod =>
    cases d <;> cases e <;> first
      | exact h.no.elim
      | (obtain ⟨c, h⟩ := h.chk; cases rx; cases ry; exact ⟨_, _, rfl, rfl, of_decide_eq_true c, h.ret (.int _)⟩)
  | pow =>
    cases d <;> cases e <;> first
      | exact h.no.elim
      | (obtain ⟨c, h⟩ := h.chk; cases rx; cases ry; exact ⟨_, _, rfl, rfl, pow_ok c, h.ret (.int _)⟩)
  | add =>
    cases d with
    | int i =>
      cases e with
      | int j => cases rx; cases ry; exact .inl ⟨_, _, rfl, rfl, h.ret (.int _)⟩
      | _ => exact h.no.elim
    | str i =>
      cases e with
      | str j =>
        obtain ⟨c, h⟩ := h.chk
        cases rx
        cases ry
        exact .inr (.inl ⟨_, _, rfl, rfl, line_of c, h.ret (.str _)⟩)
      | _ => exact h.no.elim
    | tup as =>
      cases e with
      | tup bs =>
        obtain ⟨c, h⟩ := h.chk
        obtain ⟨a, xs, rfl, ha, ra⟩ := rx.tupV
        obtain ⟨b, ys, rfl, hb, rb⟩ := ry.tupV
        refine .inr (.inr (.inl ⟨a, b, xs, ys, rfl, rfl, ha, hb, by rw [ra.length, rb.length]; exact line_of c, fun e => ?_, fun e1 e2 => ?_, fun e1 e2 p hp => ?_⟩))
        · rw [ra.nil_iff.mp e] at h
          exact h.ret (.tup hb rb)
        · rw [rb.nil_iff.mp e2, List.append_nil] at h
          exact h.ret (.tup ha ra)
        · exact h.retF hp (tup_new hp (ra.append rb))
      | _ => exact h.no.elim
    | ref a =>
      cases e with
      | ref b =>
        have h : At K W (RVr K) σV σ ι L (catR L[a]? L[b]? L) Q H := h
        generalize e1 : L[a]? = o1 at h
        generalize e2 : L[b]? = o2 at h
        unfold catR at h
        split at h
        · rename_i xs ys
          obtain ⟨c, h⟩ := h.chk
          obtain rfl := rx.refV
          obtain rfl := ry.refV
          obtain ⟨us, h1, r1⟩ := h.rep.ob a _ e1
          obtain ⟨ws, h2, r2⟩ := h.rep.ob b _ e2
          refine .inr (.inr (.inr ⟨_, _, us, ws, rfl, rfl, h1, h2, by rw [r1.length, r2.length]; exact line_of c, fun p hp => ?_⟩))
          exact h.new hp (lst_new hp (r1.append r2))
        · exact h.no.elim
      | _ => exact h.no.elim
    | non => exact h.no.elim
    | bl _ => exact h.no.elim
  | mul =>
    cases d with
    | int i =>
      cases e with
      | int j =>
        obtain ⟨c, h⟩ := h.chk
        cases rx
        cases ry
        rcases mul_ok c with c | c
        · exact .inl ⟨_, _, rfl, rfl, c, h.ret (.int _)⟩
        · exact .inr (.inl ⟨_, _, rfl, rfl, c, h.ret (.int _)⟩)
      | _ => exact h.no.elim
    | tup as =>
      cases e with
      | int k =>
        obtain ⟨c, h⟩ := h.chk
        rw [Bool.and_eq_true] at c
        obtain ⟨a, xs, rfl, ha, ra⟩ := rx.tupV
        obtain rfl := ry.intV
        have c1 := of_decide_eq_true c.1
        refine .inr (.inr (.inr ⟨a, k, xs, rfl, rfl, ha, c1.1, c1.2, by rw [ra.length]; exact line_of c.2, fun e => ?_, fun e p hp => ?_⟩))
        · have e' : reps as k = as := by
            unfold reps
            rcases e with e | e
            · rw [ra.nil_iff.mp e]
              simp
            · subst e
              simp
          rw [e'] at h
          exact h.ret (.tup ha ra)
        · exact h.retF hp (tup_new hp (ra.flat k.toNat))
      | _ => exact h.no.elim
    | ref a =>
      cases e with
      | int k =>
        have h : At K W (RVr K) σV σ ι L (repR k L[a]? L) Q H := h
        generalize e1 : L[a]? = o1 at h
        unfold repR at h
        split at h
        · rename_i xs
          obtain ⟨c, h⟩ := h.chk
          rw [Bool.and_eq_true] at c
          have c1 := of_decide_eq_true c.1
          obtain rfl := rx.refV
          obtain rfl := ry.intV
          obtain ⟨us, h1, r1⟩ := h.rep.ob a _ e1
          refine .inr (.inr (.inl ⟨_, k, us, rfl, rfl, h1, c1.1, c1.2, by rw [r1.length]; exact line_of c.2, fun p hp => ?_⟩))
          exact h.new hp (lst_new hp (r1.flat k.toNat))
        · exact h.no.elim
      | _ => exact h.no.elim
    | non => exact h.no.elim
    | bl _ => exact h.no.elim
    | str _ => exact h.no.elim
end
end Mv

/-! Mv4: comparisons, subscripts, stores, built-ins, methods. -/
namespace Mv
open PySem PySem.Spec PyProof.Rows L2

/-! ### comparisons -/
def copOf : COp → CmpOp
  | .eq => .Eq
  | .ne => .NotEq
  | .lt => .Lt
  | .le => .LtE
  | .gt => .Gt
  | .ge => .GtE
  | .inn => .In
  | .nin => .NotIn
def rC (K : PySem.W.Frag) : COp → R2
  | .eq => fun x y H Q => rEqD K x y H Q ∨ rEq x y H Q
  | .ne => fun x y H Q => rNeD K x y H Q ∨ rNe x y H Q
  | .lt => fun x y H Q => rI0 (fun i j => .bl (decide (i < j))) x y H Q ∨ rLtT K x y H Q
  | .le => rI0 fun i j => .bl (decide (i ≤ j))
  | .gt => rI0 fun i j => .bl (decide (j < i))
  | .ge => rI0 fun i j => .bl (decide (j ≤ i))
  | .inn => rIn K false
  | .nin => rIn K true
theorem rC_ok {X : Cx} (G : Good X) : ∀ op : COp, OpR X (compareOp (copOf op)) (rC X.K op)
  | .eq => (op_eqD (by have := G.hu; omega)).or op_eq
  | .ne => (op_neD (by have := G.hu; omega)).or op_ne
  | .lt => op_lt.or (op_ltT (by have := G.hu; omega))
  | .le => op_le
  | .gt => op_gt
  | .ge => op_ge
  | .inn => op_in_seq
  | .nin => op_notIn_seq
section
variable {K : PySem.W.Frag} {W : XW} {σV : L2.St} {σ : LSt} {ι : Nat → Addr} {L : LH} {H : Hp} {Q : VK}
theorem eqV_of (R : Rep K ι H L) {d e : LV} {x y : V} {b : Bool} (h : Mv.eqVd L d e = some b) (rx : RV K H ι L.length x d) (ry : RV K H ι L.length y e) :
    ∃ pd pe, Dp K H x pd ∧ Dp K H y pe ∧ SeqAt.shaped pd = true ∧ SeqAt.shaped pe = true ∧ PyData.eqv pd pe = b := by
  unfold Mv.eqVd at h
  split at h
  · rename_i pd pe e1 e2
    split at h
    · rename_i hs
      rw [Bool.and_eq_true] at hs
      exact ⟨pd, pe, dp_of R _ _ _ _ e1 rx, dp_of R _ _ _ _ e2 ry, hs.1, hs.2, Option.some.inj h⟩
    · cases h
  · cases h
theorem eqV_cas {d e : LV} {x y : V} {b : Bool} (h : Mv.eqV L d e = some b) (rx : RV K H ι L.length x d) (ry : RV K H ι L.length y e) : Mv.eqVd L d e = some b ∨ ∃ s t : Str, x = .str s ∧ y = .str t ∧ b = decide (s = t) := by
  unfold Mv.eqV at h
  cases e1 : strPair d e with
  | none => rw [e1] at h; exact .inl h
  | some c =>
    rw [e1] at h
    cases h
    unfold strPair at e1
    split at e1
    · cases e1
      cases rx
      cases ry
      exact .inr ⟨_, _, rfl, rfl, rfl⟩
    · cases e1
theorem cmp_at {d e : LV} {x y : V} (op : COp) (h : At K W (RVr K) σV σ ι L (cmpV op d e L) Q H) (rx : RV K H ι L.length x d) (ry : RV K H ι L.length y e) : rC K op x y H Q := by
  cases op with
  | eq =>
    obtain ⟨b, hb, h⟩ := At.look (g := fun L => Mv.eqV L d e) h
    rcases eqV_cas hb rx ry with hb | ⟨s, t, rfl, rfl, rfl⟩
    · obtain ⟨pd, pe, h1, h2, h3, h4, h5⟩ := eqV_of h.rep hb rx ry
      exact .inl ⟨pd, pe, h1, h2, h3, h4, by rw [h5]; exact h.ret (.bl _)⟩
    · refine .inr ⟨rfl, ?_⟩
      have e : decide (V.str s = V.str t) = decide (s = t) := by simp
      rw [e]
      exact h.ret (.bl _)
  | ne =>
    obtain ⟨b, hb, h⟩ := At.look (g := fun L => Mv.eqV L d e) h
    rcases eqV_cas hb rx ry with hb | ⟨s, t, rfl, rfl, rfl⟩
    · obtain ⟨pd, pe, h1, h2, h3, h4, h5⟩ := eqV_of h.rep hb rx ry
      exact .inl ⟨pd, pe, h1, h2, h3, h4, by rw [h5]; exact h.ret (.bl _)⟩
    · refine .inr ⟨rfl, ?_⟩
      have e : (!decide (V.str s = V.str t)) = !decide (s = t) := by simp
      first
        | (rw [e]; exact h.ret (.bl _))
        | (have e2 : decide (V.str s ≠ V.str t) = !decide (s = t) := by simp
           rw [e2]
           exact h.ret (.bl _))
  | lt =>
    cases d with
    | int i =>
      cases e with
      | int j => cases rx; cases ry; exact .inl ⟨_, _, rfl, rfl, h.ret (.bl _)⟩
      | _ => exact h.no.elim
    | tup as =>
      cases e with
      | tup bs =>
        obtain ⟨m, e1, h⟩ := h.ofO
        obtain ⟨n, e2, h⟩ := h.ofO
        obtain ⟨a, xs, rfl, ha, ra⟩ := rx.tupV
        obtain ⟨b, ys, rfl, hb, rb⟩ := ry.tupV
        rw [ra.toInts e1] at ha
        rw [rb.toInts e2] at hb
        exact .inr ⟨a, b, m, n, rfl, rfl, ha, hb, h.ret (.bl _)⟩
      | _ => exact h.no.elim
    | _ => cases e <;> exact h.no.elim
  | le =>
    cases d <;> cases e <;> first
      | exact h.no.elim
      | (cases rx; cases ry; exact ⟨_, _, rfl, rfl, h.ret (.bl _)⟩)
  | gt =>
    cases d <;> cases e <;> first
      | exact h.no.elim
      | (cases rx; cases ry; exact ⟨_, _, rfl, rfl, h.ret (.bl _)⟩)
  | ge =>
    cases d <;> cases e <;> first
      | exact h.no.elim
      | (cases rx; cases ry; exact ⟨_, _, rfl, rfl, h.ret (.bl _)⟩)
  | inn =>
    obtain ⟨ys, hy, h⟩ := At.look (g := fun L => Mv.items L e) h
    obtain ⟨c, h⟩ := h.chk
    rw [Bool.and_eq_true] at c
    obtain ⟨a, xs, rfl, hs, hr⟩ := h.rep.seq ry hy
    refine ⟨a, xs, rfl, hs, flat_rel rx c.1, flat_all hr c.2, ?_⟩
    rw [inV_rel rx c.1 hr c.2]
    exact h.ret (.bl _)
  | nin =>
    obtain ⟨ys, hy, h⟩ := At.look (g := fun L => Mv.items L e) h
    obtain ⟨c, h⟩ := h.chk
    rw [Bool.and_eq_true] at c
    obtain ⟨a, xs, rfl, hs, hr⟩ := h.rep.seq ry hy
    refine ⟨a, xs, rfl, hs, flat_rel rx c.1, flat_all hr c.2, ?_⟩
    rw [inV_rel rx c.1 hr c.2]
    exact h.ret (.bl _)

/-! ### subscripts -/
def rIxD : R2 := fun x y H Q => ∃ a v, x = .ref a ∧ DGet H a y (some v) ∧ Q v H
def rIxA (K : PySem.W.Frag) : R2 := fun x y H Q => rIx K x y H Q ∨ rIxD x y H Q
end
theorem ix_dict {X : Cx} (hu : X.A.units + 1 < cLine) : IxR X rIxD := by
  intro value slice pins s σ H x y v u Q I rx ry h hs
  obtain ⟨a, z, rfl, g, q⟩ := h
  cases rx
  exact tail_any (dict_typeIs I g) PySem.F.slot_dict_getitem.lookup (d_getItem hu I g ry fun w' s3 I3 rw' => ⟨z, H, I3, rw', q⟩) hs
theorem ix_any {X : Cx} (G : Good X) : IxR X (rIxA X.K) := ix_seq.or (ix_dict (by have := G.hu; omega))
theorem atI_rel {K : PySem.W.Frag} {H : Hp} {ι : Nat → Addr} {n : Nat} {xs : List V} {ds : List LV} {i : Int} {d : LV} (r : RVs K H ι n xs ds) (h : atI ds i = some d) : ∃ v, atI xs i = some v ∧ RV K H ι n v d := by
  unfold atI at h ⊢
  rw [r.length]
  cases e : ixN ds.length i with
  | none => rw [e] at h; cases h
  | some j =>
    rw [e] at h
    exact r.get h
theorem atI_map {α β : Type} (f : α → β) (xs : List α) (i : Int) : atI (xs.map f) i = (atI xs i).map f := by
  unfold atI
  rw [List.length_map]
  cases ixN xs.length i with
  | none => rfl
  | some j => exact List.getElem?_map
theorem keyOf_rel {K : PySem.W.Frag} {H : Hp} {ι : Nat → Addr} {n : Nat} {d : LV} {x : V} {k : Key} (h : keyOf d = some k) (r : RV K H ι n x d) : x = kV k := by
  cases d <;> first | (cases h; done) | (cases r; cases h; rfl)
section
variable {K : PySem.W.Frag} {W : XW} {σV : L2.St} {σ : LSt} {ι : Nat → Addr} {L : LH} {H : Hp} {Q : VK}
theorem ix_at {d e : LV} {x y : V} (h : At K W (RVr K) σV σ ι L (ixV d e L) Q H) (rx : RV K H ι L.length x d) (ry : RV K H ι L.length y e) : rIxA K x y H Q := by
  cases d with
  | tup as =>
    cases e with
    | int i =>
      obtain ⟨d, e, h⟩ := h.ofO
      obtain ⟨a, xs, rfl, ha, ra⟩ := rx.tupV
      obtain rfl := ry.intV
      obtain ⟨v, hv, rv⟩ := atI_rel ra e
      exact .inl (.inr (.inl ⟨a, xs, i, v, rfl, rfl, ha, hv, h.ret rv⟩))
    | _ => exact h.no.elim
  | str s =>
    cases e with
    | int i =>
      obtain ⟨c, h⟩ := h.chk
      obtain ⟨d, e, h⟩ := h.ofO
      obtain rfl := rx.strV
      obtain rfl := ry.intV
      exact .inl (.inr (.inr ⟨s, i, d, rfl, rfl, line_of c, e, h.ret (.str _)⟩))
    | _ => exact h.no.elim
  | ref a =>
    obtain rfl := rx.refV
    have h : At K W (RVr K) σV σ ι L (ixR L[a]? e L) Q H := h
    generalize e1 : L[a]? = o1 at h
    cases o1 with
    | none => exact h.no.elim
    | some o1 =>
      cases o1 with
      | lst xs =>
        cases e with
        | int i =>
          obtain ⟨d, e, h⟩ := h.ofO
          obtain rfl := ry.intV
          obtain ⟨ys, h1, r1⟩ := h.rep.ob a _ e1
          obtain ⟨v, hv, rv⟩ := atI_rel r1 e
          exact .inl (.inl ⟨_, ys, i, v, rfl, rfl, .inl (.inl h1), hv, h.ret rv⟩)
        | _ => exact h.no.elim
      | frz ns =>
        cases e with
        | int i =>
          obtain ⟨d, e, h⟩ := h.ofO
          obtain rfl := ry.intV
          have h1 := (show FrzAt K H (ι a) (ns.map V.int) from h.rep.ob a _ e1).seq
          exact .inl (.inl ⟨_, _, i, .int d, rfl, rfl, h1, by rw [atI_map, e]; rfl, h.ret (.int _)⟩)
        | _ => exact h.no.elim
      | dic kvs =>
        obtain ⟨d, e2, h⟩ := At.ofO (o := (keyOf e).bind (dval kvs)) h
        obtain ⟨ys, h1, r1⟩ := h.rep.ob a _ e1
        cases ek : keyOf e with
        | none => rw [ek] at e2; cases e2
        | some k =>
          rw [ek] at e2
          obtain ⟨v, hv, rv⟩ := r1.val (k := k) (d := d) e2
          refine .inr ⟨_, v, rfl, ?_, h.ret rv⟩
          rw [keyOf_rel ek ry, ← hv]
          exact DGet.k h1
  | _ => exact h.no.elim
end
end Mv

/-! Mv5: slices, stores, built-ins, isinstance, methods, what is walked. -/
namespace Mv
open PySem PySem.Spec PyProof.Rows L2

section
variable {α β : Type} {K : PySem.W.Frag} {W : XW} {R : Rl α β} {σV : L2.St} {σ : LSt} {ι : Nat → Addr} {L : LH} {H : Hp} {Q : β → Hp → Prop}
/-- an object is changed, then on -/
theorem At.put {f : Unit → M α} {k : Nat} {o o' : LO} {u : HO} (h : At K W R σV σ ι L (M.bind (setO k o') f L) Q H) (hk : L[k]? = some o) (m : isMut o = true) (m' : isMut o' = true) (q : RO K (upd H (ι k) u) ι L.length (ι k) o') :
    At K W R σV σ ι (L.set k o') (f () (L.set k o')) Q (upd H (ι k) u) := by
  obtain ⟨a, b, o1, e, p⟩ := h
  obtain ⟨w, hw, mw⟩ := (a.ob k o hk).some m
  have ev : Ev K ι H L.length ι (upd H (ι k) u) (L.set k o').length := by
    rw [List.length_set]
    exact Ev.set hw mw
  have e : f () (L.set k o') = some o1 := e
  refine ⟨a.set hk m m' q, b.mono ev, o1, e, ?_⟩
  cases o1 with
  | ok d L' => exact fun ι2 H2 v2 ev2 rp2 rv2 => p ι2 H2 v2 (ev.trans ev2) rp2 rv2
  | ex c fs L' => exact fun ι2 H2 ev2 rp2 => p ι2 H2 (ev.trans ev2) rp2
theorem At.put0 {k : Nat} {o o' : LO} {u : HO} {Q : Unit → Hp → Prop} (h : At K W Eqr σV σ ι L (setO k o' L) Q H) (hk : L[k]? = some o) (m : isMut o = true) (m' : isMut o' = true) (q : RO K (upd H (ι k) u) ι L.length (ι k) o') :
    Q () (upd H (ι k) u) := by
  obtain ⟨a, b, o1, e, p⟩ := h
  obtain ⟨w, hw, mw⟩ := (a.ob k o hk).some m
  have ev : Ev K ι H L.length ι (upd H (ι k) u) (L.set k o').length := by
    rw [List.length_set]
    exact Ev.set hw mw
  have e : some (Out.ok () (L.set k o')) = some o1 := e
  cases e
  exact p ι _ () ev (a.set hk m m' q) rfl
end

section
variable {K : PySem.W.Frag} {W : XW} {σV : L2.St} {σ : LSt} {ι : Nat → Addr} {L : LH} {H : Hp} {Q : VK}
/-! ### slices -/
def rSl (K : PySem.W.Frag) : V → Option Int → Option Int → Hp → VK → Prop := fun x lo hi H Q => rSlL K x lo hi H Q ∨ rSlA K x lo hi H Q
theorem rSl_ok {X : Cx} : SlR X (rSl X.K) := sl_list.or sl_tupA
theorem cut_rel {xs : List V} {ds : List LV} {n : Nat} {lo hi : Option Int} (r : RVs K H ι n xs ds) : RVs K H ι n (cutV xs lo hi) (cut ds lo hi) := by
  unfold cutV cut
  rw [r.length]
  exact (r.drop _).take _
theorem sl_at {d : LV} {x : V} {lo hi : Option Int} (h : At K W (RVr K) σV σ ι L (slV d lo hi L) Q H) (rx : RV K H ι L.length x d) : rSl K x lo hi H Q := by
  cases d with
  | tup as =>
    obtain ⟨a, xs, rfl, ha, ra⟩ := rx.tupV
    refine .inr ⟨a, xs, rfl, ha, fun e => ?_, fun _ p hp => ?_⟩
    · have e' : cut as lo hi = as := by
        unfold cut
        rw [← ra.length, e.1, e.2, ra.length]
        simp
      have h : At K W (RVr K) σV σ ι L (M.ret (.tup (cut as lo hi)) L) Q H := h
      rw [e'] at h
      exact h.ret (.tup ha ra)
    · exact h.retF hp (tup_new hp (cut_rel ra))
  | ref a =>
    obtain rfl := rx.refV
    obtain ⟨ds, e, h⟩ := At.look (g := fun L => itemsL L (.ref a)) h
    obtain ⟨xs, hx, rx⟩ := h.rep.listOf e
    exact .inl ⟨_, xs, rfl, hx, fun p hp => h.new hp (lst_new hp (cut_rel rx))⟩
  | _ => exact h.no.elim
theorem rev_at {d : LV} {x : V} (h : At K W (RVr K) σV σ ι L (revV d L) Q H) (rx : RV K H ι L.length x d) : rRev K x H Q := by
  cases d with
  | tup as =>
    obtain ⟨a, xs, rfl, ha, ra⟩ := rx.tupV
    exact ⟨a, xs, rfl, .inr ⟨ha, fun p hp => h.retF hp (tup_new hp ra.reverse)⟩⟩
  | ref a =>
    obtain rfl := rx.refV
    obtain ⟨ds, e, h⟩ := At.look (g := fun L => itemsL L (.ref a)) h
    obtain ⟨xs, hx, rx⟩ := h.rep.listOf e
    exact ⟨_, xs, rfl, .inl ⟨hx, fun p hp => h.new hp (lst_new hp rx.reverse)⟩⟩
  | _ => exact h.no.elim

/-! ### o[i] = v -/
def rSetD : V → V → V → Hp → (Hp → Prop) → Prop := fun o i v H Q => ∃ a H', o = .ref a ∧ DPut H a i v H' ∧ Q H'
def rSet : V → V → V → Hp → (Hp → Prop) → Prop := fun o i v H Q => rSetL o i v H Q ∨ rSetD o i v H Q
theorem set_any {X : Cx} (hu : X.A.units + 1 < cLine) : PSet X rSet := by
  intro pins s σ H o i v ov iv u Q I ro ri rv h
  rcases h with h | ⟨a, H', rfl, g, q⟩
  · exact set_list pins s σ H o i v ov iv u Q I ro ri rv h
  · cases ro
    exact d_setItem hu I g ri rv fun s4 I4 => ⟨H', I4, q⟩
theorem set_at {d e f : LV} {o i v : V} {Q : Unit → Hp → Prop} (h : At K W Eqr σV σ ι L (setV d e f L) Q H) (ro : RV K H ι L.length o d) (ri : RV K H ι L.length i e) (rv : RV K H ι L.length v f) : rSet o i v H (Q ()) := by
  cases d with
  | ref a =>
    obtain rfl := ro.refV
    have h : At K W Eqr σV σ ι L (setR a f L[a]? e L) Q H := h
    generalize e1 : L[a]? = o1 at h
    cases o1 with
    | none => exact h.no.elim
    | some o1 =>
      cases o1 with
      | lst xs =>
        cases e with
        | int k =>
          obtain ⟨j, ej, h⟩ := h.ofO
          obtain rfl := ri.intV
          obtain ⟨ys, h1, r1⟩ := h.rep.ob a _ e1
          refine .inl ⟨_, ys, k, j, rfl, rfl, h1, by rw [r1.length]; exact ej, h.put0 e1 rfl rfl ⟨_, upd_same, ?_⟩⟩
          exact (RVs.set rv j r1).mono (Ev.set h1 trivial)
        | _ => exact h.no.elim
      | dic kvs =>
        obtain ⟨k, ek, h⟩ := At.ofO (o := keyOf e) h
        obtain ⟨c, h⟩ := h.chk
        obtain ⟨ys, h1, r1⟩ := h.rep.ob a _ e1
        refine .inr ⟨_, upd H (ι a) (.dK (putK ys k v)), rfl, ?_, h.put0 e1 rfl rfl ⟨_, upd_same, ?_⟩⟩
        · rw [keyOf_rel ek ri]
          exact DPut.k h1 (by rw [r1.length]; exact of_decide_eq_true c)
        · exact (RKV.put rv r1).mono (Ev.set h1 trivial)
      | frz _ => cases e <;> exact h.no.elim
  | _ => exact h.no.elim

/-! ### built-ins -/
def biVal : Bi → Value
  | .len => .builtin "len"
  | .int => .type "int"
  | .str => .type "str"
  | .repr => .builtin "repr"
  | .list => .type "list"
  | .tuple => .type "tuple"
  | .abs => .builtin "abs"
  | .max => .builtin "max"
  | .min => .builtin "min"
  | .sum => .builtin "sum"
  | .all => .builtin "all"
  | .any => .builtin "any"
def biName : Bi → Str
  | .len => "len"
  | .int => "int"
  | .str => "str"
  | .repr => "repr"
  | .list => "list"
  | .tuple => "tuple"
  | .abs => "abs"
  | .max => "max"
  | .min => "min"
  | .sum => "sum"
  | .all => "all"
  | .any => "any"
theorem bi_boot : ∀ b : Bi, bootBuiltins (biName b) = some (biVal b)
  | .len => boot_len
  | .int => by decide +kernel
  | .str => by decide +kernel
  | .repr => by decide +kernel
  | .list => by decide +kernel
  | .tuple => by decide +kernel
  | .abs => by decide +kernel
  | .max => by decide +kernel
  | .min => by decide +kernel
  | .sum => by decide +kernel
  | .all => by decide +kernel
  | .any => by decide +kernel
def rLen (K : PySem.W.Frag) : List V → Hp → VK → Prop := fun xs H Q => (∃ x n, xs = [x] ∧ LenV K x H n ∧ Q (.int n) H) ∨ ∃ a kvs, xs = [V.ref a] ∧ Rd H a (.dK kvs) ∧ Q (.int (kvs.length : Nat)) H
theorem len_any {X : Cx} : CallR X (.builtin "len") (rLen X.K) := by
  intro pins s σ H xs us Q I r h
  rcases h with h | ⟨a, kvs, rfl, e, q⟩
  · exact call_len pins s σ H xs us Q I r h
  · obtain ⟨u, rfl, ru⟩ := vals1 r
    cases ru
    exact d_len I e fun t s' I' => ⟨.int (kvs.length : Nat), H, I', ⟨_, rfl⟩, q⟩
mutual
theorem dp_noDict : ∀ {d : PyData} {v : V}, Dp K H v d → d.hasDict = false
  | .none, _, _ => by simp only [PyData.hasDict]
  | .bool _, _, _ => by simp only [PyData.hasDict]
  | .int _, _, _ => by simp only [PyData.hasDict]
  | .str _, _, _ => by simp only [PyData.hasDict]
  | .list ds, _, h => by
    cases h with
    | lst _ ha => simp only [PyData.hasDict]; exact dpAll_noDict ha
  | .tuple ds, _, h => by
    cases h with
    | tup _ ha => simp only [PyData.hasDict]; exact dpAll_noDict ha
  | .dict _, _, h => by cases h
theorem dpAll_noDict : ∀ {ds : List PyData} {vs : List V}, DpAll K H vs ds → PyData.hasDictAll ds = false
  | [], _, _ => by simp only [PyData.hasDictAll]
  | d :: ds, _, h => by
    cases h with
    | cons h1 h2 => simp only [PyData.hasDictAll, dp_noDict h1, dpAll_noDict h2, Bool.or_self]
end
theorem callR_or {X : Cx} {f : Value} {r r' : List V → Hp → VK → Prop} (a : CallR X f r) (b : CallR X f r') : CallR X f (fun xs H Q => r xs H Q ∨ r' xs H Q) :=
  fun pins s σ H xs us Q I v h => h.elim (a pins s σ H xs us Q I v) (b pins s σ H xs us Q I v)
theorem dicAt_ref {L : LH} {d : LV} {kvs : List (Key × LV)} (e : dicAt L d = some kvs) : ∃ n, d = .ref n ∧ L[n]? = some (.dic kvs) := by
  unfold dicAt at e
  split at e
  · split at e
    · cases e
      exact ⟨_, rfl, by assumption⟩
    · cases e
  · cases e
/-- a dict of flat values -/
def flatVD : V → PyData → Prop
  | .non, d => d = .none
  | .bl b, d => d = .bool b
  | .int i, d => d = .int i
  | .str x, d => d = .str x
  | _, _ => False
inductive FKV : List (Key × V) → List (PyData × PyData) → Prop
  | nil : FKV [] []
  | cons {k : Key} {v : V} {d : PyData} {kvs : List (Key × V)} {ds : List (PyData × PyData)} : flatVD v d → FKV kvs ds → FKV ((k, v) :: kvs) ((keyD k, d) :: ds)
theorem flat_reads {h : Heap} {v : V} {u : Value} {d : PyData} (f : flatVD v d) (r : RelV v u) : Reads h u d [] := by
  cases v with
  | non => cases f; cases r; exact .none
  | bl b => cases f; cases r; exact .bool b
  | int i => cases f; obtain ⟨t, rfl⟩ := r; exact .int i t
  | str x => cases f; obtain ⟨t, rfl⟩ := r; exact .str x t
  | _ => exact False.elim f
theorem key_reads {h : Heap} {k : Key} {u : Value} (e : keyIs k u = true) : Reads h u (keyD k) [] := by
  rcases keyIs_shape e with ⟨i, t, rfl, rfl⟩ | ⟨x, t, rfl, rfl⟩
  · exact .int i t
  · exact .str x t
theorem fkv_reads {P : Program} {w : World} {h : Heap} : ∀ {es : List DictEntry} {kvs : List (Key × V)} {vs : List (Key × Value)} {ds : List (PyData × PyData)}, Pairs (mixKind P w) es vs → KV kvs vs → FKV kvs ds →
    ReadsAll h (es.map (·.key)) (ds.map (·.1)) [] ∧ ReadsAll h (es.map (·.val)) (ds.map (·.2)) []
  | _, _, _, _, .nil, .nil, .nil => ⟨.nil, .nil⟩
  | _, _, _, _, .cons hk hv t, .cons ⟨e1, e2⟩ r, .cons f fs => by
    obtain ⟨i1, i2⟩ := fkv_reads t r fs
    refine ⟨.cons (as := []) (bs := []) (key_reads ?_) i1, .cons (as := []) (bs := []) ?_ i2⟩
    · have z := hk
      rw [← e1] at z
      exact z
    · have q := flat_reads (h := h) f e2
      rw [← hv] at q
      exact q
def rRepr (K : PySem.W.Frag) : List V → Hp → VK → Prop := fun xs H Q => ∃ x d, xs = [x] ∧ Dp K H x d ∧ d.showable = true ∧ d.shown.length ≤ sizeLine ∧ d.depth ≤ 64 ∧ Q (.str d.shown) H
theorem repr_any {X : Cx} (G : Good X) : CallR X (.builtin "repr") (rRepr X.K) := by
  intro pins s σ H xs us Q I r h
  obtain ⟨x, d, rfl, hd, hs, hl, h64, q⟩ := h
  obtain ⟨u, rfl, ru⟩ := vals1 r
  obtain ⟨as, rd⟩ := Dp.reads I d x u hd ru
  have hu := G.hu
  have fin : ∀ (h' : Heap) (u' : Tok) (tk : Nat), (∀ b o, s.heap.get? b = some o → h'.get? b = some o) → EP X pins σ Q (.str d.shown u') { s with heap := h', toks := tk } := fun h' u' tk k => ⟨.str d.shown, H, I.kept k, ⟨_, rfl⟩, q⟩
  cases rd with
  | none => exact PySem.P.repr_of_none (fin _ _ _ fun _ _ e => e)
  | bool b => exact PySem.P.repr_of_bool (fin _ _ _ fun _ _ e => e)
  | int i t => exact PySem.P.repr_of_int (of_decide_eq_true hs) (fin _ _ _ fun _ _ e => e)
  | str x t => exact PySem.P.repr_of_str (fin _ _ _ fun _ _ e => e) hl
  | list h1 h2 h3 h4 => exact repr_of_reads' (.list h1 h2 h3 h4) hs (PyData.noDict_hsm (dp_noDict hd)) G.hg (by omega) (fun _ _ e => e) fin hl
  | tuple h1 h2 h3 h4 => exact repr_of_reads' (.tuple h1 h2 h3 h4) hs (PyData.noDict_hsm (dp_noDict hd)) G.hg (by omega) (fun _ _ e => e) fin hl
  | dict h1 h2 h3 h4 h5 => cases hd
theorem optAll_cons {α β : Type} {f : α → Option β} {x : α} {r : List α} {ys : List β} (h : optAll f (x :: r) = some ys) : ∃ y zs, f x = some y ∧ optAll f r = some zs ∧ ys = y :: zs := by
  unfold optAll at h
  cases e1 : f x with
  | none => rw [e1] at h; cases h
  | some y =>
    cases e2 : optAll f r with
    | none => rw [e1, e2] at h; cases h
    | some zs =>
      rw [e1, e2] at h
      cases h
      exact ⟨y, zs, rfl, rfl, rfl⟩
theorem fkv_of {K : PySem.W.Frag} {H : Hp} {ι : Nat → Addr} {n : Nat} : ∀ {ws : List (Key × V)} {kvs : List (Key × LV)} {ds : List (PyData × PyData)}, RKV K H ι n ws kvs → dicD kvs = some ds → FKV ws ds
  | _, [], _, r, e => by
    cases r
    cases e
    exact .nil
  | _, (k, d) :: kvs, ds, r, e => by
    cases r with
    | cons r1 r2 =>
      obtain ⟨y, ys, e1, e2, rfl⟩ := optAll_cons e
      cases ef : flatD d with
      | none =>
        rw [show (flatD (k, d).snd) = none from ef] at e1
        cases e1
      | some p =>
          rw [show (flatD (k, d).snd) = some p from ef] at e1
          cases e1
          refine .cons ?_ (fkv_of r2 e2)
          cases d <;> first | (cases ef; done) | (cases r1; cases ef; rfl)
def rReprK : List V → Hp → VK → Prop := fun xs H Q => ∃ a kvs ds, xs = [.ref a] ∧ H a = some (.dK kvs) ∧ FKV kvs ds ∧ (PyData.dict ds).showable = true ∧ (PyData.dict ds).shown.length ≤ sizeLine ∧ (PyData.dict ds).depth ≤ 64 ∧ Q (V.str (PyData.dict ds).shown) H
theorem repr_dic {X : Cx} (G : Good X) : CallR X (.builtin "repr") rReprK := by
  intro pins s σ H xs us Q I r h
  obtain ⟨a, kvs, ds, rfl, e, f, hs, hl, h64, q⟩ := h
  obtain ⟨u, rfl, ru⟩ := vals1 r
  cases ru
  obtain ⟨z, low, vs, rel, o, es, ep, h1, hx, h2, _, hp, _⟩ := dk_of I.hok e
  obtain ⟨r1, r2⟩ := fkv_reads (h := s.heap) hp rel f
  have rd : Reads s.heap (.ref a) (.dict ds) (a :: [] ++ []) := .dict h1 hx.1 h2 r1 r2
  have hu := G.hu
  refine repr_of_reads' rd hs (fun _ m => ?_) G.hg (by omega) (fun _ _ e => e) (fun h' u' tk k => ⟨V.str (PyData.dict ds).shown, H, I.kept k, ⟨_, rfl⟩, q⟩) hl
  have m : sysModules = a := by simpa using m
  rw [← m, beq_self_eq_true] at low
  cases low
def rBi (K : PySem.W.Frag) : Bi → List V → Hp → VK → Prop
  | .len => rLen K
  | .int => fun xs H Q => (∃ i, xs = [.int i] ∧ Q (.int i) H) ∨ ∃ k, xs = [.bl k] ∧ Q (.int (if k then 1 else 0)) H
  | .str => fun xs H Q => ∃ i, xs = [.int i] ∧ i.natAbs.log2 < 1920 ∧ Q (.str (toString i)) H
  | .repr => fun xs H Q => rRepr K xs H Q ∨ rReprK xs H Q
  | .list => fun xs H Q => ∃ p ys, xs = [.ref p] ∧ (SqL K H p ys ∨ SqT K H p ys) ∧ ∀ l, H l = none → Q (.ref l) (upd H l (.lst ys))
  | .tuple => fun xs H Q => ∃ p ys, xs = [.ref p] ∧ ((SqL K H p ys ∧ ∀ l, H l = none → Q (.ref l) (upd H l (.tup ys))) ∨ (SqT K H p ys ∧ Q (.ref p) H))
  | .abs => fun xs H Q => ∃ i, xs = [.int i] ∧ Q (.int (if i < 0 then -i else i)) H
  | .max => fun xs H Q => ∃ i j, xs = [.int i, .int j] ∧ Q (.int (if j > i then j else i)) H
  | .min => fun xs H Q => ∃ i j, xs = [.int i, .int j] ∧ Q (.int (if j < i then j else i)) H
  | .sum => rSum K
  | .all => rAll K
  | .any => rAny K
theorem rBi_ok {X : Cx} (G : Good X) : ∀ b : Bi, CallR X (biVal b) (rBi X.K b)
  | .len => len_any
  | .int => call_int1
  | .str => call_str_int
  | .repr => callR_or (repr_any G) (repr_dic G)
  | .list => call_list_of
  | .tuple => call_tuple_of
  | .abs => call_abs
  | .max => call_max2 G.calm
  | .min => call_min2 G.calm
  | .sum => cr_sum G.calm
  | .all => cr_all G.calm
  | .any => cr_any G.calm
theorem RVs.one {xs : List V} {d : LV} {n : Nat} (h : RVs K H ι n xs [d]) : ∃ x, xs = [x] ∧ RV K H ι n x d := by
  cases h with
  | cons a b => cases b; exact ⟨_, rfl, a⟩
theorem RVs.two {xs : List V} {d e : LV} {n : Nat} (h : RVs K H ι n xs [d, e]) : ∃ x y, xs = [x, y] ∧ RV K H ι n x d ∧ RV K H ι n y e := by
  cases h with
  | cons a b =>
    obtain ⟨y, rfl, r⟩ := b.one
    exact ⟨_, y, rfl, a, r⟩
theorem bi_at {b : Bi} {ds : List LV} {xs : List V} (h : At K W (RVr K) σV σ ι L (biV b ds L) Q H) (rx : RVs K H ι L.length xs ds) : rBi K b xs H Q := by
  cases ds with
  | nil => cases b <;> exact h.no.elim
  | cons d ds =>
    cases ds with
    | nil =>
      obtain ⟨x, ex, r1⟩ := rx.one
      subst ex
      clear rx
      have rx := r1
      clear r1
      cases b with
      | len =>
        obtain ⟨n, e, h⟩ := At.look (g := fun L => lenV L d) h
        have e : lenV L d = some n := e
        cases d with
        | str s =>
          dsimp only [lenV] at e
          split at e
          · rename_i c
            cases e
            cases rx
            exact .inl ⟨.str s, _, rfl, ⟨line_of c, rfl⟩, h.ret (.int _)⟩
          · cases e
        | tup as =>
          cases e
          obtain ⟨a, xs, rfl, ha, ra⟩ := rx.tupV
          exact .inl ⟨.ref a, _, rfl, .inr ⟨xs, ha, ra.length.symm⟩, h.ret (.int _)⟩
        | ref a =>
          obtain rfl := rx.refV
          dsimp only [lenV] at e
          cases e1 : L[a]? with
          | none => rw [e1] at e; cases e
          | some o =>
            rw [e1] at e
            have ro := h.rep.ob a _ e1
            cases o with
            | lst ys =>
              cases e
              obtain ⟨zs, h1, r1⟩ := ro
              exact .inl ⟨.ref (ι a), _, rfl, .inl ⟨zs, .inl (.inl h1), r1.length.symm⟩, h.ret (.int _)⟩
            | frz ns =>
              cases e
              exact .inl ⟨.ref (ι a), _, rfl, .inl ⟨_, (show FrzAt K H (ι a) (ns.map V.int) from ro).seq, (List.length_map _).symm⟩, h.ret (.int _)⟩
            | dic kvs =>
              cases e
              obtain ⟨zs, h1, r1⟩ := ro
              refine .inr ⟨_, zs, rfl, .inl h1, ?_⟩
              rw [r1.length]
              exact h.ret (.int _)
        | _ => cases e
      | int =>
        cases d with
        | int i => cases rx; exact .inl ⟨_, rfl, h.ret (.int _)⟩
        | _ => exact h.no.elim
      | str =>
        cases d with
        | int i => obtain ⟨c, h⟩ := h.chk; cases rx; exact ⟨_, rfl, of_decide_eq_true c, h.ret (.str _)⟩
        | _ => exact h.no.elim
      | repr =>
        obtain ⟨pd, e, h⟩ := At.look (g := fun L => toR L d) h
        obtain ⟨c, h⟩ := h.chk
        rw [Bool.and_eq_true, Bool.and_eq_true] at c
        unfold toR at e
        cases ed : dicAt _ d with
        | none =>
          rw [ed] at e
          exact .inl ⟨x, pd, rfl, dp_of h.rep _ _ _ _ e rx, c.1.1, line_of c.1.2, of_decide_eq_true c.2, h.ret (.str _)⟩
        | some kvs =>
          rw [ed] at e
          obtain ⟨ds, e1, rfl⟩ := Option.map_eq_some_iff.mp e
          have h9 := h
          obtain ⟨n, rfl, eL⟩ := dicAt_ref ed
          obtain rfl := rx.refV
          obtain ⟨ws, h1, r1⟩ := h.rep.ob _ _ eL
          exact .inr ⟨_, ws, ds, rfl, h1, fkv_of r1 e1, c.1.1, line_of c.1.2, of_decide_eq_true c.2, h9.ret (.str _)⟩
      | list =>
        obtain ⟨ys, e, h⟩ := At.look (g := fun L => Mv.items L d) h
        obtain ⟨a, xs, rfl, hs, hr⟩ := h.rep.seq rx e
        exact ⟨a, xs, rfl, hs, fun l hl => h.new hl (lst_new hl hr)⟩
      | tuple =>
        obtain ⟨ys, e, h⟩ := At.look (g := fun L => Mv.items L d) h
        obtain ⟨a, xs, rfl, hs, hr⟩ := h.rep.seq rx e
        refine ⟨a, xs, rfl, ?_⟩
        rcases hs with hs | hs
        · exact .inl ⟨hs, fun l hl => h.retF hl (tup_new hl hr)⟩
        · exact .inr ⟨hs, h.ret (.tup hs hr)⟩
      | abs =>
        cases d with
        | int i => cases rx; exact ⟨_, rfl, h.ret (.int _)⟩
        | _ => exact h.no.elim
      | sum =>
        obtain ⟨ns, e, h9⟩ := At.look (g := fun L => (itemsL L d).bind intL) h
        cases d with
        | ref a =>
          obtain rfl := rx.refV
          obtain ⟨ys, e1, e2⟩ := Option.bind_eq_some_iff.mp e
          obtain ⟨xs, hx, hr⟩ := h9.rep.listOf e1
          rw [hr.toInts e2] at hx
          exact ⟨_, ns, rfl, hx, h9.ret (.int _)⟩
        | _ => cases e
      | all =>
        obtain ⟨ns, e, h9⟩ := At.look (g := fun L => (itemsL L d).bind blL) h
        cases d with
        | ref a =>
          obtain rfl := rx.refV
          obtain ⟨ys, e1, e2⟩ := Option.bind_eq_some_iff.mp e
          obtain ⟨xs, hx, hr⟩ := h9.rep.listOf e1
          rw [hr.toBls e2] at hx
          exact ⟨_, ns, rfl, hx, h9.ret (.bl _)⟩
        | _ => cases e
      | any =>
        obtain ⟨ns, e, h9⟩ := At.look (g := fun L => (itemsL L d).bind blL) h
        cases d with
        | ref a =>
          obtain rfl := rx.refV
          obtain ⟨ys, e1, e2⟩ := Option.bind_eq_some_iff.mp e
          obtain ⟨xs, hx, hr⟩ := h9.rep.listOf e1
          rw [hr.toBls e2] at hx
          exact ⟨_, ns, rfl, hx, h9.ret (.bl _)⟩
        | _ => cases e
      | max => cases d <;> exact h.no.elim
      | min => cases d <;> exact h.no.elim
    | cons e ds =>
      cases ds with
      | nil =>
        obtain ⟨x, y, ex, r1, ry⟩ := rx.two
        subst ex
        clear rx
        have rx := r1
        clear r1
        cases b with
        | max =>
          cases d <;> cases e <;> first
            | exact h.no.elim
            | (cases rx; cases ry; exact ⟨_, _, rfl, h.ret (.int _)⟩)
        | min =>
          cases d <;> cases e <;> first
            | exact h.no.elim
            | (cases rx; cases ry; exact ⟨_, _, rfl, h.ret (.int _)⟩)
        | _ => cases d <;> exact h.no.elim
      | cons _ _ => cases b <;> first | exact h.no.elim | (cases d <;> first | exact h.no.elim | (cases e <;> exact h.no.elim))
end
end Mv

/-! Mv6: isinstance, methods, what is walked. -/
namespace Mv
open PySem PySem.Spec PyProof.Rows L2

/-! ### isinstance -/
inductive Tyx (K : PySem.W.Frag) (H : Hp) : V → String → Prop where
  | non : Tyx K H .non "NoneType"
  | bl (b : Bool) : Tyx K H (.bl b) "bool"
  | int (i : Int) : Tyx K H (.int i) "int"
  | str (s : Str) : Tyx K H (.str s) "str"
  | lst {a : Addr} {xs : List V} : SqL K H a xs → Tyx K H (.ref a) "list"
  | tup {a : Addr} {xs : List V} : SqT K H a xs → Tyx K H (.ref a) "tuple"
  | dic {a : Addr} {kvs : List (Key × V)} : H a = some (.dK kvs) → Tyx K H (.ref a) "dict"
def rIsi (K : PySem.W.Frag) : List V → Hp → VK → Prop := fun xs H Q => ∃ x T t b, xs = [x, .ty T] ∧ Tyx K H x t ∧ kitB t T = some b ∧ Q (.bl b) H
theorem isi_any {X : Cx} : CallR X (.builtin "isinstance") (rIsi X.K) := by
  intro pins s σ H xs us Q I r h
  obtain ⟨x, T, t, b, rfl, ty, e, q⟩ := h
  obtain ⟨u, c, rfl, ru, rc⟩ := vals2 r
  cases rc
  have e := kit_ty (K := X.K) e
  have fin : ∀ tk, EP X pins σ Q (.bool b) { s with toks := tk } := fun tk => ⟨.bl b, H, I.tok tk, rfl, q⟩
  cases ty with
  | non => cases ru; exact PySem.W.kia_one PySem.W.kitx_none I.kIn True.intro e (fun z => nomatch z) fin
  | bl y => cases ru; exact PySem.W.kia_one PySem.W.kitx_bool I.kIn True.intro e (fun z => nomatch z) fin
  | int i => obtain ⟨t, rfl⟩ := ru; exact PySem.W.kia_one PySem.W.kitx_int I.kIn True.intro e (fun z => nomatch z) fin
  | str y => obtain ⟨t, rfl⟩ := ru; exact PySem.W.kia_one PySem.W.kitx_str I.kIn True.intro e (fun z => nomatch z) fin
  | lst hs =>
    cases ru
    obtain ⟨its, rv, ⟨o, n, h1, h2, _, _⟩, _⟩ := I.list hs
    exact PySem.W.kia_one PySem.W.kitx_list I.kIn ⟨o, h1, h2⟩ e (fun z => nomatch z) fin
  | tup hs =>
    cases ru
    obtain ⟨its, rv, ⟨o, h1, h2, _⟩, _⟩ := I.tuple hs
    exact PySem.W.kia_one PySem.W.kitx_tuple I.kIn ⟨o, h1, h2⟩ e (fun z => nomatch z) fin
  | dic hs =>
    cases ru
    obtain ⟨_, _, vs, _, o, es, ep, h1, h2, _⟩ := I.hok _ _ hs
    exact PySem.W.kia_one PySem.W.kitx_dict I.kIn ⟨o, h1, h2.1⟩ e (fun z => nomatch z) fin
def tyName : Ty → String
  | .int => "int"
  | .bool => "bool"
  | .str => "str"
  | .tuple => "tuple"
  | .list => "list"
  | .dict => "dict"
theorem ty_boot : ∀ t : Ty, bootBuiltins (Str.ofString (tyName t)) = some (.type (tyName t))
  | .int => by decide +kernel
  | .bool => by decide +kernel
  | .str => by decide +kernel
  | .tuple => by decide +kernel
  | .list => by decide +kernel
  | .dict => by decide +kernel
theorem kit_non : ∀ t : Ty, kitB "NoneType" (tyName t) = some (decide (t ∈ ([] : List Ty)))
  | .int => by decide +kernel
  | .bool => by decide +kernel
  | .str => by decide +kernel
  | .tuple => by decide +kernel
  | .list => by decide +kernel
  | .dict => by decide +kernel
theorem kit_bl : ∀ t : Ty, kitB "bool" (tyName t) = some (decide (t ∈ ([.bool, .int] : List Ty)))
  | .int => by decide +kernel
  | .bool => by decide +kernel
  | .str => by decide +kernel
  | .tuple => by decide +kernel
  | .list => by decide +kernel
  | .dict => by decide +kernel
theorem kit_int : ∀ t : Ty, kitB "int" (tyName t) = some (decide (t ∈ ([.int] : List Ty)))
  | .int => by decide +kernel
  | .bool => by decide +kernel
  | .str => by decide +kernel
  | .tuple => by decide +kernel
  | .list => by decide +kernel
  | .dict => by decide +kernel
theorem kit_str : ∀ t : Ty, kitB "str" (tyName t) = some (decide (t ∈ ([.str] : List Ty)))
  | .int => by decide +kernel
  | .bool => by decide +kernel
  | .str => by decide +kernel
  | .tuple => by decide +kernel
  | .list => by decide +kernel
  | .dict => by decide +kernel
theorem kit_tup : ∀ t : Ty, kitB "tuple" (tyName t) = some (decide (t ∈ ([.tuple] : List Ty)))
  | .int => by decide +kernel
  | .bool => by decide +kernel
  | .str => by decide +kernel
  | .tuple => by decide +kernel
  | .list => by decide +kernel
  | .dict => by decide +kernel
theorem kit_lst : ∀ t : Ty, kitB "list" (tyName t) = some (decide (t ∈ ([.list] : List Ty)))
  | .int => by decide +kernel
  | .bool => by decide +kernel
  | .str => by decide +kernel
  | .tuple => by decide +kernel
  | .list => by decide +kernel
  | .dict => by decide +kernel
theorem kit_dic : ∀ t : Ty, kitB "dict" (tyName t) = some (decide (t ∈ ([.dict] : List Ty)))
  | .int => by decide +kernel
  | .bool => by decide +kernel
  | .str => by decide +kernel
  | .tuple => by decide +kernel
  | .list => by decide +kernel
  | .dict => by decide +kernel
section
variable {K : PySem.W.Frag} {W : XW} {σV : L2.St} {σ : LSt} {ι : Nat → Addr} {L : LH} {H : Hp} {Q : VK}
theorem isi_at {d : LV} {x : V} {t : Ty} (h : At K W (RVr K) σV σ ι L (isiV d t L) Q H) (rx : RV K H ι L.length x d) : rIsi K [x, .ty (tyName t)] H Q := by
  cases d with
  | non =>
    cases rx
    obtain ⟨ts, e, h⟩ := At.look (g := fun L => tyOf L .non) h
    cases e
    exact ⟨_, _, _, _, rfl, .non, kit_non t, h.ret (.bl _)⟩
  | bl b =>
    cases rx
    obtain ⟨ts, e, h⟩ := At.look (g := fun L => tyOf L (.bl b)) h
    cases e
    exact ⟨_, _, _, _, rfl, .bl b, kit_bl t, h.ret (.bl _)⟩
  | int i =>
    cases rx
    obtain ⟨ts, e, h⟩ := At.look (g := fun L => tyOf L (.int i)) h
    cases e
    exact ⟨_, _, _, _, rfl, .int i, kit_int t, h.ret (.bl _)⟩
  | str s =>
    cases rx
    obtain ⟨ts, e, h⟩ := At.look (g := fun L => tyOf L (.str s)) h
    cases e
    exact ⟨_, _, _, _, rfl, .str s, kit_str t, h.ret (.bl _)⟩
  | tup ds =>
    obtain ⟨ts, e, h⟩ := At.look (g := fun L => tyOf L (.tup ds)) h
    cases e
    obtain ⟨a, xs, rfl, ha, ra⟩ := rx.tupV
    exact ⟨_, _, _, _, rfl, .tup ha, kit_tup t, h.ret (.bl _)⟩
  | ref k =>
    obtain ⟨ts, e, h⟩ := At.look (g := fun L => tyOf L (.ref k)) h
    obtain rfl := rx.refV
    dsimp only [tyOf] at e
    cases e1 : L[k]? with
    | none => rw [e1] at e; cases e
    | some o =>
      rw [e1] at e
      have ro := h.rep.ob k _ e1
      cases o with
      | lst ys =>
        cases e
        obtain ⟨zs, h1, r1⟩ := ro
        exact ⟨_, _, _, _, rfl, .lst (.inl (.inl h1)), kit_lst t, h.ret (.bl _)⟩
      | frz ns => cases e
      | dic kvs =>
        cases e
        obtain ⟨zs, h1, r1⟩ := ro
        exact ⟨_, _, _, _, rfl, .dic h1, kit_dic t, h.ret (.bl _)⟩

/-! ### methods -/
def mtName : Mth → Str
  | .append => "append"
  | .pop => "pop"
  | .extend => "extend"
def mtId : Mth → String
  | .append => "list.append"
  | .pop => "list.pop"
  | .extend => "list.extend"
def rMt : Mth → V → List V → Hp → VK → Prop
  | .append => rAppend
  | .pop => rPop
  | .extend => rExtend
theorem rMt_ok {X : Cx} : ∀ m : Mth, MtR X (mtId m) (rMt m)
  | .append => mt_append
  | .pop => mt_pop
  | .extend => mt_extend
theorem mth_at {m : Mth} {d : LV} {x : V} {ds : List LV} {xs : List V} (h : At K W (RVr K) σV σ ι L (mthV m d ds L) Q H) (rx : RV K H ι L.length x d) (rs : RVs K H ι L.length xs ds) :
    tyV K "list" x H ∧ rMt m x xs H Q := by
  cases d with
  | ref a =>
    obtain rfl := rx.refV
    have h : At K W (RVr K) σV σ ι L (mthR a m L[a]? ds L) Q H := h
    generalize e1 : L[a]? = o1 at h
    cases o1 with
    | none => cases m <;> exact h.no.elim
    | some o1 =>
      cases o1 with
      | lst ys =>
        have ro := h.rep.ob a _ e1
        obtain ⟨zs, h1, r1⟩ := ro
        refine ⟨.inl ⟨rfl, zs, .inl (.inl h1)⟩, ?_⟩
        cases m with
        | append =>
          cases ds with
          | nil => exact h.no.elim
          | cons d ds =>
            cases ds with
            | cons _ _ => exact h.no.elim
            | nil =>
              obtain ⟨c, h⟩ := At.chk h
              obtain ⟨y, ey, ry⟩ := rs.one
              subst ey
              refine ⟨_, zs, y, rfl, rfl, h1, by rw [r1.length]; exact of_decide_eq_true c, ?_⟩
              refine (h.put (u := .lst (zs ++ [y])) e1 rfl rfl ⟨_, upd_same, ?_⟩).ret .non
              exact (r1.append (.cons ry .nil)).mono (Ev.set h1 trivial)
        | pop =>
          cases ds with
          | cons _ _ => exact h.no.elim
          | nil =>
            cases rs
            obtain ⟨d, e, h⟩ := At.ofO h
            obtain ⟨y, ey, ry⟩ := r1.get e
            refine ⟨_, zs, y, rfl, rfl, h1, by rw [r1.length]; exact ey, ?_⟩
            have ev : Ev K ι H L.length ι (upd H (ι a) (.lst zs.dropLast)) L.length := Ev.set h1 trivial
            refine (h.put (u := .lst zs.dropLast) e1 rfl rfl ⟨_, upd_same, r1.dropLast.mono ev⟩).ret ?_
            rw [List.length_set]
            exact ry.mono ev
        | extend => exact h.no.elim
      | frz _ => cases m <;> exact h.no.elim
      | dic _ => cases m <;> exact h.no.elim
  | _ => exact h.no.elim

theorem lst_ty {d : LV} {x : V} (R : Rep K ι H L) (h : lstAt L d = some ()) (rx : RV K H ι L.length x d) : tyV K "list" x H := by
  cases d with
  | ref a =>
    obtain rfl := rx.refV
    dsimp only [lstAt] at h
    cases e1 : L[a]? with
    | none => rw [e1] at h; cases h
    | some o =>
      rw [e1] at h
      cases o with
      | lst ys =>
        obtain ⟨zs, h1, r1⟩ := R.ob a _ e1
        exact .inl ⟨rfl, zs, .inl (.inl h1)⟩
      | _ => cases h
  | _ => cases h

/-! ### what is walked -/
def SrcR (K : PySem.W.Frag) : Rl Src It := fun H ι n J s => ∀ H' ι' L', Ev K ι H n ι' H' (List.length L') → Rep K ι' H' L' →
  (∀ i d, s.at i L' = some d → J.go i H' ∧ ∀ x H2, J.yld i H' x H2 → Ev K ι' H' L'.length ι' H2 L'.length ∧ Rep K ι' H2 L' ∧ RV K H2 ι' L'.length x d) ∧ (s.fin L' = true → J.stop s.len H')
theorem srcR_tup {n : Nat} {a : Addr} {xs : List V} {ds : List LV} (hs : SqT K H a xs) (r : RVs K H ι n xs ds) : SrcR K H ι n (Itt K a) (.fixed ds) := by
  intro H' ι' L' ev rp
  have hs' := ev.tp _ _ hs
  have r' := r.mono ev
  refine ⟨fun i d e => ?_, fun _ => ⟨xs, hs', Nat.le_of_eq r.length⟩⟩
  obtain ⟨v, hv, rv⟩ := r'.get e
  refine ⟨⟨xs, v, hs', hv⟩, fun x H2 y => ?_⟩
  obtain ⟨rfl, y⟩ := y
  have z := y xs hs'
  rw [hv] at z
  cases z
  exact ⟨Ev.refl, rp, rv⟩
theorem srcR_live {k len : Nat} (hk : k < L.length) : SrcR K H ι L.length (Itl K (ι k)) (.live k len) := by
  intro H' ι' L' ev rp
  have ek : ι' k = ι k := ev.pl k hk
  refine ⟨fun i d e => ?_, fun e => ?_⟩
  · have e : (itemsL L' (.ref k)).bind (fun xs => xs[i]?) = some d := e
    obtain ⟨ys, e1, e2⟩ := Option.bind_eq_some_iff.mp e
    obtain ⟨zs, h1, r1⟩ := rp.listOf e1
    rw [ek] at h1
    obtain ⟨v, hv, rv⟩ := r1.get e2
    refine ⟨⟨zs, v, h1, hv⟩, fun x H2 y => ?_⟩
    obtain ⟨rfl, y⟩ := y
    have z := y zs h1
    rw [hv] at z
    cases z
    exact ⟨Ev.refl, rp, rv⟩
  · dsimp only [Src.fin] at e
    cases e1 : itemsL L' (.ref k) with
    | none => rw [e1] at e; cases e
    | some ys =>
      rw [e1] at e
      obtain ⟨zs, h1, r1⟩ := rp.listOf e1
      rw [ek] at h1
      exact ⟨zs, h1, by rw [r1.length]; exact of_decide_eq_true e⟩
theorem srcR_str {n : Nat} (s : Str) : SrcR K H ι n (Its s) (.fixed (s.cps.toList.map fun c => .str ⟨#[c]⟩)) := by
  intro H' ι' L' ev rp
  refine ⟨fun i d e => ?_, fun _ => ?_⟩
  · have e : (s.cps.toList.map fun c => LV.str ⟨#[c]⟩)[i]? = some d := e
    rw [List.getElem?_map] at e
    obtain ⟨c, e1, e2⟩ := Option.map_eq_some_iff.mp e
    subst e2
    have e3 : s.cps[i]? = some c := by rw [← e1]; simp
    have hi : i < s.cps.size := (Array.getElem?_eq_some_iff.mp e3).1
    refine ⟨hi, fun x H2 y => ?_⟩
    obtain ⟨rfl, c', h1, rfl⟩ := y
    rw [e3] at h1
    cases h1
    exact ⟨Ev.refl, rp, .str _⟩
  · show s.cps.size ≤ (s.cps.toList.map _).length
    rw [List.length_map, Array.length_toList]
    exact Nat.le_refl _
theorem srcR_rng {n : Nat} (lo : Int) (k : Nat) : SrcR K H ι n (Itr lo k) (rngV lo k) := by
  intro H' ι' L' ev rp
  refine ⟨fun i d e => ?_, fun _ => ?_⟩
  · have e : ((List.range k).map fun (j : Nat) => LV.int (lo + (j : Int)))[i]? = some d := e
    rw [List.getElem?_map] at e
    obtain ⟨j, e1, e2⟩ := Option.map_eq_some_iff.mp e
    subst e2
    have hi := (List.getElem?_eq_some_iff.mp e1).1
    rw [List.length_range] at hi
    rw [List.getElem?_range hi] at e1
    cases e1
    refine ⟨hi, fun x H2 y => ?_⟩
    obtain ⟨rfl, rfl⟩ := y
    exact ⟨Ev.refl, rp, .int _⟩
  · show k ≤ ((List.range k).map _).length
    rw [List.length_map, List.length_range]
    exact Nat.le_refl _
end
end Mv

/-! Mv7: each form of expression, read by the evaluator. -/
namespace Mv
open PySem PySem.Spec PyProof.Rows L2

/-- a test's reading -/
abbrev tT (K : PySem.W.Frag) (W : XW) (m : LSt → M LV) : TT := fun σ H Q => tI K W m σ H fun x H1 => ∃ c, x = .bl c ∧ Q c H1
theorem PW.imp {X : Cx} {e : Expr} {t t' : TT} (h : PW X e t) (q : ∀ σ H Q, t' σ H Q → t σ H Q) : PW X e t' := ⟨fun wh pins s σ H Q I w => h.run wh pins s σ H Q I (q σ H Q w)⟩

section
variable {K : PySem.W.Frag} {W : XW} {ma mb mc : LSt → M LV} {ms : LSt → M (List LV)}
theorem tG_bind {α β γ δ : Type} {R : Rl α β} {R2 : Rl γ δ} {m : LSt → M α} {f : α → LSt → M γ} {σV : L2.St} {H : Hp} {Q : δ → Hp → Prop} (h : tG K W R2 (fun σ => M.bind (m σ) fun d => f d σ) σV H Q) :
    tG K W R m σV H fun v H1 => ∃ d ι1 L1 σ, R H1 ι1 L1.length v d ∧ At K W R2 σV σ ι1 L1 (f d σ L1) Q H1 := by
  obtain ⟨ι, σ, L, h⟩ := h
  exact ⟨ι, σ, L, h.bind.imp fun v H1 ⟨d, ι1, L1, r, ev, h⟩ => ⟨d, ι1, L1, σ, r, h⟩⟩
/-- two values, then an operation -/
theorem two {f : LV → LV → M LV} {r : R2} {σV : L2.St} {H : Hp} {Q : VK} (hr : ∀ {σ : LSt} {ι : Nat → Addr} {L : LH} {H : Hp} {Q : VK} {d e : LV} {x y : V}, At K W (RVr K) σV σ ι L (f d e L) Q H → RV K H ι L.length x d → RV K H ι L.length y e → r x y H Q)
    (h : tI K W (fun σ => M.bind (ma σ) fun x => M.bind (mb σ) fun y => f x y) σV H Q) : tOp r (tI K W ma) (tI K W mb) σV H Q := by
  obtain ⟨ι, σ, L, h⟩ := h
  refine ⟨ι, σ, L, (h.bind (R := RVr K)).imp fun x H1 ⟨d, ι1, L1, r1, ev, h⟩ => ?_⟩
  refine ⟨ι1, σ, L1, (h.bind (R := RVr K)).imp fun y H2 ⟨e, ι2, L2, r2, ev2, h⟩ => ?_⟩
  exact hr h (r1.mono ev2) r2
theorem one {f : LV → M LV} {r : V → Hp → VK → Prop} {σV : L2.St} {H : Hp} {Q : VK} (hr : ∀ {σ : LSt} {ι : Nat → Addr} {L : LH} {H : Hp} {Q : VK} {d : LV} {x : V}, At K W (RVr K) σV σ ι L (f d L) Q H → RV K H ι L.length x d → r x H Q)
    (h : tI K W (fun σ => M.bind (ma σ) f) σV H Q) : tI K W ma σV H fun x H1 => r x H1 Q := by
  obtain ⟨ι, σ, L, h⟩ := h
  exact ⟨ι, σ, L, (h.bind (R := RVr K)).imp fun x H1 ⟨d, ι1, L1, r1, ev, h⟩ => hr h r1⟩
end

section
variable {X : Cx} {W : XW} {a b c : Expr} {ma mb mc : LSt → M LV} {pos : Pos}
theorem e_bin (op : BOp) (ha : PE X a (tI X.K W ma)) (hb : PE X b (tI X.K W mb)) :
    PE X (.BinOp a (opOf op) b pos) (tI X.K W fun σ => M.bind (ma σ) fun x => M.bind (mb σ) fun y => binV op x y) :=
  PE.imp (pe_op (rB_ok op) ha hb) fun σ H Q h => two (fun h r1 r2 => bin_at op h r1 r2) h
theorem e_neg (ha : PE X a (tI X.K W ma)) : PE X (.UnaryOp .USub a pos) (tI X.K W fun σ => M.bind (ma σ) fun x => match x with
    | .int i => M.ret (.int (-i))
    | _ => M.no) :=
  PE.imp (pe_un un_neg ha) fun σ H Q h => one (r := rU fun i => .int (-i)) (fun {σ ι L H Q d x} h r => by
    cases d with
    | int i => cases r; exact ⟨_, rfl, h.ret (.int _)⟩
    | _ => exact h.no.elim) h
theorem e_cmp (G : Good X) (op : COp) (ha : PE X a (tI X.K W ma)) (hb : PE X b (tI X.K W mb)) (hm : behindInMarks (copOf op) b = false) :
    PE X (.Compare a [copOf op] [b] pos) (tI X.K W fun σ => M.bind (ma σ) fun x => M.bind (mb σ) fun y => cmpV op x y) :=
  PE.imp (pe_cmpR (rC_ok G op) ha hb hm) fun σ H Q h => two (fun h r1 r2 => cmp_at op h r1 r2) h
theorem t_cmp (G : Good X) (op : COp) (ha : PE X a (tI X.K W ma)) (hb : PE X b (tI X.K W mb)) (hm : behindInMarks (copOf op) b = false) :
    PT X (.Compare a [copOf op] [b] pos) (tT X.K W fun σ => M.bind (ma σ) fun x => M.bind (mb σ) fun y => cmpV op x y) :=
  PT.imp (pt_cmpR (rC_ok G op) ha hb hm) fun σ H Q h => two (fun h r1 r2 => cmp_at op h r1 r2) h
def chain (op op' : COp) (ma mb mc : LSt → M LV) : LSt → M LV := fun σ => M.bind (ma σ) fun x => M.bind (mb σ) fun y => M.bind (cmpV op x y) fun r => match r with
    | .bl true => M.bind (mc σ) fun z => cmpV op' y z
    | .bl false => M.ret (.bl false)
    | _ => M.no
theorem chain_at {K : PySem.W.Frag} {op op' : COp} {σV : L2.St} {H : Hp} {Q : VK} (h : tI K W (chain op op' ma mb mc) σV H Q) : tChain (rC K op) (rC K op') (tI K W ma) (tI K W mb) (tI K W mc) σV H Q := by
  obtain ⟨ι, σ, L, h⟩ := h
  refine ⟨ι, σ, L, (h.bind (R := RVr K)).imp fun x H1 ⟨d, ι1, L1, r1, ev, h⟩ => ?_⟩
  refine ⟨ι1, σ, L1, (h.bind (R := RVr K)).imp fun y H2 ⟨e, ι2, L2, r2, ev2, h⟩ => ?_⟩
  have r1' := r1.mono ev2
  refine cmp_at op ((h.bind (R := RVr K)).imp fun z H3 ⟨f, ι3, L3, r3, ev3, h⟩ => ?_) r1' r2
  cases f with
  | bl k =>
    cases r3
    refine ⟨k, rfl, ?_⟩
    cases k with
    | false => rw [if_neg Bool.false_ne_true]; exact h.ret (.bl _)
    | true =>
      rw [if_pos rfl]
      refine ⟨ι3, σ, L3, (h.bind (R := RVr K)).imp fun w H4 ⟨g, ι4, L4, r4, ev4, h⟩ => ?_⟩
      exact cmp_at op' h ((r2.mono ev3).mono ev4) r4
  | _ => exact h.no.elim
theorem e_chain (G : Good X) (op op' : COp) (ha : PE X a (tI X.K W ma)) (hb : PE X b (tI X.K W mb)) (hc : PE X c (tI X.K W mc)) (hm : lastMarks [copOf op, copOf op'] [b, c] = false) :
    PE X (.Compare a [copOf op, copOf op'] [b, c] pos) (tI X.K W (chain op op' ma mb mc)) :=
  PE.imp (pe_chain (rC_ok G op) (rC_ok G op') ha hb hc hm) fun σ H Q h => chain_at h
theorem t_chain (G : Good X) (op op' : COp) (ha : PE X a (tI X.K W ma)) (hb : PE X b (tI X.K W mb)) (hc : PE X c (tI X.K W mc)) (hm : lastMarks [copOf op, copOf op'] [b, c] = false) :
    PT X (.Compare a [copOf op, copOf op'] [b, c] pos) (tT X.K W (chain op op' ma mb mc)) :=
  PT.imp (pt_chain (rC_ok G op) (rC_ok G op') ha hb hc hm) fun σ H Q h => chain_at h

/-! ### and, or, not, if -/
def andM (ma mb : LSt → M LV) : LSt → M LV := fun σ => M.bind (ma σ) fun x => match x with
    | .bl true => mb σ
    | .bl false => M.ret (.bl false)
    | _ => M.no
def orM (ma mb : LSt → M LV) : LSt → M LV := fun σ => M.bind (ma σ) fun x => match x with
    | .bl true => M.ret (.bl true)
    | .bl false => mb σ
    | _ => M.no
def notM (ma : LSt → M LV) : LSt → M LV := fun σ => M.bind (ma σ) fun x => match x with
    | .bl b => M.ret (.bl (!b))
    | _ => M.no
def iteM (mc ma mb : LSt → M LV) : LSt → M LV := fun σ => M.bind (mc σ) fun x => match x with
    | .bl true => ma σ
    | .bl false => mb σ
    | _ => M.no
variable {rest : List Expr}
theorem and_at {K : PySem.W.Frag} {σV : L2.St} {H : Hp} {Q : VK} (h : tI K W (andM ma mb) σV H Q) : tI K W ma σV H fun x H1 => ∃ c, x = .bl c ∧ if c = true then tI K W mb σV H1 Q else Q (.bl false) H1 := by
  obtain ⟨ι, σ, L, h⟩ := h
  refine ⟨ι, σ, L, (h.bind (R := RVr K)).imp fun x H1 ⟨d, ι1, L1, r1, ev, h⟩ => ?_⟩
  cases d with
  | bl k =>
    cases r1
    refine ⟨k, rfl, ?_⟩
    cases k with
    | false => rw [if_neg Bool.false_ne_true]; exact h.ret (.bl _)
    | true => rw [if_pos rfl]; exact ⟨ι1, σ, L1, h⟩
  | _ => exact h.no.elim
theorem or_at {K : PySem.W.Frag} {σV : L2.St} {H : Hp} {Q : VK} (h : tI K W (orM ma mb) σV H Q) : tI K W ma σV H fun x H1 => ∃ c, x = .bl c ∧ if c = true then Q (.bl true) H1 else tI K W mb σV H1 Q := by
  obtain ⟨ι, σ, L, h⟩ := h
  refine ⟨ι, σ, L, (h.bind (R := RVr K)).imp fun x H1 ⟨d, ι1, L1, r1, ev, h⟩ => ?_⟩
  cases d with
  | bl k =>
    cases r1
    refine ⟨k, rfl, ?_⟩
    cases k with
    | true => rw [if_pos rfl]; exact h.ret (.bl _)
    | false => rw [if_neg Bool.false_ne_true]; exact ⟨ι1, σ, L1, h⟩
  | _ => exact h.no.elim
theorem not_at {K : PySem.W.Frag} {σV : L2.St} {H : Hp} {Q : VK} (h : tI K W (notM ma) σV H Q) : tI K W ma σV H fun x H1 => ∃ c, x = .bl c ∧ Q (.bl (!c)) H1 := by
  obtain ⟨ι, σ, L, h⟩ := h
  refine ⟨ι, σ, L, (h.bind (R := RVr K)).imp fun x H1 ⟨d, ι1, L1, r1, ev, h⟩ => ?_⟩
  cases d with
  | bl k => cases r1; exact ⟨k, rfl, h.ret (.bl _)⟩
  | _ => exact h.no.elim
theorem ite_at {K : PySem.W.Frag} {σV : L2.St} {H : Hp} {Q : VK} (h : tI K W (iteM mc ma mb) σV H Q) : tT K W mc σV H fun c H1 => if c = true then tI K W ma σV H1 Q else tI K W mb σV H1 Q := by
  obtain ⟨ι, σ, L, h⟩ := h
  refine ⟨ι, σ, L, (h.bind (R := RVr K)).imp fun x H1 ⟨d, ι1, L1, r1, ev, h⟩ => ?_⟩
  cases d with
  | bl k =>
    cases r1
    refine ⟨k, rfl, ?_⟩
    cases k with
    | true => rw [if_pos rfl]; exact ⟨ι1, σ, L1, h⟩
    | false => rw [if_neg Bool.false_ne_true]; exact ⟨ι1, σ, L1, h⟩
  | _ => exact h.no.elim
theorem e_and (ha : PE X a (tI X.K W ma)) (hb : PE X (.BoolOp .And (b :: rest) pos) (tI X.K W mb)) : PE X (.BoolOp .And (a :: b :: rest) pos) (tI X.K W (andM ma mb)) :=
  PE.imp (pe_and ha hb) fun σ H Q h => and_at h
theorem e_or (ha : PE X a (tI X.K W ma)) (hb : PE X (.BoolOp .Or (b :: rest) pos) (tI X.K W mb)) : PE X (.BoolOp .Or (a :: b :: rest) pos) (tI X.K W (orM ma mb)) :=
  PE.imp (pe_or ha hb) fun σ H Q h => or_at h
theorem tI_imp {K : PySem.W.Frag} {m : LSt → M LV} {σV : L2.St} {H : Hp} {Q Q' : VK} (h : tI K W m σV H Q) (q : ∀ v H', Q v H' → Q' v H') : tI K W m σV H Q' :=
  let ⟨ι, σ, L, h⟩ := h
  ⟨ι, σ, L, h.imp q⟩
theorem w_and (ha : PT X a (tT X.K W ma)) (hb : PW X (.BoolOp .And (b :: rest) pos) (tT X.K W mb)) : PW X (.BoolOp .And (a :: b :: rest) pos) (tT X.K W (andM ma mb)) :=
  PW.imp (pw_and ha hb) fun σ H Q h => tI_imp (and_at h) fun x H1 ⟨c, e, z⟩ => ⟨c, e, by
    cases c with
    | true => rw [if_pos rfl] at z ⊢; exact z
    | false =>
      rw [if_neg Bool.false_ne_true] at z ⊢
      obtain ⟨c', e', z⟩ := z
      cases e'
      exact z⟩
theorem w_or (ha : PT X a (tT X.K W ma)) (hb : PW X (.BoolOp .Or (b :: rest) pos) (tT X.K W mb)) : PW X (.BoolOp .Or (a :: b :: rest) pos) (tT X.K W (orM ma mb)) :=
  PW.imp (pw_or ha hb) fun σ H Q h => tI_imp (or_at h) fun x H1 ⟨c, e, z⟩ => ⟨c, e, by
    cases c with
    | false => rw [if_neg Bool.false_ne_true] at z ⊢; exact z
    | true =>
      rw [if_pos rfl] at z ⊢
      obtain ⟨c', e', z⟩ := z
      cases e'
      exact z⟩
theorem e_not (ha : PE X a (tI X.K W ma)) : PE X (.UnaryOp .Not a pos) (tI X.K W (notM ma)) := PE.imp (pe_not ha) fun σ H Q h => not_at h
theorem t_not (ha : PT X a (tT X.K W ma)) : PT X (.UnaryOp .Not a pos) (tT X.K W (notM ma)) :=
  PT.imp (pt_not ha) fun σ H Q h => tI_imp (not_at h) fun x H1 ⟨c, e, z⟩ => ⟨c, e, by
    obtain ⟨c', e', z⟩ := z
    cases e'
    exact z⟩
theorem e_ite (hc : PT X c (tT X.K W mc)) (ha : PE X a (tI X.K W ma)) (hb : PE X b (tI X.K W mb)) : PE X (.IfExp c a b pos) (tI X.K W (iteM mc ma mb)) :=
  PE.imp (pe_ifExp hc ha hb) fun σ H Q h => ite_at h

/-! ### names, constants -/
theorem e_var {i : Nat} {x : Str} (hN : X.N[i]? = some x) (hv : Vis X.env.scope x) (hd : (x == ("__debug__" : Str)) = false) (hcd : (x == ("__classdict__" : Str)) = false) : PE X (.Name x pos) (tI X.K W fun σ => getV σ i) :=
  PE.imp (pe_var hN hv hd hcd) fun σV H Q h => by
    obtain ⟨ι, σ, L, h⟩ := h
    have h : At X.K W (RVr X.K) σV σ ι L (getR σ[i]? L) Q H := h
    generalize e : σ[i]? = o at h
    cases o with
    | none => exact h.no.elim
    | some o =>
      cases o with
      | none => exact h.no.elim
      | some d =>
        obtain ⟨v, e1, r⟩ := h.rs.at_ i d e
        exact ⟨v, e1, h.ret r⟩
theorem e_int {i : Int} {j : Nat} : PE X (.Constant (.int i) j pos) (tI X.K W fun _ => M.ret (.int i)) := PE.imp pe_int fun σV H Q ⟨ι, σ, L, h⟩ => h.ret (.int i)
theorem e_str {s : Str} {j : Nat} : PE X (.Constant (.str s) j pos) (tI X.K W fun _ => M.ret (.str s)) := PE.imp pe_str fun σV H Q ⟨ι, σ, L, h⟩ => h.ret (.str s)
theorem e_bl {b : Bool} {j : Nat} : PE X (.Constant (.bool b) j pos) (tI X.K W fun _ => M.ret (.bl b)) := PE.imp pe_bl fun σV H Q ⟨ι, σ, L, h⟩ => h.ret (.bl b)
theorem e_non {j : Nat} : PE X (.Constant .none j pos) (tI X.K W fun _ => M.ret .non) := PE.imp pe_non fun σV H Q ⟨ι, σ, L, h⟩ => h.ret .non
/-- a module's constant -/
def RelC : LV → Value → Prop
  | .non, u => u = Value.none
  | .bl b, u => u = Value.bool b
  | .int i, u => ∃ t, u = Value.int i t
  | .str s, u => ∃ t, u = Value.str s t
  | _, _ => False
theorem e_glo {x : Str} {v : LV} {u : Value} (hg : Gl X x) (hm : X.mg x = some u) (r : RelC v u) (hd : (x == ("__debug__" : Str)) = false) : PE X (.Name x pos) (tI X.K W fun _ => M.ret v) := by
  cases v with
  | non => exact PE.imp (pe_glob (v := .non) hg hm r hd) fun σV H Q ⟨ι, σ, L, h⟩ => h.ret .non
  | bl b => exact PE.imp (pe_glob (v := .bl b) hg hm r hd) fun σV H Q ⟨ι, σ, L, h⟩ => h.ret (.bl b)
  | int b => exact PE.imp (pe_glob (v := .int b) hg hm r hd) fun σV H Q ⟨ι, σ, L, h⟩ => h.ret (.int b)
  | str b => exact PE.imp (pe_glob (v := .str b) hg hm r hd) fun σV H Q ⟨ι, σ, L, h⟩ => h.ret (.str b)
  | tup _ => exact False.elim r
  | ref _ => exact False.elim r

/-! ### lists of expressions -/
variable {ms : LSt → M (List LV)} {es : List Expr}
theorem a_nil : PA X [] (tIs X.K W fun _ => M.ret []) := PA.imp pa_nil fun σV H Q ⟨ι, σ, L, h⟩ => h.ret .nil
def consM (ma : LSt → M LV) (ms : LSt → M (List LV)) : LSt → M (List LV) := fun σ => M.bind (ma σ) fun x => M.bind (ms σ) fun xs => M.ret (x :: xs)
theorem a_cons (ha : PE X a (tI X.K W ma)) (hs : PA X es (tIs X.K W ms)) (he : starEach (a :: es) X.env = (false, eval a X.env) :: starEach es X.env) : PA X (a :: es) (tIs X.K W (consM ma ms)) :=
  PA.imp (pa_cons ha hs he) fun σV H Q h => by
    obtain ⟨ι, σ, L, h⟩ := h
    refine ⟨ι, σ, L, (h.bind (R := RVr X.K)).imp fun x H1 ⟨d, ι1, L1, r1, ev, h⟩ => ?_⟩
    refine ⟨ι1, σ, L1, (h.bind (R := RVsr X.K)).imp fun xs H2 ⟨ds, ι2, L2, r2, ev2, h⟩ => ?_⟩
    exact h.ret (.cons (r1.mono ev2) r2)
theorem e_tup {k : Nat} (hs : PA X es (tIs X.K W ms)) : PE X (.Tuple es k pos) (tI X.K W fun σ => M.bind (ms σ) fun xs => M.chk (small xs.length) (M.ret (.tup xs))) :=
  PE.imp (pe_tup hs) fun σV H Q h => by
    obtain ⟨ι, σ, L, h⟩ := h
    refine ⟨ι, σ, L, (h.bind (R := RVsr X.K)).imp fun xs H1 ⟨ds, ι1, L1, r1, ev, h⟩ => ?_⟩
    obtain ⟨c, h⟩ := h.chk
    exact ⟨by rw [r1.length]; exact line_of c, fun p hp => h.retF hp (tup_new hp r1)⟩
theorem e_lst (hs : PA X es (tIs X.K W ms)) : PE X (.List es pos) (tI X.K W fun σ => M.bind (ms σ) fun xs => M.chk (small xs.length) (new (.lst xs))) :=
  PE.imp (pe_lst hs) fun σV H Q h => by
    obtain ⟨ι, σ, L, h⟩ := h
    refine ⟨ι, σ, L, (h.bind (R := RVsr X.K)).imp fun xs H1 ⟨ds, ι1, L1, r1, ev, h⟩ => ?_⟩
    obtain ⟨c, h⟩ := h.chk
    exact ⟨by rw [r1.length]; exact line_of c, fun p hp => h.new hp (lst_new hp r1)⟩

/-! ### subscripts -/
theorem e_ix (G : Good X) (ha : PE X a (tI X.K W ma)) (hb : PE X b (tI X.K W mb)) (hs : PlainIx b) :
    PE X (.Subscript a b pos) (tI X.K W fun σ => M.bind (ma σ) fun x => M.bind (mb σ) fun y => ixV x y) :=
  PE.imp (pe_ix (ix_any G) ha hb hs) fun σ H Q h => two (fun h r1 r2 => ix_at h r1 r2) h
variable {lo hi : Option Expr} {ml mh : LSt → M (Option Int)} {p2 : Pos}
theorem o_none : PO X none (tIO X.K W fun _ => M.ret none) := PO.imp po_none fun σV H Q ⟨ι, σ, L, h⟩ => h.ret rfl
def partM (ma : LSt → M LV) : LSt → M (Option Int) := fun σ => M.bind (ma σ) fun x => match x with
    | .int i => M.ret (some i)
    | _ => M.no
theorem o_some (ha : PE X a (tI X.K W ma)) : PO X (some a) (tIO X.K W (partM ma)) :=
  PO.imp (po_some ha) fun σV H Q h => by
    obtain ⟨ι, σ, L, h⟩ := h
    refine ⟨ι, σ, L, (h.bind (R := RVr X.K)).imp fun x H1 ⟨d, ι1, L1, r1, ev, h⟩ => ?_⟩
    cases d with
    | int i => cases r1; exact ⟨i, rfl, h.ret rfl⟩
    | _ => exact h.no.elim
theorem e_slc (ha : PE X a (tI X.K W ma)) (hl : PO X lo (tIO X.K W ml)) (hh : PO X hi (tIO X.K W mh)) :
    PE X (.Subscript a (.Slice lo hi none p2) pos) (tI X.K W fun σ => M.bind (ma σ) fun x => M.bind (ml σ) fun l => M.bind (mh σ) fun h => slV x l h) :=
  PE.imp (pe_slice rSl_ok ha hl hh) fun σV H Q h => by
    obtain ⟨ι, σ, L, h⟩ := h
    refine ⟨ι, σ, L, (h.bind (R := RVr X.K)).imp fun x H1 ⟨d, ι1, L1, r1, ev, h⟩ => ?_⟩
    refine ⟨ι1, σ, L1, (h.bind (R := Eqr)).imp fun l H2 ⟨l', ι2, L2, r2, ev2, h⟩ => ?_⟩
    refine ⟨ι2, σ, L2, (h.bind (R := Eqr)).imp fun l3 H3 ⟨h', ι3, L3, r3, ev3, h⟩ => ?_⟩
    cases r2
    cases r3
    exact sl_at h ((r1.mono ev2).mono ev3)
theorem e_rev {k : Nat} {p1 p2 p3 : Pos} (ha : PE X a (tI X.K W ma)) : PE X (.Subscript a (.Slice none none (some (.UnaryOp .USub (.Constant (.int 1) k p1) p2)) p3) pos) (tI X.K W fun σ => M.bind (ma σ) revV) :=
  PE.imp (pe_back ha) fun σ H Q h => one (r := rRev X.K) (fun h r => rev_at h r) h

/-! ### built-ins, methods -/
theorem isTy_bi : ∀ b : Bi, (∃ id, biVal b = .builtin id) ∨ ∃ T, biVal b = .type T
  | .len | .repr | .abs | .max | .min | .sum | .all | .any => .inl ⟨_, rfl⟩
  | .int | .str | .list | .tuple => .inr ⟨_, rfl⟩
theorem bi_name : ∀ b : Bi, biName b ≠ "__name__" ∧ (biName b == ("__debug__" : Str)) = false
  | .len | .repr | .abs | .max | .min | .sum | .all | .any | .int | .str | .list | .tuple => by decide +kernel
theorem e_bi {p : Pos} (G : Good X) (bi : Bi) (hg : Gl X (biName bi)) (hm : X.mg (biName bi) = none) (hs : PA X (a :: es) (tIs X.K W ms)) (he : starEach (a :: es) X.env = (false, eval a X.env) :: starEach es X.env) (hpl : (backTo pos (starEach es X.env)).any (·.1) = false) :
    PE X (.Call (.Name (biName bi) p) (a :: es) [] pos) (tI X.K W fun σ => M.bind (ms σ) fun xs => biV bi xs) := by
  have go : ∀ σV H Q, tI X.K W (fun σ => M.bind (ms σ) fun xs => biV bi xs) σV H Q → tCB (rBi X.K bi) (tIs X.K W ms) σV H Q := fun σV H Q h => by
    obtain ⟨ι, σ, L, h⟩ := h
    exact ⟨ι, σ, L, (h.bind (R := RVsr X.K)).imp fun xs H1 ⟨ds, ι1, L1, r1, ev, h⟩ => bi_at h r1⟩
  have ok := rBi_ok G bi
  have hv := bi_boot bi
  obtain ⟨n1, n2⟩ := bi_name bi
  rcases isTy_bi bi with ⟨id, e⟩ | ⟨T, e⟩
  · rw [e] at ok hv
    exact PE.imp (pe_callB ok hg hm hv hs n1 n2 he hpl) go
  · rw [e] at ok hv
    exact PE.imp (pe_callTy ok hg hm hv hs n1 n2 he hpl) go
theorem ty_name : ∀ t : Ty, Str.ofString (tyName t) ≠ "__name__" ∧ (Str.ofString (tyName t) == ("__debug__" : Str)) = false
  | .int | .bool | .str | .tuple | .list | .dict => by decide +kernel
theorem boot_isi : bootBuiltins "isinstance" = some (.builtin "isinstance") := by decide +kernel
theorem e_isi {p p' : Pos} (t : Ty) (hg : Gl X "isinstance") (hm : X.mg "isinstance" = none) (hg' : Gl X (Str.ofString (tyName t))) (hm' : X.mg (Str.ofString (tyName t)) = none) (ha : PE X a (tI X.K W ma))
    (he : starEach [a, .Name (Str.ofString (tyName t)) p'] X.env = (false, eval a X.env) :: starEach [.Name (Str.ofString (tyName t)) p'] X.env) :
    PE X (.Call (.Name "isinstance" p) [a, .Name (Str.ofString (tyName t)) p'] [] pos) (tI X.K W fun σ => M.bind (ma σ) fun x => isiV x t) := by
  obtain ⟨n1, n2⟩ := ty_name t
  have hT : PE X (.Name (Str.ofString (tyName t)) p') (tC (.ty (tyName t))) := pe_bltn (v := .ty (tyName t)) hg' hm' (ty_boot t) rfl n1 n2
  refine PE.imp (pe_callB isi_any hg hm boot_isi (pa_cons ha (pa_cons hT pa_nil) he) (by decide) (by decide) he rfl) fun σV H Q h => ?_
  obtain ⟨ι, σ, L, h⟩ := h
  exact ⟨ι, σ, L, (h.bind (R := RVr X.K)).imp fun x H1 ⟨d, ι1, L1, r1, ev, h⟩ => isi_at h r1⟩
theorem slot_mt : ∀ m : Mth, PySem.Slot "list" (mtName m) (mtId m) ∧ typeOf (.builtin (mtId m)) = pure (.type "method_descriptor")
  | .append => ⟨PySem.F.slot_list_append, PySem.F.type_list_append⟩
  | .pop => ⟨PySem.F.slot_list_pop, PySem.F.type_list_pop⟩
  | .extend => ⟨PySem.F.slot_list_extend, PySem.F.type_list_extend⟩
def mthM (m : Mth) (mo : LSt → M LV) (ms : LSt → M (List LV)) : LSt → M LV := fun σ => M.bind (mo σ) fun x => M.look (fun L => lstAt L x) fun _ => M.bind (ms σ) fun xs => mthV m x xs
theorem e_mth {o : Expr} {mo : LSt → M LV} {apos cpos : Pos} (m : Mth) (ho : PE X o (tI X.K W mo)) (hs : PA X (a :: es) (tIs X.K W ms)) (hbase : attributeBase o (mtName m) X.env (eval o X.env) = eval o X.env)
    (hfew : ((backTo cpos (starEach (a :: es) X.env)).all (fun x => !x.1) && (backToKw cpos (keywordEach [] X.env)).all (fun x => x.1.isSome)
      && decide ((a :: es).length + ([] : List Keyword).length + (if ([] : List Keyword).isEmpty then 0 else 1) < 30)) = true)
    (hline : (apos.endLine == cpos.line) = true) (he : starEach (a :: es) X.env = (false, eval a X.env) :: starEach es X.env) (hpl : (backTo cpos (starEach es X.env)).any (·.1) = false) :
    PE X (.Call (.Attribute o (mtName m) apos) (a :: es) [] cpos) (tI X.K W (mthM m mo ms)) := by
  obtain ⟨s1, s2⟩ := slot_mt m
  refine PE.imp (pe_bm PySem.F.plainAttrs_list s1 s2 (rMt_ok m) ho hs hbase hfew hline he hpl) fun σV H Q h => ?_
  obtain ⟨ι, σ, L, h⟩ := h
  refine ⟨ι, σ, L, (h.bind (R := RVr X.K)).imp fun x H1 ⟨d, ι1, L1, r1, ev, h⟩ => ?_⟩
  obtain ⟨u, e, h⟩ := At.look (g := fun L => lstAt L d) h
  exact ⟨lst_ty h.rep e r1, ι1, σ, L1, (h.bind (R := RVsr X.K)).imp fun xs H2 ⟨ds, ι2, L2, r2, ev2, h⟩ => (mth_at h (r1.mono ev2) r2).2⟩
theorem e_mth0 {o : Expr} {mo : LSt → M LV} {apos cpos : Pos} (m : Mth) (ho : PE X o (tI X.K W mo)) (hbase : attributeBase o (mtName m) X.env (eval o X.env) = eval o X.env) (hline : (apos.endLine == cpos.line) = true) :
    PE X (.Call (.Attribute o (mtName m) apos) [] [] cpos) (tI X.K W (mthM m mo fun _ => M.ret [])) := by
  obtain ⟨s1, s2⟩ := slot_mt m
  refine PE.imp (pe_bm0 PySem.F.plainAttrs_list s1 s2 (rMt_ok m) ho hbase hline) fun σV H Q h => ?_
  obtain ⟨ι, σ, L, h⟩ := h
  refine ⟨ι, σ, L, (h.bind (R := RVr X.K)).imp fun x H1 ⟨d, ι1, L1, r1, ev, h⟩ => ?_⟩
  obtain ⟨u, e, h⟩ := At.look (g := fun L => lstAt L d) h
  exact mth_at h r1 .nil
end
end Mv

/-! Mv8: dict displays, calls of defs, targets, what is walked. -/
namespace Mv
open PySem PySem.Spec PyProof.Rows L2

section
variable {α β : Type} {K : PySem.W.Frag} {W : XW} {R : Rl α β} {σV : L2.St} {σ : LSt} {ι : Nat → Addr} {L : LH} {H : Hp} {Q : β → Hp → Prop}
/-- a new object, then on -/
theorem At.newB {f : LV → M α} {o : LO} {u : HO} {p : Addr} (h : At K W R σV σ ι L (M.bind (Mv.new o) f L) Q H) (hp : H p = Option.none) (q : RO K (upd H p u) (ext ι L.length p) (L.length + 1) p o) :
    At K W R σV σ (ext ι L.length p) (L ++ [o]) (f (.ref L.length) (L ++ [o])) Q (upd H p u) := by
  obtain ⟨a, b, o1, e, z⟩ := h
  have ev : Ev K ι H L.length (ext ι L.length p) (upd H p u) (L ++ [o]).length := by
    rw [List.length_append, List.length_singleton]
    exact Ev.new hp
  have e : f (.ref L.length) (L ++ [o]) = some o1 := e
  refine ⟨a.new hp q, b.mono ev, o1, e, ?_⟩
  cases o1 with
  | ok d L' => exact fun ι2 H2 v2 ev2 rp2 rv2 => z ι2 H2 v2 (ev.trans ev2) rp2 rv2
  | ex c fs L' => exact fun ι2 H2 ev2 rp2 => z ι2 H2 (ev.trans ev2) rp2
end

/-! ### dict displays -/
def msOf : List (LSt → M LV) → LSt → M (List LV)
  | [] => fun _ => M.ret []
  | m :: r => consM m (msOf r)
def trsOf (K : PySem.W.Frag) (W : XW) (ks : List Key) (ms : List (LSt → M LV)) : List (TE × TE) := List.zipWith (fun k m => (tC (kV k), tI K W m)) ks ms
section
variable {K : PySem.W.Frag} {W : XW}
theorem pairs_at : ∀ (ks : List Key) (ms : List (LSt → M LV)) {σV : L2.St} {σ : LSt} {ι : Nat → Addr} {L : LH} {H : Hp} {f : List LV → M LV} {Q : VK}, ks.length = ms.length → At K W (RVr K) σV σ ι L (M.bind (msOf ms σ) f L) Q H →
    tPairs (trsOf K W ks ms) σV H fun ps H2 => ∃ vs ds ι2 L2, ps = (ks.zip vs).map (fun kv => (kV kv.1, kv.2)) ∧ vs.length = ks.length ∧ RVs K H2 ι2 L2.length vs ds ∧ Ev K ι H L.length ι2 H2 L2.length ∧ At K W (RVr K) σV σ ι2 L2 (f ds L2) Q H2
  | [], [], σV, σ, ι, L, H, f, Q, _, h => ⟨[], [], ι, L, rfl, rfl, .nil, Ev.refl, h⟩
  | [], _ :: _, _, _, _, _, _, _, _, e, _ => by cases e
  | _ :: _, [], _, _, _, _, _, _, _, e, _ => by cases e
  | k :: ks, m :: ms, σV, σ, ι, L, H, f, Q, e, h => by
    show tPairs ((tC (kV k), tI K W m) :: trsOf K W ks ms) σV H _
    show tI K W m σV H fun y H2 => tPairs (trsOf K W ks ms) σV H2 _
    have h : At K W (RVr K) σV σ ι L (M.bind (m σ) (fun x => M.bind (msOf ms σ) fun xs => f (x :: xs)) L) Q H := by
      have e : M.bind (msOf (m :: ms) σ) f L = M.bind (m σ) (fun x => M.bind (msOf ms σ) fun xs => f (x :: xs)) L := by
        show M.bind (M.bind (m σ) fun x => M.bind (msOf ms σ) fun xs => M.ret (x :: xs)) f L = _
        rw [M.bind_bind]
        simp only [M.bind_bind, M.bind_ret]
      rw [← e]
      exact h
    refine ⟨ι, σ, L, (h.bind (R := RVr K)).imp fun y H1 ⟨d, ι1, L1, r1, ev, h⟩ => ?_⟩
    have ih := pairs_at ks ms (by simpa using e) h
    refine tPairs_imp ih fun ps H2 ⟨vs, ds, ι2, L2, e1, e2, r2, ev2, h⟩ => ?_
    exact ⟨y :: vs, d :: ds, ι2, L2, by rw [e1]; rfl, by rw [List.length_cons, List.length_cons, e2], .cons (r1.mono ev2) r2, ev.trans ev2, h⟩
where
  tPairs_imp : ∀ {ks : List Key} {ms : List (LSt → M LV)} {σV : L2.St} {H : Hp} {Q Q' : List (V × V) → Hp → Prop}, tPairs (trsOf K W ks ms) σV H Q → (∀ ps H', Q ps H' → Q' ps H') → tPairs (trsOf K W ks ms) σV H Q'
    | [], _, _, _, _, _, h, q => q _ _ h
    | _ :: _, [], _, _, _, _, h, q => q _ _ h
    | k :: ks, m :: ms, σV, H, Q, Q', h, q => by
      obtain ⟨ι, σ, L, h⟩ := (show tI K W m σV H (fun y H2 => tPairs (trsOf K W ks ms) σV H2 fun ps H3 => Q ((kV k, y) :: ps) H3) from h)
      show tI K W m σV H fun y H2 => tPairs (trsOf K W ks ms) σV H2 fun ps H3 => Q' ((kV k, y) :: ps) H3
      exact ⟨ι, σ, L, h.imp fun y H2 z => tPairs_imp z fun ps H' w => q _ _ w⟩
theorem merge_rel {H : Hp} {ι : Nat → Addr} {n : Nat} : ∀ {ks : List Key} {vs : List V} {ds : List LV} {as : List (Key × V)} {bs : List (Key × LV)}, RVs K H ι n vs ds → RKV K H ι n as bs → RKV K H ι n (mergeK as (ks.zip vs)) (dmerge bs (ks.zip ds))
  | [], _, _, _, _, _, q => q
  | _ :: _, [], _, _, _, r, q => by cases r; exact q
  | k :: ks, v :: vs, _, _, _, r, q => by
    cases r with
    | cons r1 r2 =>
      show RKV K H ι n (mergeK (putK _ k v) (ks.zip vs)) (dmerge (dput _ k _) (ks.zip _))
      exact merge_rel r2 (RKV.put r1 q)
end
def dctM (ks : List Key) (ms : LSt → M (List LV)) : LSt → M LV := fun σ => M.bind (new (.dic [])) fun d => M.bind (ms σ) fun xs => match d with
    | .ref n => fun L => dctR n (dmerge [] (ks.zip xs)) L[n]? L
    | _ => M.no
section
variable {X : Cx} {W : XW} {pos : Pos}
theorem e_dct0 : PE X (.Dict [] [] pos) (tI X.K W fun _ => new (.dic [])) :=
  PE.imp pe_dnewK fun σV H Q ⟨ι, σ, L, h⟩ p hp => h.new hp ⟨[], upd_same, .nil⟩
theorem e_dct {keys : List (Option Expr)} {values : List Expr} {ks : List Key} {ms : List (LSt → M LV)} (h : PPs X pos keys values (trsOf X.K W ks ms)) (hall : keys.all (·.isSome) = true) (hl : keys.length = values.length) (h0 : keys ≠ []) (h15 : keys.length ≤ 15)
    (hk : ks.length = keys.length) (hm : ms.length = keys.length) : PE X (.Dict keys values pos) (tI X.K W (dctM ks (msOf ms))) := by
  refine PE.imp (pe_disp h hall hl h0 h15) fun σV H Q ⟨ι, σ, L, h⟩ p hp => ?_
  have h1 := h.newB (u := .dK []) hp ⟨[], upd_same, .nil⟩
  have h2 := pairs_at ks ms (by rw [hk, hm]) h1
  refine pairs_at.tPairs_imp h2 fun ps H2 ⟨vs, ds, ι2, L2, e1, e2, r2, ev2, h⟩ => ?_
  have h : At X.K W (RVr X.K) σV σ ι2 L2 (dctR L.length (dmerge [] (ks.zip ds)) L2[L.length]? L2) Q H2 := h
  have hn : L.length < (L ++ [LO.dic []]).length := by rw [List.length_append, List.length_singleton]; omega
  have ep : ι2 L.length = p := by rw [ev2.pl _ hn, ext_eq]
  generalize eL : L2[L.length]? = o at h
  cases o with
  | none => exact h.no.elim
  | some o =>
    cases o with
    | dic kvs =>
      cases kvs with
      | cons _ _ => exact h.no.elim
      | nil =>
        obtain ⟨ys, h3, r3⟩ := h.rep.ob _ _ eL
        cases r3
        rw [ep] at h3
        refine ⟨h3, ks.zip vs, e1, ?_, ?_⟩
        · rw [List.length_zip, e2, hk]
          omega
        · have ev3 : Ev X.K ι2 H2 L2.length ι2 (upd H2 p (.dK (mergeK [] (ks.zip vs)))) L2.length := Ev.set h3 trivial
          have q : RO X.K (upd H2 (ι2 L.length) (.dK (mergeK [] (ks.zip vs)))) ι2 L2.length (ι2 L.length) (.dic (dmerge [] (ks.zip ds))) := by
            rw [ep]
            exact ⟨_, upd_same, merge_rel (r2.mono ev3) .nil⟩
          have h : At X.K W (RVr X.K) σV σ ι2 L2 (M.bind (setO L.length (.dic (dmerge [] (ks.zip ds)))) (fun _ => M.ret (.ref L.length)) L2) Q H2 := h
          have h := At.put (o' := .dic (dmerge [] (ks.zip ds))) (u := .dK (mergeK [] (ks.zip vs))) h eL rfl rfl q
          rw [ep] at h
          refine h.ret ?_
          have z : RV X.K (upd H2 p (.dK (mergeK [] (ks.zip vs)))) ι2 (L2.set L.length (LO.dic (dmerge [] (ks.zip ds)))).length (.ref (ι2 L.length)) (.ref L.length) := .ref _ (by rw [List.length_set]; exact get_lt eL)
          rw [ep] at z
          exact z
    | _ => exact h.no.elim
end

/-! ### calls of defs -/
/-- the def at f does what R says, calls nested k deep at most -/
structure FnG (P : Program) (w : World) (K : PySem.W.Frag) (mg : Str → Option Value) (base : Heap) (k : Nat) (f : Addr) (fd : FuncData) (ps : List Str) (R : List LV → M LV) : Prop where
  run : ∀ (W : XW) (A : Around) (outer : List Env) (s : Shared) (H : Hp) (args : Args) (us : List Value) (vs : List V) (ds : List LV) (ι : Nat → Addr) (L : LH) (Q : VK), Room k A → A.guards = some [] → Env0 P w K mg base A outer s H →
    BindsTo s fd args (ps.zip us) → us.length = ps.length → Vals vs us → RVs K H ι L.length vs ds → At K W (RVr K) [] [] ι L (R ds L) Q H → codeAny (model P w) A (.call (.ref f) args) (CR CX0 outer P w H s Q E0) s
/-- how a call with np values by position and the names ks binds -/
def BindOk (K : PySem.W.Frag) (fd : FuncData) (ps : List Str) (np : Nat) (ks : List Str) (perm : List Nat) : Prop :=
  ∀ (s : Shared) (us ws zs : List Value), K.In s.heap → us.length = np → ws.length = ks.length → permG (us ++ ws) perm = some zs → BindsTo s fd ⟨us, ks.zip ws⟩ (ps.zip zs) ∧ zs.length = ps.length
theorem perm_rel {K : PySem.W.Frag} {H : Hp} {ι : Nat → Addr} {n : Nat} {vs : List V} {us : List Value} {ds : List LV} (r : Vals vs us) (q : RVs K H ι n vs ds) : ∀ {perm : List Nat} {zs : List LV}, permG ds perm = some zs → ∃ ws xs, permG us perm = some xs ∧ Vals ws xs ∧ RVs K H ι n ws zs
  | [], _, e => by cases e; exact ⟨[], [], rfl, .nil, .nil⟩
  | i :: perm, zs, e => by
    unfold permG at e
    cases e1 : ds[i]? with
    | none => rw [e1] at e; cases e
    | some d =>
      cases e2 : permG ds perm with
      | none => rw [e1, e2] at e; cases e
      | some ys =>
        rw [e1, e2] at e
        cases e
        obtain ⟨v, hv, rv⟩ := q.get e1
        obtain ⟨u, hu, ru⟩ := r.get hv
        obtain ⟨ws, xs, h1, h2, h3⟩ := perm_rel r q e2
        exact ⟨v :: ws, u :: xs, by unfold permG; rw [hu, h1], .cons ru h2, .cons rv h3⟩
def callM (R : List LV → M LV) (ms mk : LSt → M (List LV)) (perm : List Nat) : LSt → M LV := fun σ => M.bind (ms σ) fun xs => M.bind (mk σ) fun ys => M.ofO (permG (xs ++ ys) perm) fun zs => R zs
section
variable {X : Cx} {W : XW} {pos p : Pos} {x : Str} {f : Addr} {fd : FuncData} {ps ks : List Str} {k np : Nat} {R : List LV → M LV} {perm : List Nat} {ms mk : LSt → M (List LV)} {a : Expr} {es : List Expr} {kws : List Keyword}
theorem run_fn {pins : List (Addr × Obj)} {σV : L2.St} {σ : LSt} {H : Hp} {s : Shared} {ι : Nat → Addr} {L : LH} {Q : VK} {us ws : List Value} {vs : List V} {ds : List LV} (G : Good X) (F : FnG X.prog X.w X.K X.mg X.base k f fd ps R) (hr : Room k X.A)
    (hb : BindOk X.K fd ps np ks perm) (I : Inv X pins σV H s) (hu : us.length = np) (hw : ws.length = ks.length) (r : Vals vs (us ++ ws)) (q : RVs X.K H ι L.length vs ds)
    (h : At X.K W (RVr X.K) σV σ ι L (M.ofO (permG ds perm) (fun zs => R zs) L) Q H) : wpAny (model X.prog X.w) X.A (call (.ref f) us (ks.zip ws)) (EP X pins σV Q) X.xe s := by
  obtain ⟨zs, e, h⟩ := h.ofO
  obtain ⟨ws', xs, h1, h2, h3⟩ := perm_rel r q e
  obtain ⟨b1, b2⟩ := hb s us ws xs I.kIn hu hw h1
  have h' : At X.K (fun c fs L' ι' H' _ => W c fs L' ι' H' σV) (RVr X.K) [] [] ι L (R zs L) Q H := ⟨h.rep, ⟨rfl, fun i d e => by simp at e⟩, h.go⟩
  refine wpAny_call (codeAny_mono (F.run _ X.A X.stack s H ⟨us, ks.zip ws⟩ xs ws' zs ι L Q hr G.hg I.env0 b1 b2 h2 h3 h') fun r s' hq => ?_)
  cases r with
  | error e => exact False.elim hq
  | ok fl =>
    cases fl with
    | ret u => exact I.after hq
    | next => exact False.elim hq
    | brk => exact False.elim hq
    | cont => exact False.elim hq
theorem e_call (G : Good X) (F : FnG X.prog X.w X.K X.mg X.base k f fd ps R) (hr : Room k X.A) (hg : Gl X x) (hm : X.mg x = some (.ref f)) (hk : PySem.W.keepIn X.K (.ref f) = true) (hb : BindOk X.K fd ps np ks perm)
    (ha : PA X (a :: es) (tIs X.K W ms)) (hkw : PK X kws (tIs X.K W mk)) (hall : (backToKw pos (keywordEach kws X.env)).all (·.1.isSome) = true) (hks : (backToKw pos (keywordEach kws X.env)).filterMap (·.1) = ks)
    (hdb : (x == ("__debug__" : Str)) = false) (he : starEach (a :: es) X.env = (false, eval a X.env) :: starEach es X.env)
    (hpl : ((backTo pos (starEach (a :: es) X.env)).any (·.1) || (backToKw pos (keywordEach kws X.env)).any (·.1.isNone)) = false)
    (la : ∀ σ L xs L', ms σ L = some (.ok xs L') → xs.length = np) (lk : ∀ σ L xs L', mk σ L = some (.ok xs L') → xs.length = ks.length) :
    PE X (.Call (.Name x p) (a :: es) kws pos) (tI X.K W (callM R ms mk perm)) := by
  refine ⟨fun pins s σV H Q I h => ?_⟩
  obtain ⟨ι, σ, L, h⟩ := h
  refine wpAny_Call_Name_kw (ld_glob I hg hm ?_ hdb)
  refine PySem.W.callWith_KW (h₀ := X.base) I.ok.mod.kin hk hall (thn (ha.run pos pins s σV H _ I ⟨ι, σ, L, h.bindE (R := RVsr X.K)⟩) fun us s1 ⟨vs, H1, I1, r, q⟩ => ?_) hpl he
  obtain ⟨ds, ι1, L1, q1, r1, ev, h⟩ := q
  refine thn (hkw.run pos pins s1 σV H1 _ I1 ⟨ι1, σ, L1, h.bindE (R := RVsr X.K)⟩) fun ws s2 ⟨zs, H2, I2, rz, q2⟩ => ⟨I2.kIn, ?_⟩
  obtain ⟨es2, ι2, L2, q3, r2, ev2, h⟩ := q2
  rw [hks]
  exact run_fn G F hr hb I2 (by show us.length = np; rw [← r.length, r1.length, la _ _ _ _ q1]) (by rw [← rz.length, r2.length, lk _ _ _ _ q3]) (r.append rz) ((r1.mono ev2).append r2) h
theorem e_callK (G : Good X) (F : FnG X.prog X.w X.K X.mg X.base k f fd ps R) (hr : Room k X.A) (hg : Gl X x) (hm : X.mg x = some (.ref f)) (hk : PySem.W.keepIn X.K (.ref f) = true) (hb : BindOk X.K fd ps 0 ks perm)
    (hkw : PK X kws (tIs X.K W mk)) (hall : (backToKw pos (keywordEach kws X.env)).all (·.1.isSome) = true) (hks : (backToKw pos (keywordEach kws X.env)).filterMap (·.1) = ks)
    (hdb : (x == ("__debug__" : Str)) = false) (hpl : ((backTo pos (starEach [] X.env)).any (·.1) || (backToKw pos (keywordEach kws X.env)).any (·.1.isNone)) = false)
    (lk : ∀ σ L xs L', mk σ L = some (.ok xs L') → xs.length = ks.length) :
    PE X (.Call (.Name x p) [] kws pos) (tI X.K W (callM R (fun _ => M.ret []) mk perm)) := by
  refine ⟨fun pins s σV H Q I h => ?_⟩
  obtain ⟨ι, σ, L, h⟩ := h
  have h : At X.K W (RVr X.K) σV σ ι L (M.bind (mk σ) (fun ys => M.ofO (permG ([] ++ ys) perm) fun zs => R zs) L) Q H := h
  refine wpAny_Call_Name_kw (ld_glob I hg hm ?_ hdb)
  refine PySem.W.callWith_KW0 (h₀ := X.base) I.ok.mod.kin hk hall (thn (hkw.run pos pins s σV H _ I ⟨ι, σ, L, h.bindE (R := RVsr X.K)⟩) fun ws s2 ⟨zs, H2, I2, rz, q2⟩ => ⟨I2.kIn, ?_⟩) hpl
  obtain ⟨es2, ι2, L2, q3, r2, ev2, h⟩ := q2
  rw [hks]
  exact run_fn (us := []) (vs := zs) (ds := es2) G F hr hb I2 rfl (by rw [← rz.length, r2.length, lk _ _ _ _ q3]) rz r2 h
theorem e_call0 (G : Good X) (F : FnG X.prog X.w X.K X.mg X.base k f fd ps R) (hr : Room k X.A) (hg : Gl X x) (hm : X.mg x = some (.ref f)) (hk : PySem.W.keepIn X.K (.ref f) = true) (hb : BindOk X.K fd ps 0 [] perm)
    (hdb : (x == ("__debug__" : Str)) = false) : PE X (.Call (.Name x p) [] [] pos) (tI X.K W (callM R (fun _ => M.ret []) (fun _ => M.ret []) perm)) := by
  refine ⟨fun pins s σV H Q I h => ?_⟩
  obtain ⟨ι, σ, L, h⟩ := h
  have h : At X.K W (RVr X.K) σV σ ι L (M.ofO (permG ([] ++ []) perm) (fun zs => R zs) L) Q H := h
  refine wpAny_Call_Name_kw (ld_glob I hg hm ?_ hdb)
  exact PySem.W.callWith_K0 I.kIn hk (run_fn (us := []) (ws := []) (vs := []) (ds := []) G F hr hb I rfl rfl .nil .nil h)
/-- keywords -/
theorem k_nil : PK X [] (tIs X.K W fun _ => M.ret []) := ⟨fun pos pins s σ H Q I ⟨ι, σ', L, h⟩ => pk_nil.run pos pins s σ H Q I (h.ret .nil)⟩
theorem k_cons {e : Expr} {nm : Option Str} {kpos : Pos} {me : LSt → M LV} (ha : PE X e (tI X.K W me)) (hr : PK X kws (tIs X.K W mk)) : PK X (⟨nm, e, kpos⟩ :: kws) (tIs X.K W (consM me mk)) :=
  ⟨fun pos pins s σ H Q I ⟨ι, σ', L, h⟩ => (pk_cons ha hr).run pos pins s σ H Q I (by
    refine ⟨ι, σ', L, (h.bind (R := RVr X.K)).imp fun x H1 ⟨d, ι1, L1, r1, ev, h⟩ => ?_⟩
    refine ⟨ι1, σ', L1, (h.bind (R := RVsr X.K)).imp fun xs H2 ⟨ds, ι2, L2, r2, ev2, h⟩ => ?_⟩
    exact h.ret (.cons (r1.mono ev2) r2))⟩
end
end Mv

/-! Mv9: targets, what is walked, comprehensions. -/
namespace Mv
open PySem PySem.Spec PyProof.Rows L2

/-- what is wanted of an exception does not hang on the names -/
def WInv (W : XW) : Prop := ∀ c fs L ι H (σV σV' : L2.St), σV'.length = σV.length → W c fs L ι H σV → W c fs L ι H σV'
section
variable {α β γ δ : Type} {K : PySem.W.Frag} {W : XW} {R R' : Rl α β} {σV σV' : L2.St} {σ σ' : LSt} {ι : Nat → Addr} {L : LH} {H H' : Hp} {Q : β → Hp → Prop} {r : Option (Out α)}
theorem At.rebase (hW : WInv W) (h : At K W R σV σ ι L r Q H) (rs : RS K H ι L.length σV' σ') (hl : σV'.length = σV.length) : At K W R σV' σ' ι L r Q H := by
  obtain ⟨a, b, o, e, p⟩ := h
  refine ⟨a, rs, o, e, ?_⟩
  cases o with
  | ok d L' => exact p
  | ex c fs L' => exact fun ι' H' ev rp => hW _ _ _ _ _ _ _ hl (p ι' H' ev rp)
theorem At.rel (h : At K W R σV σ ι L r Q H) (q : ∀ H ι n v d, R' H ι n v d → R H ι n v d) : At K W R' σV σ ι L r Q H := by
  obtain ⟨a, b, o, e, p⟩ := h
  refine ⟨a, b, o, e, ?_⟩
  cases o with
  | ok d L' => exact fun ι' H' v e1 e2 e3 => p ι' H' v e1 e2 (q _ _ _ _ _ e3)
  | ex c fs L' => exact p
/-- the same logical heap, a later heap -/
theorem At.move (h : At K W R σV σ ι L r Q H) (ev : Ev K ι H L.length ι H' L.length) (rp : Rep K ι H' L) : At K W R σV σ ι L r Q H' := by
  obtain ⟨a, b, o, e, p⟩ := h
  refine ⟨rp, b.mono ev, o, e, ?_⟩
  cases o with
  | ok d L' => exact fun ι' H' v e1 e2 e3 => p ι' H' v (ev.trans e1) e2 e3
  | ex c fs L' => exact fun ι' H' e1 e2 => p ι' H' (ev.trans e1) e2
theorem At.eqr {r' : Option (Out α)} (h : At K W R σV σ ι L r Q H) (e : r = r') : At K W R σV σ ι L r' Q H := e ▸ h
/-- another target of what is wanted -/
theorem At.map {Q' : δ → Hp → Prop} {R2 : Rl α δ} (h : At K W R σV σ ι L r Q H) (q : ∀ H ι n v d, R2 H ι n v d → ∃ u, R H ι n u d ∧ (∀ H, Q u H → Q' v H)) : At K W R2 σV σ ι L r Q' H := by
  obtain ⟨a, b, o, e, p⟩ := h
  refine ⟨a, b, o, e, ?_⟩
  cases o with
  | ok d L' => exact fun ι' H' v e1 e2 e3 => let ⟨u, h1, h2⟩ := q _ _ _ _ _ e3; h2 _ (p ι' H' u e1 e2 h1)
  | ex c fs L' => exact p
end

/-! ### targets -/
/-- the names behind a target's stores: as ahead of them but at own -/
def RSo (K : PySem.W.Frag) (own : List Nat) (σV0 : L2.St) : Rl LSt L2.St := fun H ι n σV σ => RS K H ι n σV σ ∧ σV.length = σV0.length ∧ ∀ i : Nat, i ∉ own → σV[i]? = σV0[i]?
theorem RSo.trans {K : PySem.W.Frag} {own : List Nat} {σ0 σ1 : L2.St} {H : Hp} {ι : Nat → Addr} {n : Nat} {σV : L2.St} {σ : LSt} (h : RSo K own σ1 H ι n σV σ) (hl : σ1.length = σ0.length) (ho : ∀ i : Nat, i ∉ own → σ1[i]? = σ0[i]?) : RSo K own σ0 H ι n σV σ :=
  ⟨h.1, h.2.1.trans hl, fun i hi => (h.2.2 i hi).trans (ho i hi)⟩
section
variable {pos : Pos}
end
def tgI (K : PySem.W.Frag) (W : XW) (own : List Nat) (m : LV → LSt → M LSt) : TG := fun v σV H Q => ∃ ι σ L d, RV K H ι L.length v d ∧ At K W (RSo K own σV) σV σ ι L (m d σ L) Q H
def tgsI (K : PySem.W.Frag) (W : XW) (own : List Nat) (m : List LV → LSt → M LSt) : TGs := fun vs σV H Q => ∃ ι σ L ds, RVs K H ι L.length vs ds ∧ At K W (RSo K own σV) σV σ ι L (m ds σ L) Q H
theorem PG.imp {X : Cx} {e : Expr} {t t' : TG} (h : PG X e t) (q : ∀ v σ H Q, t' v σ H Q → t v σ H Q) : PG X e t' := ⟨fun pins s σ H v u Q I r w => h.run pins s σ H v u Q I r (q v σ H Q w)⟩
theorem PG.or {X : Cx} {e : Expr} {t t' : TG} (h : PG X e t) (h' : PG X e t') : PG X e (fun v σ H Q => t v σ H Q ∨ t' v σ H Q) :=
  ⟨fun pins s σ H v u Q I r w => w.elim (h.run pins s σ H v u Q I r) (h'.run pins s σ H v u Q I r)⟩
theorem PGs.imp {X : Cx} {e : List Expr} {t t' : TGs} (h : PGs X e t) (q : ∀ v σ H Q, t' v σ H Q → t v σ H Q) : PGs X e t' := ⟨fun pins s σ H v u Q I r w => h.run pins s σ H v u Q I r (q v σ H Q w)⟩
section
variable {X : Cx} {W : XW} {pos : Pos} {own : List Nat}
def nameM (i : Nat) : LV → LSt → M LSt := fun v σ => M.chk (decide (i < σ.length)) (M.ret (σ.set i (some v)))
theorem set_other {α : Type} {l : List α} {i j : Nat} {x : α} (h : j ≠ i) : (l.set i x)[j]? = l[j]? := List.getElem?_set_ne (Ne.symm h)
theorem g_name {i : Nat} {x : Str} (hN : X.N.Nodup) (hi : X.N[i]? = some x) (hx : Loc X.env.scope x) (hf : X.fn x = true ∨ X.env.scope.names.lookup x = some .local) (ho : i ∈ own) : PG X (.Name x pos) (tgI X.K W own (nameM i)) :=
  PG.imp (pg_name hN hi hx hf) fun v σV H Q ⟨ι, σ, L, d, r, h⟩ => by
    obtain ⟨c, h⟩ := At.chk h
    refine h.ret ⟨h.rs.set i r, by rw [List.length_set], fun j hj => set_other fun e => hj (e ▸ ho)⟩
theorem gs_nil : PGs X [] (tgsI X.K W own fun vs σ => match vs with
    | [] => M.ret σ
    | _ => M.no) :=
  PGs.imp pgs_nil fun v σV H Q ⟨ι, σ, L, ds, r, h⟩ => by
    cases ds with
    | nil => cases r; exact ⟨rfl, h.ret ⟨h.rs, rfl, fun _ _ => rfl⟩⟩
    | cons _ _ => exact h.no.elim
def gconsM (m : LV → LSt → M LSt) (ms : List LV → LSt → M LSt) : List LV → LSt → M LSt := fun vs σ => match vs with
    | x :: xs => M.bind (m x σ) fun σ1 => ms xs σ1
    | [] => M.no
theorem gs_cons {e : Expr} {es : List Expr} {m : LV → LSt → M LSt} {ms : List LV → LSt → M LSt} (hW : WInv W) (h1 : PG X e (tgI X.K W own m)) (h2 : PGs X es (tgsI X.K W own ms))
    (hs : (assignEach (e :: es) X.env).map (·.2) = assign e X.env :: (assignEach es X.env).map (·.2)) : PGs X (e :: es) (tgsI X.K W own (gconsM m ms)) :=
  PGs.imp (pgs_cons h1 h2 hs) fun v σV H Q ⟨ι, σ, L, ds, r, h⟩ => by
    cases ds with
    | nil => exact h.no.elim
    | cons d ds =>
      cases r with
      | cons r1 r2 =>
        refine ⟨_, _, rfl, ι, σ, L, d, r1, (At.bind (R := RSo X.K own σV) h).imp fun σ1 H1 ⟨σ', ι1, L1, q, ev, h⟩ => ?_⟩
        refine ⟨ι1, σ', L1, ds, r2.mono ev, ?_⟩
        exact (h.rebase hW q.1 q.2.1).rel fun H ι n v d z => z.trans q.2.1 q.2.2
def tupM (n : Nat) (ms : List LV → LSt → M LSt) : LV → LSt → M LSt := fun v σ => M.look (fun L => Mv.items L v) fun xs => M.chk (decide (xs.length = n)) (ms xs σ)
theorem g_tup {es : List Expr} {k n : Nat} {ms : List LV → LSt → M LSt} (G : Good X) (h : PGs X es (tgsI X.K W own ms)) (hn : (assignEach es X.env).length = n) (hst : (assignEach es X.env).findIdx? (·.1) = none) :
    PG X (.Tuple es k pos) (tgI X.K W own (tupM n ms)) :=
  PG.imp (PG.or (pg_tup G.calm h hn hst) (pg_unl G.calm h hn hst)) fun v σV H Q ⟨ι, σ, L, d, r, h⟩ => by
    obtain ⟨ys, e, h⟩ := At.look (g := fun L => Mv.items L d) h
    obtain ⟨c, h⟩ := At.chk h
    have hl : ys.length = n := of_decide_eq_true c
    obtain ⟨a, xs, rfl, hs, hr⟩ := h.rep.seq r e
    rcases hs with hs | hs
    · exact .inr ⟨a, xs, rfl, hs, by rw [hr.length, hl], ι, σ, L, ys, hr, h⟩
    · exact .inl ⟨a, xs, rfl, hs, by rw [hr.length, hl], ι, σ, L, ys, hr, h⟩
/-- no slice without a step -/
def notSlice : Expr → Bool
  | .Slice _ _ none _ => false
  | _ => true
theorem assign_sub {o i : Expr} {env : Env} (h : notSlice i = true) (v : Value) : assign (.Subscript o i pos) env v = (do
      let ov ← holding [v] (eval o env)
      let iv ← holding [v, ov] (eval i env)
      standAt pos
      holding [v, ov, iv] (setItem ov iv v)
      release [v, ov, iv] []) := by
  rw [assign]
  unfold notSlice at h
  split at h
  · cases h
  · rename_i hn
    cases i <;> first | rfl | (rename_i a b c d; cases c <;> first | rfl | exact (hn _ _ _ rfl).elim)
def subM (mo mi : LSt → M LV) : LV → LSt → M LSt := fun v σ => M.bind (mo σ) fun x => M.bind (mi σ) fun y => M.bind (setV x y v) fun _ => M.ret σ
theorem g_sub {o i : Expr} {mo mi : LSt → M LV} (G : Good X) (hn : notSlice i = true) (ho : PE X o (tI X.K W mo)) (hi : PE X i (tI X.K W mi)) : PG X (.Subscript o i pos) (tgI X.K W own (subM mo mi)) :=
  PG.imp (pg_sub ho hi (set_any (by have := G.hu; omega)) (assign_sub hn)) fun v σV H Q ⟨ι, σ, L, d, r, h⟩ => by
    refine ⟨ι, σ, L, (At.bind (R := RVr X.K) h).imp fun x H1 ⟨d1, ι1, L1, r1, ev, h⟩ => ?_⟩
    refine ⟨ι1, σ, L1, (At.bind (R := RVr X.K) h).imp fun y H2 ⟨d2, ι2, L2, r2, ev2, h⟩ => ?_⟩
    have h3 := At.bind (R := Eqr) h
    refine set_at (Q := fun _ H3 => Q σV H3) (h3.imp fun _ H3 ⟨d3, ι3, L3, _, ev3, h⟩ => ?_) (r1.mono ev2) r2 ((r.mono ev).mono ev2)
    exact h.ret ⟨h.rs, rfl, fun _ _ => rfl⟩
end

/-! ### what is walked -/
abbrev tSrc (K : PySem.W.Frag) (W : XW) (m : LSt → M Src) : TI := tG K W (SrcR K) m
theorem PI.imp {X : Cx} {tg e : Expr} {t t' : TI} (h : PI X tg e t) (q : ∀ σ H Q, t' σ H Q → t σ H Q) : PI X tg e t' := ⟨fun pins s σ H R I w => h.run pins s σ H R I (q σ H R w)⟩
section
variable {X : Cx} {W : XW} {tg e a b : Expr} {me ma mb : LSt → M LV} {pos p : Pos}
theorem i_val (he : PE X e (tI X.K W me)) : PI X tg e (tSrc X.K W fun σ => M.bind (me σ) iterV) := by
  refine ⟨fun pins s σV H R I h => ?_⟩
  obtain ⟨ι, σ, L, h⟩ := h
  have h1 := h.bindE (R := RVr X.K)
  cases e1 : me σ L with
  | none => exact (none_at (f := me σ) h1 e1).elim
  | some o =>
    cases o with
    | ex c fs L' => 
      refine (pi_list (tg := tg) he).run pins s σV H R I ⟨ι, σ, L, h1.imp fun x H1 ⟨d, ι1, L1, e2, _⟩ => ?_⟩
      rw [e1] at e2
      cases e2
    | ok d L1 =>
      cases d with
      | tup ds =>
        refine (pi_tup (tg := tg) he).run pins s σV H R I ⟨ι, σ, L, h1.imp fun x H1 ⟨d, ι1, L1, e2, r1, ev, h⟩ => ?_⟩
        rw [e1] at e2
        cases e2
        obtain ⟨a, xs, rfl, ha, ra⟩ := r1.tupV
        exact ⟨a, rfl, ⟨xs, ha⟩, h.ret (srcR_tup ha ra)⟩
      | str z =>
        refine (pi_str (tg := tg) he).run pins s σV H R I ⟨ι, σ, L, h1.imp fun x H1 ⟨d, ι1, L1, e2, r1, ev, h⟩ => ?_⟩
        rw [e1] at e2
        cases e2
        obtain rfl := r1.strV
        obtain ⟨c, h⟩ := At.chk h
        exact ⟨z, rfl, h.ret (srcR_str z)⟩
      | ref k =>
        refine (pi_list (tg := tg) he).run pins s σV H R I ⟨ι, σ, L, h1.imp fun x H1 ⟨d, ι1, L1, e2, r1, ev, h⟩ => ?_⟩
        rw [e1] at e2
        cases e2
        obtain rfl := r1.refV
        have h : At X.K W (SrcR X.K) σV σ ι1 L1 (iterR k L1[k]? L1) R H1 := h
        generalize e3 : L1[k]? = o at h
        cases o with
        | none => exact h.no.elim
        | some o =>
          cases o with
          | lst xs =>
            obtain ⟨ys, h1, r1⟩ := h.rep.ob k _ e3
            exact ⟨_, rfl, ⟨ys, .inl (.inl h1)⟩, h.ret (srcR_live (get_lt e3))⟩
          | frz ns =>
            exact ⟨_, rfl, ⟨_, (show FrzAt X.K H1 (ι1 k) (ns.map V.int) from h.rep.ob k _ e3).seq⟩, h.ret (srcR_live (get_lt e3))⟩
          | dic _ => exact h.no.elim
      | _ =>
        refine (pi_list (tg := tg) he).run pins s σV H R I ⟨ι, σ, L, h1.imp fun x H1 ⟨d, ι1, L1, e2, r1, ev, h⟩ => ?_⟩
        rw [e1] at e2
        cases e2
        exact h.no.elim
def rng1M (ma : LSt → M LV) : LSt → M Src := fun σ => M.bind (ma σ) fun x => match x with
    | .int j => M.chk (ints62 j) (M.ret (rngV 0 j.toNat))
    | _ => M.no
def rng2M (ma mb : LSt → M LV) : LSt → M Src := fun σ => M.bind (ma σ) fun x => M.bind (mb σ) fun y => match x, y with
    | .int i, .int j => M.chk (ints62 i && ints62 j) (M.ret (rngV i (j - i).toNat))
    | _, _ => M.no
theorem i_rng1 (hg : Gl X "range") (hm : X.mg "range" = none) (ha : PE X a (tI X.K W ma)) (hs : starEach [a] X.env = [(false, eval a X.env)]) : PI X tg (.Call (.Name "range" p) [a] [] pos) (tSrc X.K W (rng1M ma)) :=
  PI.imp (pi_range1 hg hm (pa_cons ha pa_nil hs) hs) fun σV H R h => by
    obtain ⟨ι, σ, L, h⟩ := h
    refine ⟨ι, σ, L, (At.bind (R := RVr X.K) h).imp fun x H1 ⟨d, ι1, L1, r1, ev, h⟩ => ?_⟩
    cases d with
    | int j =>
      cases r1
      obtain ⟨c, h⟩ := At.chk h
      have c := of_decide_eq_true c
      exact ⟨j, rfl, c.1, c.2, h.ret (srcR_rng 0 j.toNat)⟩
    | _ => exact h.no.elim
theorem i_rng2 (hg : Gl X "range") (hm : X.mg "range" = none) (ha : PE X a (tI X.K W ma)) (hb : PE X b (tI X.K W mb)) (hs : starEach [a, b] X.env = [(false, eval a X.env), (false, eval b X.env)]) (hs2 : starEach [b] X.env = [(false, eval b X.env)]) :
    PI X tg (.Call (.Name "range" p) [a, b] [] pos) (tSrc X.K W (rng2M ma mb)) :=
  PI.imp (pi_range2 hg hm (pa_cons ha (pa_cons hb pa_nil hs2) (by rw [hs, hs2])) hs hs2) fun σV H R h => by
    obtain ⟨ι, σ, L, h⟩ := h
    refine ⟨ι, σ, L, (At.bind (R := RVr X.K) h).imp fun x H1 ⟨d, ι1, L1, r1, ev, h⟩ => ?_⟩
    refine ⟨ι1, σ, L1, (At.bind (R := RVr X.K) h).imp fun y H2 ⟨e, ι2, L2, r2, ev2, h⟩ => ?_⟩
    cases d with
    | int i =>
      cases e with
      | int j =>
        cases r1
        cases r2
        obtain ⟨c, h⟩ := At.chk h
        rw [Bool.and_eq_true] at c
        have c1 := of_decide_eq_true c.1
        have c2 := of_decide_eq_true c.2
        exact ⟨i, j, rfl, ⟨c1.1, c1.2, c2.1, c2.2⟩, h.ret (srcR_rng i (j - i).toNat)⟩
      | _ => exact h.no.elim
    | _ => exact h.no.elim
end

/-! ### comprehensions -/
theorem RS.wiped {K : PySem.W.Frag} {H : Hp} {ι : Nat → Addr} {n : Nat} {σV : L2.St} {σ : LSt} (r : RS K H ι n σV σ) : ∀ vs : List Nat, RS K H ι n (wipe σV vs) (wipeL σ vs)
  | [] => r
  | v :: vs => by
    have ih := RS.wiped r vs
    refine ⟨by show ((wipe σV vs).set v none).length = ((wipeL σ vs).set v none).length; rw [List.length_set, List.length_set]; exact ih.len, fun i d e => ?_⟩
    have e : ((wipeL σ vs).set v none)[i]? = some (some d) := e
    by_cases hv : v = i
    · subst hv
      by_cases hl : v < (wipeL σ vs).length
      · rw [List.getElem?_set_self hl] at e; cases e
      · rw [List.getElem?_eq_none (by simpa using hl)] at e; cases e
    · rw [List.getElem?_set_ne hv] at e
      obtain ⟨u, h1, h2⟩ := ih.at_ i d e
      exact ⟨u, by show ((wipe σV vs).set v none)[i]? = _; rw [List.getElem?_set_ne hv]; exact h1, h2⟩
theorem wipe_other {σ : L2.St} {i : Nat} : ∀ {vs : List Nat}, i ∉ vs → (wipe σ vs)[i]? = σ[i]?
  | [], _ => rfl
  | v :: vs, h => by
    rw [List.mem_cons, not_or] at h
    show ((wipe σ vs).set v none)[i]? = _
    rw [List.getElem?_set_ne (fun e => h.1 e.symm)]
    exact wipe_other h.2
theorem wipe_in {σ : L2.St} {i : Nat} : ∀ {vs : List Nat}, i ∈ vs → (wipe σ vs)[i]? = if i < σ.length then some none else none
  | [], h => by cases h
  | v :: vs, h => by
    show ((wipe σ vs).set v none)[i]? = _
    have hl : (wipe σ vs).length = σ.length := wipe_length σ vs
    by_cases hv : v = i
    · subst hv
      by_cases q : v < σ.length
      · rw [List.getElem?_set_self (by rw [hl]; exact q), if_pos q]
      · rw [List.getElem?_eq_none (by rw [List.length_set, hl]; omega), if_neg q]
    · rw [List.getElem?_set_ne hv]
      rcases List.mem_cons.mp h with e | h
      · exact absurd e.symm hv
      · exact wipe_in h
theorem wipe_ext {σ1 σ2 : L2.St} {vs : List Nat} (hl : σ1.length = σ2.length) (h : ∀ i : Nat, i ∉ vs → σ1[i]? = σ2[i]?) : wipe σ1 vs = wipe σ2 vs := by
  apply List.ext_getElem?
  intro i
  by_cases hi : i ∈ vs
  · rw [wipe_in hi, wipe_in hi, hl]
  · rw [wipe_other hi, wipe_other hi]
    exact h i hi
theorem wipe_wipe {σ : L2.St} {vs : List Nat} : wipe (wipe σ vs) vs = wipe σ vs := wipe_ext (wipe_length σ vs) fun i hi => wipe_other hi
/-- a comprehension's test -/
def condM (ma : LSt → M LV) : LSt → M Bool := fun σ => M.bind (ma σ) fun x => match x with
    | .bl b => M.ret b
    | _ => M.no
section
variable {X : Cx} {W : XW}
theorem c_none : PTs X [] (tG X.K W Eqr fun _ => M.ret true) := ⟨fun pins s σ H Q I ⟨ι, σ', L, h⟩ => pts_nil.run pins s σ H Q I (h.ret rfl)⟩
theorem c_one {c : Expr} {mc : LSt → M LV} (h : PT X c (tT X.K W mc)) : PTs X [c] (tG X.K W Eqr (condM mc)) :=
  ⟨fun pins s σ H Q I ⟨ι, σ', L, q⟩ => (pts_one h).run pins s σ H Q I ⟨ι, σ', L, (At.bind (R := RVr X.K) q).imp fun x H1 ⟨d, ι1, L1, r1, ev, h⟩ => by
    cases d with
    | bl b => cases r1; exact ⟨b, rfl, h.ret rfl⟩
    | _ => exact h.no.elim⟩⟩
end
def turnM (own : List Nat) (mt : LV → LSt → M LSt) (mc : LSt → M Bool) (me : LSt → M LV) (σ : LSt) : LV → M (Option LV) := fun x => M.bind (mt x (wipeL σ own)) fun σ2 => M.bind (mc σ2) fun k =>
        if k then M.bind (me σ2) fun y => M.ret (some y) else M.ret none
def compM (own : List Nat) (mt : LV → LSt → M LSt) (mi : LSt → M Src) (mc : LSt → M Bool) (me : LSt → M LV) : LSt → M LV := fun σ => M.bind (mi σ) fun src => M.bind (new (.lst [])) fun d => match d with
    | .ref D => compGo src (turnM own mt mc me σ) D src.len 0
    | _ => M.no
theorem comp_at {K : PySem.W.Frag} {W : XW} {own : List Nat} {mt : LV → LSt → M LSt} {mi : LSt → M Src} {mc : LSt → M Bool} {me : LSt → M LV} (hW : WInv W) {σV : L2.St} {H : Hp} {Q : VK} (h : tI K W (compM own mt mi mc me) σV H Q) :
    tLc (tSrc K W mi) (tgI K W own mt) (tG K W Eqr mc) (tI K W me) own σV H Q := by
  obtain ⟨ι, σ, L, h⟩ := h
  refine ⟨ι, σ, L, (At.bind (R := SrcR K) h).imp fun J H1 ⟨src, ι1, L1, hJ, ev1, h⟩ => ?_⟩
  intro D hD
  have h := h.newB (u := .lst []) hD ⟨[], upd_same, .nil⟩
  have h : At K W (RVr K) σV σ (ext ι1 L1.length D) (L1 ++ [LO.lst []]) (compGo src (turnM own mt mc me σ) L1.length src.len 0 (L1 ++ [LO.lst []])) Q (upd H1 D (.lst [])) := h
  have ev0 : Ev K ι1 H1 L1.length (ext ι1 L1.length D) (upd H1 D (.lst [])) (L1 ++ [LO.lst []]).length := by
    rw [List.length_append, List.length_singleton]
    exact Ev.new hD
  refine ⟨fun i m H => m + i = src.len ∧ ∃ ι L, Ev K ι1 H1 L1.length ι H L.length ∧ ι L1.length = D ∧ L1.length < L.length ∧ At K W (RVr K) σV σ ι L (compGo src (turnM own mt mc me σ) L1.length m i L) Q H,
    ⟨src.len, rfl, _, _, ev0, ext_eq, by rw [List.length_append, List.length_singleton]; omega, h⟩, ?_⟩
  rintro i m H2 ⟨em, ι2, L2, ev2, eD, lD, h⟩
  obtain ⟨j1, j2⟩ := hJ H2 ι2 L2 ev2 h.rep
  cases m with
  | zero =>
    have h : At K W (RVr K) σV σ ι2 L2 (if src.fin L2 then some (.ok (.ref L1.length) L2) else none) Q H2 := h
    cases hf : src.fin L2 with
    | false => rw [hf] at h; exact h.none.elim
    | true =>
      rw [hf] at h
      have ei : i = src.len := by omega
      refine .inl ⟨by rw [ei]; exact j2 hf, ?_⟩
      have h : At K W (RVr K) σV σ ι2 L2 (M.ret (.ref L1.length) L2) Q H2 := h
      rw [← eD]
      exact h.ret (.ref _ lD)
  | succ m =>
    have h : At K W (RVr K) σV σ ι2 L2 (match src.at i L2 with
      | none => none
      | some x => M.bind (turnM own mt mc me σ x) (fun r => match r with
        | none => compGo src (turnM own mt mc me σ) L1.length m (i + 1)
        | some y => M.bind (appM L1.length y) fun _ => compGo src (turnM own mt mc me σ) L1.length m (i + 1)) L2) Q H2 := h
    cases hx : src.at i L2 with
    | none => rw [hx] at h; exact h.none.elim
    | some x =>
      rw [hx] at h
      obtain ⟨j3, j4⟩ := j1 i x hx
      refine .inr ⟨j3, fun H' => m + (i + 1) = src.len ∧ ∃ ι L, Ev K ι1 H1 L1.length ι H' L.length ∧ ι L1.length = D ∧ L1.length < L.length ∧ At K W (RVr K) σV σ ι L (compGo src (turnM own mt mc me σ) L1.length m (i + 1) L) Q H', fun H' z => ⟨m, Nat.lt_succ_self m, z⟩, fun xV H3 y => ?_⟩
      obtain ⟨ev3, rp3, rx⟩ := j4 xV H3 y
      have h := h.move ev3 rp3
      have rs0 := h.rs
      have rsw := h.rs.wiped own
      have h := h.rebase hW rsw (wipe_length σV own)
      have h : At K W (RVr K) (wipe σV own) (wipeL σ own) ι2 L2 (M.bind (mt x (wipeL σ own)) (fun σ2 => M.bind (mc σ2) fun k => M.bind (if k then M.bind (me σ2) fun y => M.ret (some y) else M.ret none) fun r => match r with
        | none => compGo src (turnM own mt mc me σ) L1.length m (i + 1)
        | some y => M.bind (appM L1.length y) fun _ => compGo src (turnM own mt mc me σ) L1.length m (i + 1)) L2) Q H3 := by
        have e := congrFun (M.bind_bind (mt x (wipeL σ own)) (fun σ2 => M.bind (mc σ2) fun k => if k then M.bind (me σ2) fun y => M.ret (some y) else M.ret none) (fun r => match r with
          | none => compGo src (turnM own mt mc me σ) L1.length m (i + 1)
          | some y => M.bind (appM L1.length y) fun _ => compGo src (turnM own mt mc me σ) L1.length m (i + 1))) L2
        exact At.eqr h (e.trans (congrFun (congrArg (M.bind (mt x (wipeL σ own))) (funext fun σ2 => M.bind_bind _ _ _)) L2))
      refine ⟨ι2, wipeL σ own, L2, x, rx, (At.bind (R := RSo K own (wipe σV own)) h).imp fun σV4 H4 ⟨σ4, ι4, L4, q4, ev4, h⟩ => ?_⟩
      refine ⟨(wipe_ext q4.2.1 q4.2.2).trans wipe_wipe, ?_⟩
      have h := h.rebase hW q4.1 q4.2.1
      refine ⟨ι4, σ4, L4, (At.bind (R := Eqr) h).imp fun b H5 ⟨b', ι5, L5, eb, ev5, h⟩ => ?_⟩
      obtain rfl : b = b' := eb
      have evA : Ev K ι1 H1 L1.length ι5 H5 L5.length := ((ev2.trans ev3).trans ev4).trans ev5
      have e5 : ι5 L1.length = D := by rw [ev5.pl _ (Nat.lt_of_lt_of_le lD ev4.le), ev4.pl _ lD, eD]
      have l5 : L1.length < L5.length := Nat.lt_of_lt_of_le lD (Nat.le_trans ev4.le ev5.le)
      have len4 : σV.length = σV4.length := by rw [q4.2.1, wipe_length]
      have back : ∀ {ι' : Nat → Addr} {L' : LH} {H' : Hp} {r : Option (Out LV)}, Ev K ι2 H3 L2.length ι' H' L'.length → At K W (RVr K) σV4 σ4 ι' L' r Q H' → At K W (RVr K) σV σ ι' L' r Q H' := fun {ι' L' H' r} ev h => by
        exact h.rebase hW (rs0.mono ev) len4
      cases b with
      | false =>
        rw [if_neg Bool.false_ne_true]
        have h : At K W (RVr K) σV4 σ4 ι5 L5 (compGo src (turnM own mt mc me σ) L1.length m (i + 1) L5) Q H5 := h
        exact ⟨by omega, ι5, L5, evA, e5, l5, back (ev4.trans ev5) h⟩
      | true =>
        rw [if_pos rfl]
        have h : At K W (RVr K) σV4 σ4 ι5 L5 (M.bind (me σ4) (fun y => M.bind (appM L1.length y) fun _ => compGo src (turnM own mt mc me σ) L1.length m (i + 1)) L5) Q H5 := by
          have e := congrFun (M.bind_bind (me σ4) (fun y => M.ret (some y)) (fun r => match r with
            | none => compGo src (turnM own mt mc me σ) L1.length m (i + 1)
            | some y => M.bind (appM L1.length y) fun _ => compGo src (turnM own mt mc me σ) L1.length m (i + 1))) L5
          exact At.eqr h e
        refine ⟨ι5, σ4, L5, (At.bind (R := RVr K) h).imp fun yV H6 ⟨y, ι6, L6, ry, ev6, h⟩ => ?_⟩
        have e6 : ι6 L1.length = D := by rw [ev6.pl _ l5, e5]
        have l6 : L1.length < L6.length := Nat.lt_of_lt_of_le l5 ev6.le
        have h : At K W (RVr K) σV4 σ4 ι6 L6 (M.bind (mthR L1.length .append L6[L1.length]? [y]) (fun _ => compGo src (turnM own mt mc me σ) L1.length m (i + 1)) L6) Q H6 := h
        generalize eo : L6[L1.length]? = o at h
        cases o with
        | none => exact h.no.elim
        | some o =>
          cases o with
          | lst ys =>
            have h : At K W (RVr K) σV4 σ4 ι6 L6 (M.chk (decide (ys.length < sizeLine)) (M.bind (setO L1.length (.lst (ys ++ [y]))) fun _ => compGo src (turnM own mt mc me σ) L1.length m (i + 1)) L6) Q H6 := by
              have e : M.bind (mthR L1.length .append (some (.lst ys)) [y]) (fun _ => compGo src (turnM own mt mc me σ) L1.length m (i + 1)) L6 = M.chk (decide (ys.length < sizeLine)) (M.bind (setO L1.length (.lst (ys ++ [y]))) fun _ => compGo src (turnM own mt mc me σ) L1.length m (i + 1)) L6 := by
                show M.bind (M.chk (decide (ys.length < sizeLine)) (M.bind (setO L1.length (.lst (ys ++ [y]))) fun _ => M.ret LV.non)) _ L6 = _
                cases decide (ys.length < sizeLine) with
                | false => rfl
                | true => rfl
              exact At.eqr h e
            obtain ⟨c, h⟩ := h.chk
            obtain ⟨zs, h1, r1⟩ := h.rep.ob _ _ eo
            have hD6 : H6 D = some (.lst zs) := by rw [← e6]; exact h1
            refine ⟨zs, hD6, by rw [r1.length]; exact of_decide_eq_true c, by omega, ι6, L6.set L1.length (.lst (ys ++ [y])), ?_, e6, by rw [List.length_set]; exact l6, ?_⟩
            · rw [List.length_set]
              exact (evA.trans ev6).trans (Ev.set hD6 trivial)
            · have h := h.put (u := .lst (zs ++ [yV])) eo rfl rfl ⟨_, upd_same, (r1.append (.cons ry .nil)).mono (Ev.set h1 trivial)⟩
              rw [e6] at h
              refine back ?_ h
              rw [List.length_set]
              exact ((ev4.trans ev5).trans ev6).trans (Ev.set hD6 trivial)
          | _ => exact h.no.elim
end Mv

/-! Mv10: the comprehension's rule, statements. -/
namespace Mv
open PySem PySem.Spec PyProof.Rows L2

section
variable {X : Cx} {W : XW} {tg iter elt : Expr} {ifs : List Expr} {scope : Scope} {own : List (Str × Nat)} {pos : Pos}
  {mt : LV → LSt → M LSt} {mi : LSt → M Src} {mc : LSt → M Bool} {me : LSt → M LV}
/-- what holds in every block of a comprehension -/
abbrev AllB (X : Cx) (scope : Scope) (p : Cx → Prop) : Prop := ∀ (s : Shared) (H : Hp) (C : Addr) (cl : List (Str × Addr)) (fp : List Addr), p (X.blk s H scope (compEnvC scope cl C X.env) fp)
theorem e_comp (G : Good X) (hW : WInv W) (hi : PI X tg iter (tSrc X.K W mi)) (ok : BlkOk X.N X.env.scope scope own)
    (hg : AllB X scope fun Y => PG Y tg (tgI X.K W (own.map (·.2)) mt)) (ht : AllB X scope fun Y => PTs Y ifs (tG X.K W Eqr mc)) (he : AllB X scope fun Y => PE Y elt (tI X.K W me))
    (hs : ∀ x, foldedSetIterable iter X.env x = pure x) : PE X (.ListComp elt [⟨tg, iter, ifs, 0⟩] scope pos) (tI X.K W (compM (own.map (·.2)) mt mi mc me)) :=
  PE.imp (pe_lc G.calm G.nd hi ok hg ht he hs) fun σ H Q h => comp_at hW h
theorem Good.blk (G : Good X) {s : Shared} {H : Hp} {C : Addr} {cl : List (Str × Addr)} {fp : List Addr} : Good (X.blk s H scope (compEnvC scope cl C X.env) fp) := ⟨G.calm, G.hg, G.hu, G.nd⟩
end

/-! ### how a block of statements ends -/
inductive FlV where
  | nx | bk | ct | rt (v : V)
def sameFl (K : PySem.W.Frag) (H : Hp) (ι : Nat → Addr) (n : Nat) : FlV → Fl → Prop
  | .nx, .nx => True
  | .bk, .bk => True
  | .ct, .ct => True
  | .rt v, .rt d => RV K H ι n v d
  | _, _ => False
def FlR (K : PySem.W.Frag) (n0 : Nat) : Rl (Fl × LSt) (FlV × L2.St) := fun H ι n v d => RS K H ι n v.2 d.2 ∧ v.2.length = n0 ∧ sameFl K H ι n v.1 d.1
def endsQ (D : Ends) : FlV × L2.St → Hp → Prop := fun v H => match v.1 with
  | .nx => D.nx v.2 H
  | .bk => D.bk v.2 H
  | .ct => D.ct v.2 H
  | .rt u => D.rt u H
def tS (K : PySem.W.Frag) (W : XW) (m : LSt → M (Fl × LSt)) : TS := fun D σV H => tG K W (FlR K σV.length) m σV H (endsQ D)
section
variable {K : PySem.W.Frag} {W : XW} {D : Ends} {σV σ1V : L2.St} {σ σ1 : LSt} {ι : Nat → Addr} {L : LH} {H : Hp} {n0 : Nat}
theorem At.nx (h : At K W (FlR K n0) σV σ ι L (M.ret (Fl.nx, σ1) L) (endsQ D) H) (r : RS K H ι L.length σ1V σ1) (hl : σ1V.length = n0) : D.nx σ1V H := At.ret (v := (FlV.nx, σ1V)) h ⟨r, hl, trivial⟩
theorem At.rt {d : LV} {v : V} (h : At K W (FlR K n0) σV σ ι L (M.ret (Fl.rt d, σ1) L) (endsQ D) H) (r : RS K H ι L.length σ1V σ1) (hl : σ1V.length = n0) (rv : RV K H ι L.length v d) : D.rt v H := At.ret (v := (FlV.rt v, σ1V)) h ⟨r, hl, rv⟩
theorem At.bk (h : At K W (FlR K n0) σV σ ι L (M.ret (Fl.bk, σ1) L) (endsQ D) H) (r : RS K H ι L.length σ1V σ1) (hl : σ1V.length = n0) : D.bk σ1V H := At.ret (v := (FlV.bk, σ1V)) h ⟨r, hl, trivial⟩
theorem At.ct (h : At K W (FlR K n0) σV σ ι L (M.ret (Fl.ct, σ1) L) (endsQ D) H) (r : RS K H ι L.length σ1V σ1) (hl : σ1V.length = n0) : D.ct σ1V H := At.ret (v := (FlV.ct, σ1V)) h ⟨r, hl, trivial⟩
/-- on from other names -/
theorem At.onS (hW : WInv W) {m : LSt → M (Fl × LSt)} (h : At K W (FlR K σV.length) σV σ ι L (m σ1 L) (endsQ D) H) (r : RS K H ι L.length σ1V σ1) (hl : σ1V.length = σV.length) : tS K W m D σ1V H := by
  have h := h.rebase hW r hl
  rw [← hl] at h
  exact ⟨ι, σ1, L, h⟩
end
def seqM (m1 m2 : LSt → M (Fl × LSt)) : LSt → M (Fl × LSt) := fun σ => M.bind (m1 σ) fun (x : Fl × LSt) => match x with
    | (.nx, σ1) => m2 σ1
    | (f, σ1) => M.ret (f, σ1)
def asgM (me : LSt → M LV) (mt : LV → LSt → M LSt) : LSt → M (Fl × LSt) := fun σ => M.bind (me σ) fun x => M.bind (mt x σ) fun σ1 => M.ret (.nx, σ1)
def ifsM (mc : LSt → M LV) (ma mb : LSt → M (Fl × LSt)) : LSt → M (Fl × LSt) := fun σ => M.bind (mc σ) fun x => match x with
    | .bl true => ma σ
    | .bl false => mb σ
    | _ => M.no
def forM (mi : LSt → M Src) (mt : LV → LSt → M LSt) (mb : LSt → M (Fl × LSt)) : LSt → M (Fl × LSt) := fun σ => M.bind (mi σ) fun src => forGo src (fun x σ1 => M.bind (mt x σ1) fun σ2 => mb σ2) src.len 0 σ
def augM (i : Nat) (op : BOp) (me : LSt → M LV) : LSt → M (Fl × LSt) := fun σ => M.bind (getV σ i) fun x => M.bind (me σ) fun y => M.bind (augV op x y) fun z => M.ret (.nx, σ.set i (some z))
def parM (is : List Nat) (ms : LSt → M (List LV)) : LSt → M (Fl × LSt) := fun σ => M.bind (ms σ) fun xs => M.ofO (setAll σ is xs) fun σ1 => M.ret (.nx, σ1)
section
variable {X : Cx} {W : XW} {st : Stmt} {rest : List Stmt} {e tg c : Expr} {pos : Pos} {me mc : LSt → M LV} {m1 m2 : LSt → M (Fl × LSt)} {mt : LV → LSt → M LSt} {own : List Nat}
theorem b_nil : PSs X [] (tS X.K W fun σ => M.ret (.nx, σ)) := PSs.imp pss_nil fun D σV H ⟨ι, σ, L, h⟩ => h.nx h.rs rfl
theorem b_cons (hW : WInv W) (h1 : PS X st (tS X.K W m1)) (h2 : PSs X rest (tS X.K W m2)) : PSs X (st :: rest) (tS X.K W (seqM m1 m2)) :=
  PSs.imp (pss_cons h1 h2) fun D σV H ⟨ι, σ, L, h⟩ => by
    refine ⟨ι, σ, L, (At.bind (R := FlR X.K σV.length) h).imp fun v H1 ⟨d, ι1, L1, q, ev, h⟩ => ?_⟩
    obtain ⟨f, σ1V⟩ := v
    obtain ⟨g, σ1⟩ := d
    obtain ⟨q1, q2, q3⟩ := q
    cases f with
    | nx =>
      cases g with
      | nx => exact At.onS hW h q1 q2
      | _ => exact False.elim q3
    | bk =>
      cases g with
      | bk =>
        have h : At X.K W (FlR X.K σV.length) σV σ ι1 L1 (M.ret (Fl.bk, σ1) L1) (endsQ D) H1 := h
        exact h.bk q1 q2
      | _ => exact False.elim q3
    | ct =>
      cases g with
      | ct =>
        have h : At X.K W (FlR X.K σV.length) σV σ ι1 L1 (M.ret (Fl.ct, σ1) L1) (endsQ D) H1 := h
        exact h.ct q1 q2
      | _ => exact False.elim q3
    | rt u =>
      cases g with
      | rt d => exact h.rt q1 q2 q3
      | _ => exact False.elim q3
theorem s_asg (he : PE X e (tI X.K W me)) (hg : PG X tg (tgI X.K W own mt)) (hs : swapsWithSole [tg] e pos.line X.env = pure false) (hw : swappedStores [tg] e X.env = pure none)
    (h1 : (assignEach [tg] X.env).map (·.2) = [assign tg X.env]) : PS X (.Assign [tg] e pos) (tS X.K W (asgM me mt)) :=
  PS.imp (ps_asg he hg hs hw h1) fun D σV H ⟨ι, σ, L, h⟩ => by
    refine ⟨ι, σ, L, (At.bind (R := RVr X.K) h).imp fun x H1 ⟨d, ι1, L1, r1, ev, h⟩ => ?_⟩
    refine ⟨ι1, σ, L1, d, r1, (At.bind (R := RSo X.K own σV) h).imp fun σ1 H2 ⟨σ', ι2, L2, q, ev2, h⟩ => ?_⟩
    exact h.nx q.1 q.2.1
/-- name = [.. for ..] on one line -/
theorem s_setLc {i : Nat} {y : Str} {py : Pos} {elt tg iter : Expr} {ifs : List Expr} {scope : Scope} {own : List (Str × Nat)} {pos spos : Pos} {mt : LV → LSt → M LSt} {mi : LSt → M Src} {mc : LSt → M Bool} {me : LSt → M LV}
    (G : Good X) (hW : WInv W) (hy : X.N[i]? = some y) (hyl : X.env.scope.names.lookup y = some .local)
    (hsw : swapsWith (.ListComp elt [⟨tg, iter, ifs, 0⟩] scope pos) (some (.Name y py)) spos.line X.env = pure true) (hi : PI X tg iter (tSrc X.K W mi)) (ok : BlkOk X.N X.env.scope scope own)
    (hg : AllB X scope fun Y => PG Y tg (tgI X.K W (own.map (·.2)) mt)) (ht : AllB X scope fun Y => PTs Y ifs (tG X.K W Eqr mc)) (he : AllB X scope fun Y => PE Y elt (tI X.K W me))
    (hs : ∀ x, foldedSetIterable iter X.env x = pure x) : PS X (.Assign [.Name y py] (.ListComp elt [⟨tg, iter, ifs, 0⟩] scope pos) spos) (tS X.K W (asgM (compM (own.map (·.2)) mt mi mc me) (nameM i))) :=
  PS.imp (ps_setLc G.calm G.nd hy hyl hsw hi ok hg ht he hs) fun D σV H ⟨ι, σ, L, h⟩ => by
    refine comp_at (Q := fun x H1 => gName i x σV H1 D.nx) hW ⟨ι, σ, L, (At.bind (R := RVr X.K) h).imp fun x H1 ⟨d, ι1, L1, r1, ev, h⟩ => ?_⟩
    have h : At X.K W _ σV σ ι1 L1 (M.bind (M.chk (decide (i < σ.length)) (M.ret (σ.set i (some d)))) (fun σ1 => M.ret (Fl.nx, σ1)) L1) _ H1 := h
    by_cases hl : i < σ.length
    · rw [decide_eq_true hl] at h
      exact At.nx (σ1V := σV.set i (some x)) h (h.rs.set i r1) (by rw [List.length_set])
    · rw [decide_eq_false hl] at h
      exact (At.no h).elim
theorem s_exp (he : PE X e (tI X.K W me)) (hs : swapsWith e none pos.line X.env = pure false) : PS X (.Expr e pos) (tS X.K W fun σ => M.bind (me σ) fun _ => M.ret (.nx, σ)) :=
  PS.imp (ps_expr he hs) fun D σV H ⟨ι, σ, L, h⟩ => ⟨ι, σ, L, (At.bind (R := RVr X.K) h).imp fun x H1 ⟨d, ι1, L1, r1, ev, h⟩ => h.nx h.rs rfl⟩
theorem s_ret (he : PE X e (tI X.K W me)) : PS X (.Return (some e) pos) (tS X.K W fun σ => M.bind (me σ) fun x => M.ret (.rt x, σ)) :=
  PS.imp (ps_ret he) fun D σV H ⟨ι, σ, L, h⟩ => ⟨ι, σ, L, (At.bind (R := RVr X.K) h).imp fun x H1 ⟨d, ι1, L1, r1, ev, h⟩ => h.rt h.rs rfl r1⟩
theorem s_retN : PS X (.Return none pos) (tS X.K W fun σ => M.ret (.rt .non, σ)) :=
  PS.imp ps_retN fun D σV H ⟨ι, σ, L, h⟩ => h.rt h.rs rfl .non
theorem s_pass : PS X (.Pass pos) (tS X.K W fun σ => M.ret (.nx, σ)) := PS.imp ps_pass fun D σV H ⟨ι, σ, L, h⟩ => h.nx h.rs rfl
theorem s_brk : PS X (.Break pos) (tS X.K W fun σ => M.ret (.bk, σ)) := PS.imp ps_break fun D σV H ⟨ι, σ, L, h⟩ => At.ret (v := (FlV.bk, σV)) h ⟨h.rs, rfl, trivial⟩
theorem s_cnt : PS X (.Continue pos) (tS X.K W fun σ => M.ret (.ct, σ)) := PS.imp ps_continue fun D σV H ⟨ι, σ, L, h⟩ => At.ret (v := (FlV.ct, σV)) h ⟨h.rs, rfl, trivial⟩
theorem s_ifs {a b : List Stmt} (hc : PT X c (tT X.K W mc)) (ha : PSs X a (tS X.K W m1)) (hb : PSs X b (tS X.K W m2)) : PS X (.If c a b pos) (tS X.K W (ifsM mc m1 m2)) :=
  PS.imp (ps_if hc ha hb) fun D σV H ⟨ι, σ, L, h⟩ => by
    refine ⟨ι, σ, L, (At.bind (R := RVr X.K) h).imp fun x H1 ⟨d, ι1, L1, r1, ev, h⟩ => ?_⟩
    cases d with
    | bl k =>
      cases r1
      refine ⟨k, rfl, ?_⟩
      cases k with
      | true => rw [if_pos rfl]; exact ⟨ι1, σ, L1, h⟩
      | false => rw [if_neg Bool.false_ne_true]; exact ⟨ι1, σ, L1, h⟩
    | _ => exact h.no.elim
theorem aug_ok (op : BOp) : PIp X (opOf op) (fun x y H Q => match op with
    | .add => rI0 (fun i j => .int (i + j)) x y H Q
    | .sub => rI0 (fun i j => .int (i - j)) x y H Q
    | .mul => rI CMul (fun i j => .int (i * j)) x y H Q
    | .fdiv => rI CDiv (fun i j => .int (i / j)) x y H Q
    | _ => False) := by
  cases op with
  | add => exact iop_add
  | sub => exact iop_sub
  | mul => exact iop_mul
  | fdiv => exact iop_fdiv
  | _ => exact fun _ _ _ _ _ _ _ _ _ _ _ _ h => h.elim
theorem s_aug {i : Nat} {x : Str} {p : Pos} (op : BOp) (G : Good X) (hi : X.N[i]? = some x) (hx : Loc X.env.scope x) (he : PE X e (tI X.K W me)) (hf : X.fn x = true ∨ X.env.scope.names.lookup x = some .local) :
    PS X (.AugAssign (.Name x p) (opOf op) e pos) (tS X.K W (augM i op me)) :=
  PS.imp (ps_aug G.nd hi hx he (aug_ok op) hf) fun D σV H ⟨ι, σ, L, h⟩ => by
    have h : At X.K W (FlR X.K σV.length) σV σ ι L (M.bind (getR σ[i]?) (fun x => M.bind (me σ) fun y => M.bind (augV op x y) fun z => M.ret (.nx, σ.set i (some z))) L) (endsQ D) H := h
    generalize e1 : σ[i]? = o at h
    cases o with
    | none => exact (At.no h).elim
    | some o =>
      cases o with
      | none => exact (At.no h).elim
      | some d0 =>
        obtain ⟨v0, h1, r0⟩ := h.rs.at_ i d0 e1
        have h : At X.K W (FlR X.K σV.length) σV σ ι L (M.bind (me σ) (fun y => M.bind (augV op d0 y) fun z => M.ret (.nx, σ.set i (some z))) L) (endsQ D) H := h
        refine ⟨v0, h1, ι, σ, L, (At.bind (R := RVr X.K) h).imp fun y H1 ⟨d, ι1, L1, r1, ev, h⟩ => ?_⟩
        have r0 := r0.mono ev
        have fin : ∀ {z : Int}, At X.K W (FlR X.K σV.length) σV σ ι1 L1 (M.ret (Fl.nx, σ.set i (some (.int z))) L1) (endsQ D) H1 → D.nx (σV.set i (some (.int z))) H1 := fun {z} h => h.nx (h.rs.set i (.int z)) (by rw [List.length_set])
        cases op with
        | add => cases d0 <;> cases d <;> first
          | exact (At.no h).elim
          | (cases r0; cases r1; exact ⟨_, _, rfl, rfl, fin h⟩)
        | sub => cases d0 <;> cases d <;> first
          | exact (At.no h).elim
          | (cases r0; cases r1; exact ⟨_, _, rfl, rfl, fin h⟩)
        | mul =>
          cases d0 with
          | int a =>
            cases d with
            | int b =>
              cases r0
              cases r1
              have h : At X.K W (FlR X.K σV.length) σV σ ι1 L1 (M.bind (M.chk (decide ((-(2 ^ 64) < a ∧ a < 2 ^ 64) ∨ (-(2 ^ 64) < b ∧ b < 2 ^ 64))) (M.ret (LV.int (a * b)))) (fun z => M.ret (Fl.nx, σ.set i (some z))) L1) (endsQ D) H1 := h
              by_cases c : (-(2 ^ 64) < a ∧ a < 2 ^ 64) ∨ (-(2 ^ 64) < b ∧ b < 2 ^ 64)
              · rw [decide_eq_true c] at h
                exact ⟨_, _, rfl, rfl, c, fin h⟩
              · rw [decide_eq_false c] at h
                exact (At.no h).elim
            | _ => exact (At.no h).elim
          | _ => cases d <;> exact (At.no h).elim
        | fdiv =>
          cases d0 with
          | int a =>
            cases d with
            | int b =>
              cases r0
              cases r1
              have h : At X.K W (FlR X.K σV.length) σV σ ι1 L1 (M.bind (M.chk (decide (0 < b ∧ b < 1073741824)) (M.ret (LV.int (a / b)))) (fun z => M.ret (Fl.nx, σ.set i (some z))) L1) (endsQ D) H1 := h
              by_cases c : 0 < b ∧ b < 1073741824
              · rw [decide_eq_true c] at h
                exact ⟨_, _, rfl, rfl, c, fin h⟩
              · rw [decide_eq_false c] at h
                exact (At.no h).elim
            | _ => exact (At.no h).elim
          | _ => cases d <;> exact (At.no h).elim
        | mod => cases d0 <;> cases d <;> exact (At.no h).elim
        | pow => cases d0 <;> cases d <;> exact (At.no h).elim
/-- a, b = x, y -/
theorem s_par {i j : Nat} {x y : Str} {a b : Expr} {ms : LSt → M (List LV)} {px py pt : Pos} {kt k2 pt2} (G : Good X) (hi : X.N[i]? = some x) (hj : X.N[j]? = some y) (hij : i ≠ j)
    (hx : X.env.scope.names.lookup x = some .local) (hy : X.env.scope.names.lookup y = some .local) (ha : PA X [a, b] (tIs X.K W ms))
    (hw : swappedStores [.Tuple [.Name x px, .Name y py] kt pt] (.Tuple [a, b] k2 pt2) X.env = pure (some [x, y]))
    (hs : swapsWithSole [.Tuple [.Name x px, .Name y py] kt pt] (.Tuple [a, b] k2 pt2) pos.line X.env = pure false) :
    PS X (.Assign [.Tuple [.Name x px, .Name y py] kt pt] (.Tuple [a, b] k2 pt2) pos) (tS X.K W (parM [i, j] ms)) :=
  PS.imp (L2.ps_par G.calm G.nd hi hj hij hx hy ha hw hs) fun D σV H ⟨ι, σ, L, h⟩ => by
    refine ⟨ι, σ, L, (At.bind (R := RVsr X.K) h).imp fun vs H1 ⟨ds, ι1, L1, r1, ev, h⟩ => ?_⟩
    obtain ⟨σ1, e, h⟩ := At.ofO h
    match ds, r1, e with
    | [], _, e => cases e
    | [_], _, e => unfold setAll at e; split at e <;> cases e
    | [d1, d2], .cons (v := v1) r1 (.cons (v := v2) r2 .nil), e =>
      unfold setAll at e
      split at e
      · unfold setAll at e
        split at e
        · cases e
          exact ⟨v1, v2, rfl, h.nx ((h.rs.set i r1).set j r2) (by rw [List.length_set, List.length_set])⟩
        · cases e
      · cases e
    | _ :: _ :: _ :: _, _, e =>
      unfold setAll at e
      split at e
      · unfold setAll at e
        split at e <;> cases e
      · cases e
/-- a, b, c = x, y, z -/
theorem s_par3 {i j l : Nat} {x y z : Str} {a b c : Expr} {ms : LSt → M (List LV)} {px py pz pt : Pos} {kt k2 pt2} (G : Good X) (hi : X.N[i]? = some x) (hj : X.N[j]? = some y) (hl : X.N[l]? = some z) (hij : i ≠ j) (hil : i ≠ l) (hjl : j ≠ l)
    (hx : X.env.scope.names.lookup x = some .local) (hy : X.env.scope.names.lookup y = some .local) (hz : X.env.scope.names.lookup z = some .local) (ha : PA X [a, b, c] (tIs X.K W ms))
    (hw : swappedStores [.Tuple [.Name x px, .Name y py, .Name z pz] kt pt] (.Tuple [a, b, c] k2 pt2) X.env = pure (some [x, y, z]))
    (hs : swapsWithSole [.Tuple [.Name x px, .Name y py, .Name z pz] kt pt] (.Tuple [a, b, c] k2 pt2) pos.line X.env = pure false) :
    PS X (.Assign [.Tuple [.Name x px, .Name y py, .Name z pz] kt pt] (.Tuple [a, b, c] k2 pt2) pos) (tS X.K W (parM [i, j, l] ms)) :=
  PS.imp (L2.ps_par3 G.calm G.nd hi hj hl hij hil hjl hx hy hz ha hw hs) fun D σV H ⟨ι, σ, L, h⟩ => by
    refine ⟨ι, σ, L, (At.bind (R := RVsr X.K) h).imp fun vs H1 ⟨ds, ι1, L1, r1, ev, h⟩ => ?_⟩
    obtain ⟨σ1, e, h⟩ := At.ofO h
    match ds, r1, e with
    | [], _, e => cases e
    | [_], _, e => unfold setAll at e; split at e <;> cases e
    | [_, _], _, e =>
      unfold setAll at e
      split at e
      · unfold setAll at e
        split at e <;> cases e
      · cases e
    | [d1, d2, d3], .cons (v := v1) r1 (.cons (v := v2) r2 (.cons (v := v3) r3 .nil)), e =>
      unfold setAll at e
      split at e
      · unfold setAll at e
        split at e
        · unfold setAll at e
          split at e
          · cases e
            exact ⟨v1, v2, v3, rfl, h.nx (((h.rs.set i r1).set j r2).set l r3) (by rw [List.length_set, List.length_set, List.length_set])⟩
          · cases e
        · cases e
      · cases e
    | _ :: _ :: _ :: _ :: _, _, e =>
      unfold setAll at e
      split at e
      · unfold setAll at e
        split at e
        · unfold setAll at e
          split at e <;> cases e
        · cases e
      · cases e
end

/-! ### loops -/
section
variable {X : Cx} {W : XW} {body : List Stmt} {iter tg c : Expr} {pos : Pos} {mc : LSt → M LV} {mb : LSt → M (Fl × LSt)} {mt : LV → LSt → M LSt} {mi : LSt → M Src} {own : List Nat}
/-- the body's end, inside a loop -/
theorem loop_end {K : PySem.W.Frag} {n0 : Nat} {D : Ends} {N : L2.St → Hp → Prop} {σV : L2.St} {σ : LSt} {ι : Nat → Addr} {L : LH} {H : Hp} {m : LSt → M (Fl × LSt)} (hW : WInv W) (hn : σV.length = n0)
    (h : At K W (FlR K n0) σV σ ι L (M.bind (mb σ) (fun (r : Fl × LSt) => match r with
      | (.nx, σ1) => m σ1
      | (.ct, σ1) => m σ1
      | (.bk, σ1) => M.ret (.nx, σ1)
      | (.rt v, σ1) => M.ret (.rt v, σ1)) L) (endsQ D) H)
    (hN : ∀ σ1V σ1 ι1 L1 H1, σ1V.length = n0 → Ev K ι H L.length ι1 H1 L1.length → At K W (FlR K n0) σ1V σ1 ι1 L1 (m σ1 L1) (endsQ D) H1 → N σ1V H1) : tS K W mb { D with nx := N, ct := N, bk := D.nx } σV H := by
  subst hn
  refine ⟨ι, σ, L, (At.bind (R := FlR K σV.length) h).imp fun v H1 ⟨d, ι1, L1, q, ev, h⟩ => ?_⟩
  obtain ⟨f, σ1V⟩ := v
  obtain ⟨g, σ1⟩ := d
  obtain ⟨q1, q2, q3⟩ := q
  cases f with
  | nx =>
    cases g with
    | nx => exact hN σ1V σ1 ι1 L1 H1 q2 ev (At.rebase hW h q1 q2)
    | _ => exact False.elim q3
  | bk =>
    cases g with
    | bk => exact h.nx q1 q2
    | _ => exact False.elim q3
  | ct =>
    cases g with
    | ct => exact hN σ1V σ1 ι1 L1 H1 q2 ev (At.rebase hW h q1 q2)
    | _ => exact False.elim q3
  | rt u =>
    cases g with
    | rt d => exact h.rt q1 q2 q3
    | _ => exact False.elim q3
theorem s_for (G : Good X) (hW : WInv W) (hp : PassesOwn (model X.prog X.w) X.A X.env X.xe) (hi : PI X tg iter (tSrc X.K W mi)) (hg : PG X tg (tgI X.K W own mt)) (hb : PSs X body (tS X.K W mb)) (hs : ∀ x, foldedSetIterable iter X.env x = pure x) :
    PS X (.For tg iter body [] pos) (tS X.K W (forM mi mt mb)) :=
  PS.imp (ps_for hp G.calm hi hg hb hs) fun D σV H ⟨ι, σ, L, h⟩ => by
    refine ⟨ι, σ, L, (At.bind (R := SrcR X.K) h).imp fun J H1 ⟨src, ι1, L1, hJ, ev1, h⟩ => ?_⟩
    refine ⟨fun i m σV' H' => m + i = src.len ∧ σV'.length = σV.length ∧ ∃ ι σ L, Ev X.K ι1 H1 L1.length ι H' L.length ∧ At X.K W (FlR X.K σV.length) σV' σ ι L (forGo src (fun x σ1 => M.bind (mt x σ1) fun σ2 => mb σ2) m i σ L) (endsQ D) H',
      ⟨src.len, rfl, rfl, ι1, σ, L1, Ev.refl, h⟩, ?_⟩
    rintro i m σV2 H2 ⟨em, hl2, ι2, σ2, L2, ev2, h⟩
    obtain ⟨j1, j2⟩ := hJ H2 ι2 L2 ev2 h.rep
    cases m with
    | zero =>
      have h : At X.K W (FlR X.K σV.length) σV2 σ2 ι2 L2 (if src.fin L2 then some (.ok (Fl.nx, σ2) L2) else none) (endsQ D) H2 := h
      cases hf : src.fin L2 with
      | false => rw [hf] at h; exact h.none.elim
      | true =>
        rw [hf] at h
        have ei : i = src.len := by omega
        have h : At X.K W (FlR X.K σV.length) σV2 σ2 ι2 L2 (M.ret (Fl.nx, σ2) L2) (endsQ D) H2 := h
        exact .inl ⟨by rw [ei]; exact j2 hf, h.nx h.rs hl2⟩
    | succ m =>
      have h : At X.K W (FlR X.K σV.length) σV2 σ2 ι2 L2 (match src.at i L2 with
        | none => none
        | some x => M.bind (M.bind (mt x σ2) fun σ3 => mb σ3) (fun (r : Fl × LSt) => match r with
          | (.nx, σ1) => forGo src (fun x σ1 => M.bind (mt x σ1) fun σ2 => mb σ2) m (i + 1) σ1
          | (.ct, σ1) => forGo src (fun x σ1 => M.bind (mt x σ1) fun σ2 => mb σ2) m (i + 1) σ1
          | (.bk, σ1) => M.ret (.nx, σ1)
          | (.rt v, σ1) => M.ret (.rt v, σ1)) L2) (endsQ D) H2 := h
      cases hx : src.at i L2 with
      | none => rw [hx] at h; exact h.none.elim
      | some x =>
        rw [hx] at h
        obtain ⟨j3, j4⟩ := j1 i x hx
        refine .inr ⟨j3, fun σV' H' => m + (i + 1) = src.len ∧ σV'.length = σV.length ∧ ∃ ι σ L, Ev X.K ι1 H1 L1.length ι H' L.length ∧ At X.K W (FlR X.K σV.length) σV' σ ι L (forGo src (fun x σ1 => M.bind (mt x σ1) fun σ2 => mb σ2) m (i + 1) σ L) (endsQ D) H', fun σ' H' z => ⟨m, Nat.lt_succ_self m, z⟩, fun xV H3 y => ?_⟩
        obtain ⟨ev3, rp3, rx⟩ := j4 xV H3 y
        have h := h.move ev3 rp3
        have h := At.eqr h (congrFun (M.bind_bind (mt x σ2) (fun σ3 => mb σ3) _) L2)
        refine ⟨ι2, σ2, L2, x, rx, (At.bind (R := RSo X.K own σV2) h).imp fun σV4 H4 ⟨σ4, ι4, L4, q4, ev4, h⟩ => ?_⟩
        have hl4 : σV4.length = σV.length := q4.2.1.trans hl2
        have h := At.rebase hW h q4.1 q4.2.1
        exact loop_end hW hl4 h fun σ1V σ1 ι5 L5 H5 hl5 ev5 h => ⟨by omega, hl5, ι5, σ1, L5, ((ev2.trans ev3).trans ev4).trans ev5, h⟩
theorem s_whl (G : Good X) (hW : WInv W) (hp : PassesOwn (model X.prog X.w) X.A X.env X.xe) (hc : PT X c (tT X.K W mc)) (hb : PSs X body (tS X.K W mb)) : PS X (.While c body [] pos) (tS X.K W fun σ => whlGo mc mb fuel σ) :=
  PS.imp (ps_while hp hc hb) fun D σV H ⟨ι, σ, L, h⟩ => by
    refine ⟨fun m σV' H' => σV'.length = σV.length ∧ ∃ ι σ L, At X.K W (FlR X.K σV.length) σV' σ ι L (whlGo mc mb m σ L) (endsQ D) H', ⟨fuel, rfl, ι, σ, L, h⟩, ?_⟩
    rintro m σV2 H2 ⟨hl2, ι2, σ2, L2, h⟩
    cases m with
    | zero => exact (At.no h).elim
    | succ m =>
      have h : At X.K W (FlR X.K σV.length) σV2 σ2 ι2 L2 (M.bind (mc σ2) (fun x => match x with
        | .bl false => M.ret (.nx, σ2)
        | .bl true => M.bind (mb σ2) fun (r : Fl × LSt) => match r with
          | (.nx, σ1) => whlGo mc mb m σ1
          | (.ct, σ1) => whlGo mc mb m σ1
          | (.bk, σ1) => M.ret (.nx, σ1)
          | (.rt v, σ1) => M.ret (.rt v, σ1)
        | _ => M.no) L2) (endsQ D) H2 := h
      refine ⟨ι2, σ2, L2, (At.bind (R := RVr X.K) h).imp fun x H3 ⟨d, ι3, L3, r3, ev3, h⟩ => ?_⟩
      cases d with
      | bl k =>
        cases r3
        refine ⟨k, rfl, ?_⟩
        cases k with
        | false =>
          rw [if_neg Bool.false_ne_true]
          exact At.nx h h.rs hl2
        | true =>
          rw [if_pos rfl]
          refine ⟨fun σV' H' => σV'.length = σV.length ∧ ∃ ι σ L, At X.K W (FlR X.K σV.length) σV' σ ι L (whlGo mc mb m σ L) (endsQ D) H', fun σ' H' z => ⟨m, Nat.lt_succ_self m, z⟩, ?_⟩
          exact loop_end hW hl2 h fun σ1V σ1 ι5 L5 H5 hl5 ev5 h => ⟨hl5, ι5, σ1, L5, h⟩
      | _ => exact (At.no h).elim
end
end Mv

/-! Mv11: the rules by the small language's terms. -/
namespace Mv
open PySem PySem.Spec PyProof.Rows L2

abbrev EE (X : Cx) (W : XW) (R : Cal) (e : Expr) (i : IE) : Prop := PE X e (tI X.K W (evE R i))
abbrev ET (X : Cx) (W : XW) (R : Cal) (e : Expr) (i : IE) : Prop := PT X e (tT X.K W (evE R i))
abbrev EW (X : Cx) (W : XW) (R : Cal) (e : Expr) (i : IE) : Prop := PW X e (tT X.K W (evE R i))
abbrev EA (X : Cx) (W : XW) (R : Cal) (es : List Expr) (is : IEs) : Prop := PA X es (tIs X.K W (evEs R is))
abbrev EK (X : Cx) (W : XW) (R : Cal) (es : List Keyword) (is : IEs) : Prop := PK X es (tIs X.K W (evEs R is))
abbrev EO (X : Cx) (W : XW) (R : Cal) (e : Option Expr) (i : IO) : Prop := PO X e (tIO X.K W (evO R i))
abbrev EC (X : Cx) (W : XW) (R : Cal) (es : List Expr) (i : IO) : Prop := PTs X es (tG X.K W Eqr (evC R i))
abbrev EI (X : Cx) (W : XW) (R : Cal) (tg e : Expr) (i : II) : Prop := PI X tg e (tSrc X.K W (evI R i))
abbrev EG (X : Cx) (W : XW) (R : Cal) (own : List Nat) (e : Expr) (t : IT) : Prop := PG X e (tgI X.K W own (evT R t))
abbrev EGs (X : Cx) (W : XW) (R : Cal) (own : List Nat) (e : List Expr) (t : ITs) : Prop := PGs X e (tgsI X.K W own (evTs R t))
abbrev ES (X : Cx) (W : XW) (R : Cal) (s : Stmt) (i : IS) : Prop := PS X s (tS X.K W (evS R i))
abbrev EB (X : Cx) (W : XW) (R : Cal) (s : List Stmt) (i : List IS) : Prop := PSs X s (tS X.K W (evB R i))

section
variable {X : Cx} {W : XW} {R : Cal} {a b c e tg : Expr} {ia ib ic ie : IE} {es rest : List Expr} {is : IEs} {pos p p2 p3 : Pos} {j k : Nat}
theorem E_var {i : Nat} {x : Str} (hN : X.N[i]? = some x) (hv : Vis X.env.scope x) (hd : (x == ("__debug__" : Str)) = false) (hcd : (x == ("__classdict__" : Str)) = false) : EE X W R (.Name x pos) (.var i) := e_var hN hv hd hcd
theorem E_int {i : Int} : EE X W R (.Constant (.int i) j pos) (.lit (.int i)) := e_int
theorem E_str {i : Str} : EE X W R (.Constant (.str i) j pos) (.lit (.str i)) := e_str
theorem E_bl {i : Bool} : EE X W R (.Constant (.bool i) j pos) (.lit (.bl i)) := e_bl
theorem E_non : EE X W R (.Constant .none j pos) (.lit .non) := e_non
theorem E_bin (op : BOp) (ha : EE X W R a ia) (hb : EE X W R b ib) : EE X W R (.BinOp a (opOf op) b pos) (.bin op ia ib) := e_bin op ha hb
theorem E_neg (ha : EE X W R a ia) : EE X W R (.UnaryOp .USub a pos) (.neg ia) := e_neg ha
theorem E_cmp (G : Good X) (op : COp) (ha : EE X W R a ia) (hb : EE X W R b ib) (hm : behindInMarks (copOf op) b = false := by rfl) : EE X W R (.Compare a [copOf op] [b] pos) (.cmp op ia ib) := e_cmp G op ha hb hm
theorem T_cmp (G : Good X) (op : COp) (ha : EE X W R a ia) (hb : EE X W R b ib) (hm : behindInMarks (copOf op) b = false := by rfl) : ET X W R (.Compare a [copOf op] [b] pos) (.cmp op ia ib) := t_cmp G op ha hb hm
theorem E_cmp2 (G : Good X) (op op' : COp) (ha : EE X W R a ia) (hb : EE X W R b ib) (hc : EE X W R c ic) (hm : lastMarks [copOf op, copOf op'] [b, c] = false := by rfl) : EE X W R (.Compare a [copOf op, copOf op'] [b, c] pos) (.cmp2 op op' ia ib ic) := e_chain G op op' ha hb hc hm
theorem T_cmp2 (G : Good X) (op op' : COp) (ha : EE X W R a ia) (hb : EE X W R b ib) (hc : EE X W R c ic) (hm : lastMarks [copOf op, copOf op'] [b, c] = false := by rfl) : ET X W R (.Compare a [copOf op, copOf op'] [b, c] pos) (.cmp2 op op' ia ib ic) := t_chain G op op' ha hb hc hm
theorem E_one {op : BoolOp} (ha : EE X W R a ia) : EE X W R (.BoolOp op [a] pos) ia := pe_one ha
theorem E_and (ha : EE X W R a ia) (hb : EE X W R (.BoolOp .And (b :: rest) pos) ib) : EE X W R (.BoolOp .And (a :: b :: rest) pos) (.and ia ib) := e_and ha hb
theorem E_or (ha : EE X W R a ia) (hb : EE X W R (.BoolOp .Or (b :: rest) pos) ib) : EE X W R (.BoolOp .Or (a :: b :: rest) pos) (.or ia ib) := e_or ha hb
theorem W_and1 (ha : ET X W R a ia) : EW X W R (.BoolOp .And [a] pos) ia := pw_and1 ha
theorem W_or1 (ha : ET X W R a ia) : EW X W R (.BoolOp .Or [a] pos) ia := pw_or1 ha
theorem W_and (ha : ET X W R a ia) (hb : EW X W R (.BoolOp .And (b :: rest) pos) ib) : EW X W R (.BoolOp .And (a :: b :: rest) pos) (.and ia ib) := w_and ha hb
theorem W_or (ha : ET X W R a ia) (hb : EW X W R (.BoolOp .Or (b :: rest) pos) ib) : EW X W R (.BoolOp .Or (a :: b :: rest) pos) (.or ia ib) := w_or ha hb
theorem T_w (h : EW X W R a ia) : ET X W R a ia := ⟨fun pins s σ H Q I w => h.run _ pins s σ H Q I w⟩
theorem T_val (h : EE X W R a ia) (he : ∀ whole, isTrue a X.env whole = (do let v ← whole; standAt a.pos; holding [v] (truthy v)) := by intro _; rfl) : ET X W R a ia := pt_val h he
theorem E_not (ha : EE X W R a ia) : EE X W R (.UnaryOp .Not a pos) (.not ia) := e_not ha
theorem T_not (ha : ET X W R a ia) : ET X W R (.UnaryOp .Not a pos) (.not ia) := t_not ha
theorem E_ife (hc : ET X W R c ic) (ha : EE X W R a ia) (hb : EE X W R b ib) : EE X W R (.IfExp c a b pos) (.ife ic ia ib) := e_ite hc ha hb
theorem E_glo {x : Str} {v : LV} {u : Value} (hm : X.mg x = some u) (r : RelC v u) (hg : Gl X x := by rfl) (hd : (x == ("__debug__" : Str)) = false := by decide) : EE X W R (.Name x pos) (.glo v) := e_glo hg hm r hd
theorem E_gloX {x : Str} {v : LV} (h : ∃ u, X.mg x = some u ∧ RelC v u) (hg : Gl X x := by rfl) (hd : (x == ("__debug__" : Str)) = false := by decide) : EE X W R (.Name x pos) (.glo v) := by
  obtain ⟨u, hm, r⟩ := h
  exact E_glo hm r hg hd
theorem A_nil : EA X W R [] .nil := a_nil
theorem A_cons (ha : EE X W R a ia) (hs : EA X W R es is) (he : starEach (a :: es) X.env = (false, eval a X.env) :: starEach es X.env := by rfl) : EA X W R (a :: es) (.cons ia is) := a_cons ha hs he
theorem E_tup (hs : EA X W R es is) : EE X W R (.Tuple es k pos) (.tup is) := e_tup hs
theorem E_lst (hs : EA X W R es is) : EE X W R (.List es pos) (.lst is) := e_lst hs
theorem E_ix (G : Good X) (ha : EE X W R a ia) (hb : EE X W R b ib) (hs : PlainIx b := by intro _ _; rfl) : EE X W R (.Subscript a b pos) (.ix ia ib) := e_ix G ha hb hs
theorem O_none : EO X W R none .none := o_none
theorem O_some (ha : EE X W R a ia) : EO X W R (some a) (.some ia) := o_some ha
theorem E_slc {lo hi : Option Expr} {il ih : IO} (ha : EE X W R a ia) (hl : EO X W R lo il) (hh : EO X W R hi ih) : EE X W R (.Subscript a (.Slice lo hi none p2) pos) (.slc ia il ih) := e_slc ha hl hh
theorem E_rev (ha : EE X W R a ia) : EE X W R (.Subscript a (.Slice none none (some (.UnaryOp .USub (.Constant (.int 1) k p) p2)) p3) pos) (.rev ia) := e_rev ha
theorem E_bi (G : Good X) (bi : Bi) (hm : X.mg (biName bi) = none) (hs : EA X W R (a :: es) is) (hg : Gl X (biName bi) := by rfl) (he : starEach (a :: es) X.env = (false, eval a X.env) :: starEach es X.env := by rfl) (hpl : (backTo pos (starEach es X.env)).any (·.1) = false := by rfl) :
    EE X W R (.Call (.Name (biName bi) p) (a :: es) [] pos) (.bi bi is) := e_bi G bi hg hm hs he hpl
theorem E_isi (t : Ty) (hm : X.mg "isinstance" = none) (hm' : X.mg (Str.ofString (tyName t)) = none) (ha : EE X W R a ia) (hg : Gl X "isinstance" := by rfl) (hg' : Gl X (Str.ofString (tyName t)) := by rfl)
    (he : starEach [a, .Name (Str.ofString (tyName t)) p2] X.env = (false, eval a X.env) :: starEach [.Name (Str.ofString (tyName t)) p2] X.env := by rfl) :
    EE X W R (.Call (.Name "isinstance" p) [a, .Name (Str.ofString (tyName t)) p2] [] pos) (.isi ia t) := e_isi t hg hm hg' hm' ha he
theorem E_mth {o : Expr} {io : IE} (m : Mth) (ho : EE X W R o io) (hs : EA X W R (a :: es) is) (hbase : attributeBase o (mtName m) X.env (eval o X.env) = eval o X.env := by rfl)
    (hfew : ((backTo pos (starEach (a :: es) X.env)).all (fun x => !x.1) && (backToKw pos (keywordEach [] X.env)).all (fun x => x.1.isSome)
      && decide ((a :: es).length + ([] : List Keyword).length + (if ([] : List Keyword).isEmpty then 0 else 1) < 30)) = true := by rfl)
    (hline : (p.endLine == pos.line) = true := by rfl) (he : starEach (a :: es) X.env = (false, eval a X.env) :: starEach es X.env := by rfl) (hpl : (backTo pos (starEach es X.env)).any (·.1) = false := by rfl) :
    EE X W R (.Call (.Attribute o (mtName m) p) (a :: es) [] pos) (.mth m io is) := e_mth m ho hs hbase hfew hline he hpl
theorem E_mth0 {o : Expr} {io : IE} (m : Mth) (ho : EE X W R o io) (hbase : attributeBase o (mtName m) X.env (eval o X.env) = eval o X.env := by rfl) (hline : (p.endLine == pos.line) = true := by rfl) :
    EE X W R (.Call (.Attribute o (mtName m) p) [] [] pos) (.mth m io .nil) := e_mth0 m ho hbase hline
theorem E_dct0 : EE X W R (.Dict [] [] pos) .dct0 := e_dct0
def iesL (R : Cal) : IEs → List (LSt → M LV)
  | .nil => []
  | .cons e es => evE R e :: iesL R es
theorem iesL_eq (R : Cal) : ∀ is : IEs, evEs R is = msOf (iesL R is)
  | .nil => rfl
  | .cons e es => by
    show consM (evE R e) (evEs R es) = consM (evE R e) (msOf (iesL R es))
    rw [iesL_eq R es]
/-- the pairs of a dict display -/
abbrev EP2 (X : Cx) (W : XW) (R : Cal) (pos : Pos) (keys : List (Option Expr)) (values : List Expr) (ks : List Key) (is : IEs) : Prop := PPs X pos keys values (trsOf X.K W ks (iesL R is))
theorem P_nil : EP2 X W R pos [] [] [] .nil := pps_nil
theorem P_str {keys : List (Option Expr)} {values : List Expr} {ks : List Key} {x : Str} (hv : EE X W R a ia) (hr : EP2 X W R pos keys values ks is) : EP2 X W R pos (some (.Constant (.str x) j p) :: keys) (a :: values) (.inr x :: ks) (.cons ia is) :=
  pps_cons pe_str hv hr
theorem P_int {keys : List (Option Expr)} {values : List Expr} {ks : List Key} {x : Int} (hv : EE X W R a ia) (hr : EP2 X W R pos keys values ks is) : EP2 X W R pos (some (.Constant (.int x) j p) :: keys) (a :: values) (.inl x :: ks) (.cons ia is) :=
  pps_cons pe_int hv hr
theorem iesL_len : ∀ is : IEs, (iesL R is).length = is.len
  | .nil => rfl
  | .cons e es => congrArg (· + 1) (iesL_len es)
theorem E_dct {keys : List (Option Expr)} {values : List Expr} {ks : List Key} (h : EP2 X W R pos keys values ks is) (hall : keys.all (·.isSome) = true := by rfl) (hl : keys.length = values.length := by rfl) (h0 : keys ≠ [] := by exact List.cons_ne_nil _ _) (h15 : keys.length ≤ 15 := by decide)
    (hk : ks.length = keys.length := by rfl) (hm : is.len = keys.length := by rfl) : EE X W R (.Dict keys values pos) (.dct ks is) := by
  have q := e_dct (W := W) h hall hl h0 h15 hk (by rw [iesL_len, hm])
  rw [← iesL_eq R is] at q
  exact q
theorem len_ms : ∀ (is : IEs) σ L xs L', evEs R is σ L = some (.ok xs L') → xs.length = is.len
  | .nil, σ, L, xs, L', h => by cases h; rfl
  | .cons e es, σ, L, xs, L', h => by
    have h : M.bind (evE R e σ) (fun x => M.bind (evEs R es σ) fun xs => M.ret (x :: xs)) L = some (.ok xs L') := h
    unfold M.bind at h
    cases e1 : evE R e σ L with
    | none => rw [e1] at h; cases h
    | some o =>
      rw [e1] at h
      cases o with
      | ex c fs L1 => cases h
      | ok x L1 =>
        dsimp only at h
        cases e2 : evEs R es σ L1 with
        | none => rw [e2] at h; cases h
        | some o2 =>
          rw [e2] at h
          cases o2 with
          | ex c fs L2 => cases h
          | ok ys L2 =>
            have h : some (Out.ok (x :: ys) L2) = some (.ok xs L') := h
            cases h
            exact congrArg (· + 1) (len_ms es _ _ _ _ e2)

/-! calls of defs -/
/-- a def that may be called by its name: how it is found, what it does -/
structure CalG (P : Program) (w : World) (K : PySem.W.Frag) (mg : Str → Option Value) (base : Heap) (k : Nat) (x : Str) (f : Addr) (fd : FuncData) (ps : List Str) (R : List LV → M LV) : Prop where
  fn : FnG P w K mg base k f fd ps R
  mg : mg x = some (.ref f)
  kp : PySem.W.keepIn K (.ref f) = true
variable {x : Str} {f : Addr} {fd : FuncData} {ps ks : List Str} {i n np : Nat} {perm : List Nat} {iks : IEs} {kws : List Keyword}
theorem E_call (G : Good X) (C : CalG X.prog X.w X.K X.mg X.base k x f fd ps (R i)) (hr : Room k X.A) (hb : BindOk X.K fd ps np ks perm) (ha : EA X W R (a :: es) is) (hkw : EK X W R kws iks)
    (ln : is.len = np := by rfl) (lk : iks.len = ks.length := by rfl) (hg : Gl X x := by rfl)
    (hall : (backToKw pos (keywordEach kws X.env)).all (·.1.isSome) = true := by rfl) (hks : (backToKw pos (keywordEach kws X.env)).filterMap (·.1) = ks := by rfl) (hdb : (x == ("__debug__" : Str)) = false := by decide)
    (he : starEach (a :: es) X.env = (false, eval a X.env) :: starEach es X.env := by rfl) (hpl : ((backTo pos (starEach (a :: es) X.env)).any (·.1) || (backToKw pos (keywordEach kws X.env)).any (·.1.isNone)) = false := by rfl) :
    EE X W R (.Call (.Name x p) (a :: es) kws pos) (.call i is iks perm) :=
  e_call G C.fn hr hg C.mg C.kp hb ha hkw hall hks hdb he hpl (fun σ L xs L' h => (len_ms _ _ _ _ _ h).trans ln) fun σ L xs L' h => (len_ms _ _ _ _ _ h).trans lk
theorem E_callK (G : Good X) (C : CalG X.prog X.w X.K X.mg X.base k x f fd ps (R i)) (hr : Room k X.A) (hb : BindOk X.K fd ps 0 ks perm) (hkw : EK X W R kws iks)
    (lk : iks.len = ks.length := by rfl) (hg : Gl X x := by rfl)
    (hall : (backToKw pos (keywordEach kws X.env)).all (·.1.isSome) = true := by rfl) (hks : (backToKw pos (keywordEach kws X.env)).filterMap (·.1) = ks := by rfl) (hdb : (x == ("__debug__" : Str)) = false := by decide)
    (hpl : ((backTo pos (starEach [] X.env)).any (·.1) || (backToKw pos (keywordEach kws X.env)).any (·.1.isNone)) = false := by rfl) :
    EE X W R (.Call (.Name x p) [] kws pos) (.call i .nil iks perm) :=
  e_callK G C.fn hr hg C.mg C.kp hb hkw hall hks hdb hpl fun σ L xs L' h => (len_ms _ _ _ _ _ h).trans lk
theorem E_call0 (G : Good X) (C : CalG X.prog X.w X.K X.mg X.base k x f fd ps (R i)) (hr : Room k X.A) (hb : BindOk X.K fd ps 0 [] perm) (hg : Gl X x := by rfl) (hdb : (x == ("__debug__" : Str)) = false := by decide) :
    EE X W R (.Call (.Name x p) [] [] pos) (.call i .nil .nil perm) := e_call0 G C.fn hr hg C.mg C.kp hb hdb
theorem K_nil : EK X W R [] .nil := k_nil
theorem K_cons {nm : Option Str} (ha : EE X W R a ia) (hr : EK X W R kws iks) : EK X W R (⟨nm, a, p⟩ :: kws) (.cons ia iks) := k_cons ha hr

/-! targets, what is walked, comprehensions -/
variable {own : List Nat} {ts : ITs} {t : IT} {ii : II} {ifs : List Expr} {co : IO} {iter elt : Expr} {scope : Scope} {ow : List (Str × Nat)}
theorem G_name {i : Nat} (G : Good X) (hi : X.N[i]? = some x) (hx : Loc X.env.scope x) (hf : X.fn x = true ∨ X.env.scope.names.lookup x = some .local) (ho : i ∈ own) : EG X W R own (.Name x pos) (.name i) := g_name G.nd hi hx hf ho
theorem Gs_nil : EGs X W R own [] .nil := PGs.imp gs_nil fun v σV H Q ⟨ι, σ, L, ds, r, h⟩ => ⟨ι, σ, L, ds, r, by cases ds with
  | nil => exact h
  | cons _ _ => exact (At.no h).elim⟩
theorem Gs_cons (hW : WInv W) (h1 : EG X W R own e t) (h2 : EGs X W R own es ts) (hs : (assignEach (e :: es) X.env).map (·.2) = assign e X.env :: (assignEach es X.env).map (·.2) := by rfl) : EGs X W R own (e :: es) (.cons t ts) :=
  PGs.imp (gs_cons hW h1 h2 hs) fun v σV H Q ⟨ι, σ, L, ds, r, h⟩ => ⟨ι, σ, L, ds, r, by cases ds with
  | nil => exact (At.no h).elim
  | cons _ _ => exact h⟩
theorem G_tup (G : Good X) (h : EGs X W R own es ts) (hn : (assignEach es X.env).length = ts.len := by rfl) (hst : (assignEach es X.env).findIdx? (·.1) = none := by rfl) : EG X W R own (.Tuple es k pos) (.tup ts) := g_tup G h hn hst
theorem G_sub {o i : Expr} {io ii : IE} (G : Good X) (ho : EE X W R o io) (hi : EE X W R i ii) (hn : notSlice i = true := by rfl) : EG X W R own (.Subscript o i pos) (.sub io ii) := g_sub G hn ho hi
theorem I_val (h : EE X W R e ie) : EI X W R tg e (.val ie) := i_val h
theorem I_rng1 (hm : X.mg "range" = none) (ha : EE X W R a ia) (hg : Gl X "range" := by rfl) (hs : starEach [a] X.env = [(false, eval a X.env)] := by rfl) : EI X W R tg (.Call (.Name "range" p) [a] [] pos) (.rng1 ia) := i_rng1 hg hm ha hs
theorem I_rng2 (hm : X.mg "range" = none) (ha : EE X W R a ia) (hb : EE X W R b ib) (hg : Gl X "range" := by rfl) (hs : starEach [a, b] X.env = [(false, eval a X.env), (false, eval b X.env)] := by rfl) (hs2 : starEach [b] X.env = [(false, eval b X.env)] := by rfl) :
    EI X W R tg (.Call (.Name "range" p) [a, b] [] pos) (.rng2 ia ib) := i_rng2 hg hm ha hb hs hs2
theorem C_none : EC X W R [] .none := c_none
theorem C_one (h : ET X W R c ic) : EC X W R [c] (.some ic) := c_one h
theorem E_comp (G : Good X) (hW : WInv W) (hi : EI X W R tg iter ii) (ok : BlkOk X.N X.env.scope scope ow) (hg : AllB X scope fun Y => EG Y W R (ow.map (·.2)) tg t) (ht : AllB X scope fun Y => EC Y W R ifs co) (he : AllB X scope fun Y => EE Y W R elt ie)
    (hs : ∀ x, foldedSetIterable iter X.env x = pure x := by intro _; rfl) : EE X W R (.ListComp elt [⟨tg, iter, ifs, 0⟩] scope pos) (.comp (ow.map (·.2)) t ii co ie) := e_comp G hW hi ok hg ht he hs

/-! statements -/
variable {st : Stmt} {sts body : List Stmt} {s : IS} {ss sa sb : List IS}
theorem B_nil : EB X W R [] [] := b_nil
theorem B_cons (hW : WInv W) (h1 : ES X W R st s) (h2 : EB X W R sts ss) : EB X W R (st :: sts) (s :: ss) := b_cons hW h1 h2
theorem S_asg (he : EE X W R e ie) (hg : EG X W R own tg t) (hs : swapsWithSole [tg] e pos.line X.env = pure false := by rfl) (hw : swappedStores [tg] e X.env = pure none := by rfl)
    (h1 : (assignEach [tg] X.env).map (·.2) = [assign tg X.env] := by rfl) : ES X W R (.Assign [tg] e pos) (.asg t ie) := s_asg he hg hs hw h1
theorem S_setLc {i : Nat} {y : Str} {py spos : Pos} (G : Good X) (hW : WInv W) (hy : X.N[i]? = some y) (hyl : X.env.scope.names.lookup y = some .local)
    (hsw : swapsWith (.ListComp elt [⟨tg, iter, ifs, 0⟩] scope pos) (some (.Name y py)) spos.line X.env = pure true) (hi : EI X W R tg iter ii) (ok : BlkOk X.N X.env.scope scope ow)
    (hg : AllB X scope fun Y => EG Y W R (ow.map (·.2)) tg t) (ht : AllB X scope fun Y => EC Y W R ifs co) (he : AllB X scope fun Y => EE Y W R elt ie)
    (hs : ∀ x, foldedSetIterable iter X.env x = pure x := by intro _; rfl) : ES X W R (.Assign [.Name y py] (.ListComp elt [⟨tg, iter, ifs, 0⟩] scope pos) spos) (.asg (.name i) (.comp (ow.map (·.2)) t ii co ie)) :=
  s_setLc G hW hy hyl hsw hi ok hg ht he hs
theorem S_exp (he : EE X W R e ie) (hs : swapsWith e none pos.line X.env = pure false := by rfl) : ES X W R (.Expr e pos) (.exp ie) := s_exp he hs
theorem S_ret (he : EE X W R e ie) : ES X W R (.Return (some e) pos) (.ret ie) := s_ret he
theorem S_retN : ES X W R (.Return none pos) .retN := s_retN
theorem S_pass : ES X W R (.Pass pos) .pss := s_pass
theorem S_brk : ES X W R (.Break pos) .brk := s_brk
theorem S_cnt : ES X W R (.Continue pos) .cnt := s_cnt
theorem S_ifs {sA sB : List Stmt} (hc : ET X W R c ic) (ha : EB X W R sA sa) (hb : EB X W R sB sb) : ES X W R (.If c sA sB pos) (.ifs ic sa sb) := s_ifs hc ha hb
theorem S_aug {i : Nat} (op : BOp) (G : Good X) (hi : X.N[i]? = some x) (hx : Loc X.env.scope x) (he : EE X W R e ie) (hf : X.fn x = true ∨ X.env.scope.names.lookup x = some .local) : ES X W R (.AugAssign (.Name x p) (opOf op) e pos) (.aug i op ie) := s_aug op G hi hx he hf
theorem S_par {i j : Nat} {x y : Str} {px py pt : Pos} {kt k2 pt2} (G : Good X) (hi : X.N[i]? = some x) (hj : X.N[j]? = some y) (hij : i ≠ j) (hx : X.env.scope.names.lookup x = some .local) (hy : X.env.scope.names.lookup y = some .local) (ha : EA X W R [a, b] is)
    (hw : swappedStores [.Tuple [.Name x px, .Name y py] kt pt] (.Tuple [a, b] k2 pt2) X.env = pure (some [x, y]) := by rfl) (hs : swapsWithSole [.Tuple [.Name x px, .Name y py] kt pt] (.Tuple [a, b] k2 pt2) pos.line X.env = pure false := by rfl) :
    ES X W R (.Assign [.Tuple [.Name x px, .Name y py] kt pt] (.Tuple [a, b] k2 pt2) pos) (.par [i, j] is) := s_par G hi hj hij hx hy ha hw hs
theorem S_par3 {i j l : Nat} {x y z : Str} {px py pz pt : Pos} {kt k2 pt2} (G : Good X) (hi : X.N[i]? = some x) (hj : X.N[j]? = some y) (hl : X.N[l]? = some z) (hij : i ≠ j) (hil : i ≠ l) (hjl : j ≠ l)
    (hx : X.env.scope.names.lookup x = some .local) (hy : X.env.scope.names.lookup y = some .local) (hz : X.env.scope.names.lookup z = some .local) (ha : EA X W R [a, b, c] is)
    (hw : swappedStores [.Tuple [.Name x px, .Name y py, .Name z pz] kt pt] (.Tuple [a, b, c] k2 pt2) X.env = pure (some [x, y, z]) := by rfl)
    (hs : swapsWithSole [.Tuple [.Name x px, .Name y py, .Name z pz] kt pt] (.Tuple [a, b, c] k2 pt2) pos.line X.env = pure false := by rfl) :
    ES X W R (.Assign [.Tuple [.Name x px, .Name y py, .Name z pz] kt pt] (.Tuple [a, b, c] k2 pt2) pos) (.par [i, j, l] is) := s_par3 G hi hj hl hij hil hjl hx hy hz ha hw hs
theorem S_for (G : Good X) (hW : WInv W) (hp : PassesOwn (model X.prog X.w) X.A X.env X.xe) (hi : EI X W R tg iter ii) (hg : EG X W R own tg t) (hb : EB X W R body sb) (hs : ∀ x, foldedSetIterable iter X.env x = pure x := by intro _; rfl) : ES X W R (.For tg iter body [] pos) (.for t ii sb) := s_for G hW hp hi hg hb hs
theorem S_whl (G : Good X) (hW : WInv W) (hp : PassesOwn (model X.prog X.w) X.A X.env X.xe) (hc : ET X W R c ic) (hb : EB X W R body sb) : ES X W R (.While c body [] pos) (.whl ic sb) := s_whl G hW hp hc hb
end
end Mv

/-! Mv12: a def by its body; the law's end. -/
namespace Mv
open PySem PySem.Spec PyProof.Rows L2

theorem rs_start {K : PySem.W.Frag} {H : Hp} {ι : Nat → Addr} {n : Nat} {N : List Str} {vs : List V} {ds : List LV} (q : RVs K H ι n vs ds) : RS K H ι n (start N vs) (startL N.length ds) := by
  have hl := q.length
  refine ⟨by unfold L2.start startL; simp [hl], fun i d e => ?_⟩
  unfold startL at e
  by_cases hi : i < ds.length
  · rw [List.getElem?_append_left (by simpa using hi), List.getElem?_map] at e
    cases e1 : ds[i]? with
    | none => rw [e1] at e; cases e
    | some d' =>
      rw [e1] at e
      cases e
      obtain ⟨v, h1, h2⟩ := q.get e1
      refine ⟨v, ?_, h2⟩
      unfold L2.start
      rw [List.getElem?_append_left (by rw [List.length_map, hl]; exact hi), List.getElem?_map, h1]
      rfl
  · rw [List.getElem?_append_right (by simpa using hi), List.getElem?_replicate] at e
    split at e <;> cases e

/-- the context of a def's body -/
abbrev cxG (P : Program) (w : World) (K : PySem.W.Frag) (mg : Str → Option Value) (base : Heap) (N : List Str) (qual : Str) (scope : Scope) (f : Addr) (cdv : Value) (A : Around) (outer : List Env) (s : Shared) (H : Hp) : Cx :=
  (cxOf CX0 P w K mg base N qual scope f cdv A outer s H E0).nox
section
variable {P : Program} {w : World} {K : PySem.W.Frag} {mg : Str → Option Value} {base : Heap} {k : Nat} {f : Addr} {fd : FuncData} {name qual : Str} {N ps : List Str} {R : Cal} {g : Fn}
theorem good_of {scope : Scope} {cdv : Value} {A : Around} {outer : List Env} {s : Shared} {H : Hp} (S : FnScope N ps scope) (hr : Room k (A.deeper (envOfC qual scope s.heap.objs.size f cdv))) (hg : A.guards = some []) : Good (cxG P w K mg base N qual scope f cdv A outer s H) := by
  refine ⟨rfl, hg, ?_, S.nd⟩
  have := hr.un
  show (A.deeper (envOfC qual scope s.heap.objs.size f cdv)).units + 150 < cLine
  omega
/-- a def does what its term does -/
theorem fnG_of {params : Arguments} {body : List Stmt} {scope : Scope} {dV kV doc pm cdv ct oc : Value} {an od : Option Addr} {osl : Array (Option Value)}
    (lk : K.lookup f = some ⟨oc, od, .func (PySem.W.fnOf name qual params body scope dV kV doc pm an cdv ct), osl⟩)
    (hcd : PySem.W.codeIn K cdv qual = true) (S : FnScope N ps scope) (hn : g.n = N.length) (hp : g.p = ps.length)
    (hbody : ∀ (W : XW) (A : Around) (outer : List Env) (s : Shared) (H : Hp), WInv W → Room k (A.deeper (envOfC qual scope s.heap.objs.size f cdv)) → A.guards = some [] →
      EB (cxG P w K mg base N qual scope f cdv A outer s H) W R body g.body) :
    FnG P w K mg base (k + 1) f (PySem.W.fnOf name qual params body scope dV kV doc pm an cdv ct) ps (callFn R g) := by
  refine ⟨fun W A outer s H args us vs ds ι L Q hr hgu e0 hb hlen r q h => ?_⟩
  have h : At K W (RVr K) [] [] ι L (M.chk (decide (ds.length = g.p)) (M.bind (evB R g.body (startL g.n ds)) fun (r : Fl × LSt) => match r with
    | (.rt v, _) => M.ret v
    | (.nx, _) => M.ret .non
    | _ => M.no) L) Q H := h
  obtain ⟨c, h⟩ := At.chk h
  have c := of_decide_eq_true c
  have hl : vs.length = ps.length := by
    rw [q.length, c, hp]
  rw [hn] at h
  have KX : K.In s.heap :=
    e0.mod.kin.keeps fun b o e => (e0.bs b o e).1
  have lim : s.heap.NoLimit :=
    e0.mod.nolimit.keeps fun b o e => (e0.bs b o e).1
  have hkind : ∀ y ∈ ps.zip us, scope.names.lookup y.1 = some .local ∨ (scope.names.lookup y.1 = some .cell ∧
      ((cellsFrom (s.heap.objs.size + 1) scope.names []).lookup y.1).isSome = true) := by
    rintro ⟨n, v⟩ hy
    rcases S.par n (List.of_mem_zip hy).1 with z | z
    · exact .inl z
    · exact .inr ⟨z, PySem.W.cellsFrom_some _ _ _ (.inl z)⟩
  refine codeAny_call_function hr.depth
    (KX _ _ lk) rfl S.co S.gen rfl
    (PySem.W.codeRec_of KX hcd) (hb _ _ _ _ ?_)
  refine wpAny_newFunctionEnv_cells S.kind
    hkind fun env he s1 x => ?_
  subst he
  refine ⟨lim.keeps x.toInCall.keep,
    codeAny_func ?_⟩
  have I : Inv (cxOf CX0 P w K mg base N qual scope f cdv A outer s H E0) [] (start N vs) H s1 :=
    inv_start S hr.hd e0 hl r x
  have hS := (hbody (fun c fs L ι H _ => W c fs L ι H []) A outer s H (fun _ _ _ _ _ _ _ _ z => z) (hr.deeper _) hgu).nox
  have rs := rs_start (N := N) q
  have h1 : At K (fun c fs L ι H _ => W c fs L ι H []) (RVr K) (start N vs) (startL N.length ds) ι L _ Q H := ⟨h.rep, rs, h.go⟩
  have h2 : tS K (fun c fs L ι H _ => W c fs L ι H []) (evB R g.body) { nx := fun _ H' => Q .non H', rt := Q } (start N vs) H := by
    refine ⟨ι, startL N.length ds, L, (At.bind (R := FlR K (start N vs).length) h1).imp fun v H1 ⟨d, ι1, L1, z, ev, h⟩ => ?_⟩
    obtain ⟨fv, σ1V⟩ := v
    obtain ⟨fl, σ1⟩ := d
    obtain ⟨z1, z2, z3⟩ := z
    cases fv with
    | nx =>
      cases fl with
      | nx => exact At.ret (v := V.non) h .non
      | _ => exact False.elim z3
    | bk =>
      cases fl with
      | bk => exact (At.no h).elim
      | _ => exact False.elim z3
    | ct =>
      cases fl with
      | ct => exact (At.no h).elim
      | _ => exact False.elim z3
    | rt u =>
      cases fl with
      | rt d => exact At.ret (v := u) h z3
      | _ => exact False.elim z3
  refine wpAny_mono (hS.run [] s1 _ H _ I h2)
    (fun fl s' hs => ?_) fun e s' hs => hs
  have fin : ∀ {σ' : L2.St} {H' : Hp} {v : V} {u : Value}, Inv (cxOf CX0 P w K mg base N qual scope f cdv A outer s H E0) [] σ' H' s' → RelV v u → Q v H' →
      CE outer P w H s Q u s' := fun {σ' H' v u} J rv q => ⟨v, H', J.os, J.bare, J.base, J.hok, rv, q⟩
  cases fl with
  | ret u => exact let ⟨v, σ', H', J, rv, q⟩ := hs; fin J rv q
  | next => exact let ⟨σ', H', J, q⟩ := hs; fin (v := V.non) (u := Value.none) J rfl q
  | brk => exact let ⟨_, _, _, q⟩ := hs; False.elim q
  | cont => exact let ⟨_, _, _, q⟩ := hs; False.elim q
/-- nothing is said of calls nested deeper than the count -/
theorem fnG_zero {ps : List Str} : FnG P w K mg base 0 f fd ps (fun _ => M.no) := ⟨fun W A outer s H args us vs ds ι L Q _ _ _ _ _ _ _ h => (At.no h).elim⟩

/-! ### the law's own call -/
theorem law_callG {mb : Str → Option Value} {fa a : Addr} {x : Str} {Rl : List LV → M LV} {s₁ : Shared} {vs : List Value} {ns : List Int}
    (KX : K.In s₁.heap) (hns : s₁.heap.Ns mainGlobals mg) (hb : s₁.heap.Ns builtinsNs mb)
    (hbb : ∀ x : Str, x ≠ "__name__" → mb x = bootBuiltins x) (hlim : s₁.heap.NoLimit) (hg : s₁.gens = #[])
    (ha : s₁.heap.get? a = some { cls := .type "list", data := .seq vs.toArray })
    (hi : IntsAre vs ns) (hl : ns.length ≤ sizeLine) (hr : Room k callerA)
    (F : ∀ base : Heap, K.In base → base.Ns mainGlobals mg → FnG P w K mg base k fa fd [x] Rl)
    (hbind : ∀ (s : Shared) (u : Value), BindsTo s fd ⟨[u], []⟩ [(x, u)])
    (hR : ∃ L', Rl [.ref 0] [.frz ns] = some (.ok (.bl true) L')) :
    codeAny (model P w) callerA (.call (.ref fa) ⟨[.ref a], []⟩)
      (fun r s' => r = .ok (.ret (.bool true)) ∧ OldK s₁.heap s'.heap ∧ s'.os = s₁.os ∧ AllBare s'.gens) s₁ := by
  have rv := vals_ints hi
  have lenV := hi.length
  have core : ∀ H : Hp, Only H → FrzAt K H a (ns.map V.int) → HOk P w H s₁.heap →
      (∀ b, H b ≠ none → b = a) → (H a ≠ none → K.lookup a = none) →
      codeAny (model P w) callerA (.call (.ref fa) ⟨[.ref a], []⟩)
        (fun r s' => r = .ok (.ret (.bool true)) ∧ OldK s₁.heap s'.heap ∧ s'.os = s₁.os ∧ AllBare s'.gens) s₁ := by
    intro H hO hS hok hA hK
    have base_of : ∀ {b : Addr} {o : Obj}, s₁.heap.get? b = some o → H b = none →
        (hidT s₁.heap H).get? b = some o := fun e n => hidT_get e n
    have noA : ∀ {b : Addr} {o : Obj} {es : Array DictEntry} {ep : Nat}, s₁.heap.get? b = some o →
        o.data = .dict es ep → H b = none := by
      intro b o es ep e d
      cases q : H b with
      | none => rfl
      | some u =>
        have e' : b = a := hA b (by simp [q])
        subst e'
        rw [ha] at e
        cases e
        have d' : Data.seq vs.toArray _ = Data.dict es ep := d
        cases d'
    have nsK : ∀ {b : Addr} {m : Str → Option Value}, s₁.heap.Ns b m → (hidT s₁.heap H).Ns b m := by
      rintro b m ⟨o, es, ep, e, d, r⟩
      exact ⟨o, es, ep, base_of e (noA e d), d, r⟩
    have hKb : K.In (hidT s₁.heap H) := by
      intro b o e
      refine base_of (KX b o e) ?_
      cases q : H b with
      | none => rfl
      | some u =>
        have e' : b = a := hA b (by simp [q])
        subst e'
        rw [hK (by simp [q])] at e
        cases e
    have hM : Mod K mg (hidT s₁.heap H) := by
      obtain ⟨mc, h1, h2⟩ := hlim
      exact ⟨hKb, nsK hns, ⟨mb, nsK hb, hbb⟩, ⟨mc, nsK h1, h2⟩⟩
    have e0 : Env0 P w K mg (hidT s₁.heap H) callerA [] s₁ H := by
      refine ⟨rfl, hM, fun b o e => of_hidT e, Nat.le_of_eq (hidT_size _ _), trivial, fun b hb => ?_, hok, .of_eq hg⟩
      exact absurd (show b ∈ ([] : List Addr) from hb) (by simp)
    obtain ⟨L', hR⟩ := hR
    have rep : Rep K (fun _ => a) H [LO.frz ns] := by
      refine ⟨fun j o e => ?_, fun i j x y ei ej mx my _ => ?_⟩
      · cases j with
        | zero => cases e; exact hS
        | succ j => simp at e
      · cases i with
        | zero => cases ei; cases mx
        | succ i => simp at ei
    have st : At K (fun _ _ _ _ _ _ => False) (RVr K) [] [] (fun _ => a) [LO.frz ns] (Rl [.ref 0] [.frz ns]) (fun v _ => v = .bl true) H :=
      ⟨rep, ⟨rfl, fun i d e => by simp at e⟩, _, hR, fun ι' H' v ev rp rv => by cases rv; rfl⟩
    have go := (F _ hKb (nsK hns)).run _ callerA [] s₁ H ⟨[.ref a], []⟩ [.ref a] [.ref a] [.ref 0] (fun _ => a) [.frz ns] (fun v _ => v = .bl true) hr rfl e0 (hbind s₁ (.ref a)) rfl (.cons rfl .nil)
      (.cons (.ref (ι := fun _ => a) 0 (Nat.zero_lt_succ _)) .nil) st
    refine codeAny_mono go fun r s' h => ?_
    cases r with
    | error e => exact False.elim h
    | ok fl =>
      cases fl with
      | ret u =>
        obtain ⟨v, H', os, bare, un, hok', r', q⟩ := h
        have q' : v = .bl true := q
        subst q'
        obtain rfl : u = Value.bool true := r'
        refine ⟨rfl, OldK.of_keep fun b o e => ?_, os, bare⟩
        cases q : H b with
        | none => exact un.keep b o e q (by intro z; exact absurd (show b ∈ ([] : List Addr) from z) (by simp)) (by simp)
        | some u =>
          rcases hO b with z | ⟨ob, xs, z⟩
          · rw [q] at z
            cases z
          · obtain ⟨e1, _⟩ := hok b _ z
            obtain ⟨e2, _⟩ := hok' b _ (un.frzs b ob _ z)
            rw [e] at e1
            cases e1
            exact e2
      | _ => exact False.elim h
  cases hk : K.lookup a with
  | some o =>
    have e := KX a o hk
    rw [ha] at e
    cases e
    refine core (fun _ => none) (fun _ => .inl rfl) (.inr ?_) (fun b u z => ?_) (fun b z => absurd rfl z) fun z => absurd rfl z
    · exact .inr ⟨_, vs.toArray, _, hk, rfl, rfl, rfl, by rw [List.size_toArray, lenV]; exact hl, by simpa using rv⟩
    · have z' : (none : Option HO) = some u := z
      cases z'
  | none =>
    refine core (fun b => if b = a then some (.frz { cls := .type "list", data := .seq vs.toArray } (.lst (ns.map V.int))) else none)
      (fun b => ?_) (.inl ⟨{ cls := .type "list", data := .seq vs.toArray }, if_pos rfl⟩) (fun b u z => ?_) (fun b z => ?_) fun _ => hk
    · by_cases hb : b = a
      · exact .inr ⟨_, _, if_pos hb⟩
      · exact .inl (if_neg hb)
    · by_cases hb : b = a
      · have z' := (if_pos hb).symm.trans z
        cases z'
        subst hb
        exact ⟨ha, by rw [List.length_map]; exact hl, vs, _, rv, ha⟩
      · have z' := (if_neg hb).symm.trans z
        cases z'
    · by_cases hb : b = a
      · exact hb
      · exact absurd (if_neg hb) z
end
/-- the goal that the head leaves, from the term's own law -/
theorem walkG {l : PySem.W.OpenLaw} {n k : Nat} {q : Program} {loose : List Str} {XP : (Str → Option Value) → Heap → Prop} {YP : World → Heap → Prop} {d : DefRec} {K : Params → PySem.W.Frag} {x : Str} {Rl : List LV → M LV}
    (hn : l.most = some n) (hn2 : n ≤ sizeLine) (hdf : d.params.defaults = []) (hr : Room k callerA) (hY : ∀ (w : World) (h : Heap), YP w h → (K w.params).In h)
    (F : ∀ (w : World) (mg : Str → Option Value) (fa : Addr) (h : Heap), (K w.params).In h → h.Ns mainGlobals mg → mg d.name = some (.ref fa) →
      ∃ fd : FuncData, (∀ (s : Shared) (u : Value), BindsTo s fd ⟨[u], []⟩ [(x, u)]) ∧
        ∀ base : Heap, (K w.params).In base → base.Ns mainGlobals mg → FnG l.prog w (K w.params) mg base k fa fd [x] Rl)
    (hR : ∀ ns : List Int, ns.length ≤ n → ∃ L', Rl [.ref 0] [.frz ns] = some (.ok (.bl true) L')) :
    PySem.W.WalkO q loose XP YP l.row.toRowW d [] (fun f vs => PySem.call f vs) := by
  refine Att.attach_call hn hdf fun w s₀ s₁ mg mb fa o pm cd doc a vs ns G Y ho hd hcd hmg hobj hints hlen hg => ?_
  obtain ⟨fd, hb, hF⟩ := F w mg fa _ (hY w _ Y) G.T.g hmg
  exact law_callG (hY w _ Y) G.T.g G.T.b G.T.builtins G.T.nolimit hg hobj hints (Nat.le_trans hlen hn2) hr hF hb (hR ns hlen)
end Mv

/-! Mv13: what a term of the small language gives, step by step (no program's model in sight). -/
namespace Mv
open PySem
/-- it gives something, of which Q holds -/
def wp {α : Type} (m : M α) (L : LH) (Q : α → LH → Prop) : Prop := ∃ a L', m L = some (.ok a L') ∧ Q a L'
section
variable {α β : Type} {L : LH}
theorem wp.imp {m : M α} {Q Q' : α → LH → Prop} (h : wp m L Q) (q : ∀ a L', Q a L' → Q' a L') : wp m L Q' := let ⟨a, L', e, z⟩ := h; ⟨a, L', e, q a L' z⟩
theorem wp_ret {a : α} {Q : α → LH → Prop} : wp (M.ret a) L Q ↔ Q a L := ⟨fun ⟨_, _, e, q⟩ => by cases e; exact q, fun q => ⟨a, L, rfl, q⟩⟩
theorem wp_no {Q : α → LH → Prop} : wp (M.no : M α) L Q ↔ False := ⟨fun ⟨_, _, e, _⟩ => (by cases e), False.elim⟩
theorem wp_bind {m : M α} {f : α → M β} {Q : β → LH → Prop} : wp (M.bind m f) L Q ↔ wp m L fun a L1 => wp (f a) L1 Q := by
  constructor
  · rintro ⟨b, L', e, q⟩
    unfold M.bind at e
    cases h : m L with
    | none => rw [h] at e; cases e
    | some o =>
      rw [h] at e
      cases o with
      | ok a L1 => exact ⟨a, L1, h, b, L', e, q⟩
      | ex c fs L1 => cases e
  · rintro ⟨a, L1, h, b, L', e, q⟩
    refine ⟨b, L', ?_, q⟩
    unfold M.bind
    rw [h]
    exact e
theorem wp_chk {b : Bool} {m : M α} {Q : α → LH → Prop} : wp (M.chk b m) L Q ↔ b = true ∧ wp m L Q := by
  cases b with
  | true => exact ⟨fun h => ⟨rfl, h⟩, fun h => h.2⟩
  | false => exact ⟨fun h => (wp_no.mp h).elim, fun h => by cases h.1⟩
theorem wp_ofO {o : Option α} {f : α → M β} {Q : β → LH → Prop} : wp (M.ofO o f) L Q ↔ ∃ a, o = some a ∧ wp (f a) L Q := by
  cases o with
  | some a => exact ⟨fun h => ⟨a, rfl, h⟩, fun ⟨b, e, h⟩ => by cases e; exact h⟩
  | none => exact ⟨fun h => (wp_no.mp h).elim, fun ⟨b, e, h⟩ => (by cases e)⟩
theorem wp_look {g : LH → Option α} {f : α → M β} {Q : β → LH → Prop} : wp (M.look g f) L Q ↔ ∃ a, g L = some a ∧ wp (f a) L Q := by
  unfold wp M.look
  cases g L with
  | some a => exact ⟨fun h => ⟨a, rfl, h⟩, fun ⟨b, e, h⟩ => by cases e; exact h⟩
  | none => exact ⟨fun ⟨_, _, e, _⟩ => (by cases e), fun ⟨b, e, h⟩ => (by cases e)⟩
theorem wp_new {o : LO} {Q : LV → LH → Prop} : wp (new o) L Q ↔ Q (.ref L.length) (L ++ [o]) := ⟨fun ⟨_, _, e, q⟩ => by cases e; exact q, fun q => ⟨_, _, rfl, q⟩⟩
theorem wp_setO {n : Nat} {o : LO} {Q : Unit → LH → Prop} : wp (setO n o) L Q ↔ Q () (L.set n o) := ⟨fun ⟨_, _, e, q⟩ => by cases e; exact q, fun q => ⟨_, _, rfl, q⟩⟩
/-- the heap is looked at -/
theorem wp_at {f : LH → M α} {Q : α → LH → Prop} : wp (fun L => f L L) L Q ↔ wp (f L) L Q := Iff.rfl
end
/-- which way a test goes -/
def brM {α : Type} (x : LV) (a b : M α) : M α := match x with
  | .bl true => a
  | .bl false => b
  | _ => M.no
theorem wp_br {α : Type} {b : Bool} {m n : M α} {L : LH} {Q : α → LH → Prop} : wp (brM (.bl b) m n) L Q ↔ (b = true → wp m L Q) ∧ (b = false → wp n L Q) := by
  cases b with
  | true => exact ⟨fun h => ⟨fun _ => h, fun z => (by cases z)⟩, fun h => h.1 rfl⟩
  | false => exact ⟨fun h => ⟨fun z => (by cases z), fun _ => h⟩, fun h => h.2 rfl⟩
def seqK (R : Cal) (r : List IS) : Fl × LSt → M (Fl × LSt)
  | (.nx, σ) => evB R r σ
  | (f, σ) => M.ret (f, σ)
def retK : Fl × LSt → M LV
  | (.rt v, _) => M.ret v
  | (.nx, _) => M.ret .non
  | _ => M.no
section
variable {R : Cal} {σ : LSt}
theorem v_var {i : Nat} : evE R (.var i) σ = getV σ i := rfl
theorem v_lit {v : LV} : evE R (.lit v) σ = M.ret v := rfl
theorem v_glo {v : LV} : evE R (.glo v) σ = M.ret v := rfl
theorem v_bin {op : BOp} {a b : IE} : evE R (.bin op a b) σ = M.bind (evE R a σ) fun x => M.bind (evE R b σ) fun y => binV op x y := rfl
def negV : LV → M LV
  | .int i => M.ret (.int (-i))
  | _ => M.no
theorem v_neg {a : IE} : evE R (.neg a) σ = M.bind (evE R a σ) negV := rfl
theorem v_cmp {op : COp} {a b : IE} : evE R (.cmp op a b) σ = M.bind (evE R a σ) fun x => M.bind (evE R b σ) fun y => cmpV op x y := rfl
theorem v_cmp2 {op op' : COp} {a b c : IE} : evE R (.cmp2 op op' a b c) σ = M.bind (evE R a σ) fun x => M.bind (evE R b σ) fun y => M.bind (cmpV op x y) fun r => brM r (M.bind (evE R c σ) fun z => cmpV op' y z) (M.ret (.bl false)) := rfl
theorem v_and {a b : IE} : evE R (.and a b) σ = M.bind (evE R a σ) fun x => brM x (evE R b σ) (M.ret (.bl false)) := rfl
theorem v_or {a b : IE} : evE R (.or a b) σ = M.bind (evE R a σ) fun x => brM x (M.ret (.bl true)) (evE R b σ) := rfl
def notV : LV → M LV
  | .bl b => M.ret (.bl (!b))
  | _ => M.no
theorem v_not {a : IE} : evE R (.not a) σ = M.bind (evE R a σ) notV := rfl
theorem v_ife {c a b : IE} : evE R (.ife c a b) σ = M.bind (evE R c σ) fun x => brM x (evE R a σ) (evE R b σ) := rfl
theorem v_tup {es : IEs} : evE R (.tup es) σ = M.bind (evEs R es σ) fun xs => M.chk (small xs.length) (M.ret (.tup xs)) := rfl
theorem v_lst {es : IEs} : evE R (.lst es) σ = M.bind (evEs R es σ) fun xs => M.chk (small xs.length) (new (.lst xs)) := rfl
theorem v_dct0 : evE R .dct0 σ = new (.dic []) := rfl
def dctE (ks : List L2.Key) (xs : List LV) : LV → M LV
  | .ref n => fun L => dctR n (dmerge [] (ks.zip xs)) L[n]? L
  | _ => M.no
theorem v_dct {ks : List L2.Key} {es : IEs} : evE R (.dct ks es) σ = M.bind (new (.dic [])) fun d => M.bind (evEs R es σ) fun xs => dctE ks xs d := rfl
theorem v_ix {a b : IE} : evE R (.ix a b) σ = M.bind (evE R a σ) fun x => M.bind (evE R b σ) fun y => ixV x y := rfl
theorem v_slc {a : IE} {lo hi : IO} : evE R (.slc a lo hi) σ = M.bind (evE R a σ) fun x => M.bind (evO R lo σ) fun l => M.bind (evO R hi σ) fun h => slV x l h := rfl
theorem v_rev {a : IE} : evE R (.rev a) σ = M.bind (evE R a σ) revV := rfl
theorem v_bi {b : Bi} {es : IEs} : evE R (.bi b es) σ = M.bind (evEs R es σ) fun xs => biV b xs := rfl
theorem v_isi {a : IE} {t : Ty} : evE R (.isi a t) σ = M.bind (evE R a σ) fun x => isiV x t := rfl
theorem v_mth {m : Mth} {o : IE} {es : IEs} : evE R (.mth m o es) σ = M.bind (evE R o σ) fun x => M.look (fun L => lstAt L x) fun _ => M.bind (evEs R es σ) fun xs => mthV m x xs := rfl
theorem v_call {f : Nat} {es ks : IEs} {perm : List Nat} : evE R (.call f es ks perm) σ = M.bind (evEs R es σ) fun xs => M.bind (evEs R ks σ) fun ys => M.ofO (permG (xs ++ ys) perm) fun zs => R f zs := rfl
def turnC (R : Cal) (own : List Nat) (t : IT) (c : IO) (e : IE) (σ : LSt) (x : LV) : M (Option LV) := M.bind (evT R t x (wipeL σ own)) fun σ2 => M.bind (evC R c σ2) fun k =>
        if k then M.bind (evE R e σ2) fun y => M.ret (some y) else M.ret none
def compK (s : Src) (turn : LV → M (Option LV)) : LV → M LV
  | .ref D => compGo s turn D s.len 0
  | _ => M.no
theorem v_comp {own : List Nat} {t : IT} {it : II} {c : IO} {e : IE} : evE R (.comp own t it c e) σ = M.bind (evI R it σ) fun src => M.bind (new (.lst [])) (compK src (turnC R own t c e σ)) := rfl
theorem vs_nil : evEs R .nil σ = M.ret [] := rfl
theorem vs_cons {e : IE} {es : IEs} : evEs R (.cons e es) σ = M.bind (evE R e σ) fun x => M.bind (evEs R es σ) fun xs => M.ret (x :: xs) := rfl
theorem vo_none : evO R .none σ = M.ret none := rfl
def partK : LV → M (Option Int)
  | .int i => M.ret (some i)
  | _ => M.no
theorem vo_some {e : IE} : evO R (.some e) σ = M.bind (evE R e σ) partK := rfl
theorem vc_none : evC R .none σ = M.ret true := rfl
def condK : LV → M Bool
  | .bl b => M.ret b
  | _ => M.no
theorem vc_some {e : IE} : evC R (.some e) σ = M.bind (evE R e σ) condK := rfl
theorem vi_val {e : IE} : evI R (.val e) σ = M.bind (evE R e σ) iterV := rfl
def rng1K : LV → M Src
  | .int j => M.chk (ints62 j) (M.ret (rngV 0 j.toNat))
  | _ => M.no
theorem vi_rng1 {a : IE} : evI R (.rng1 a) σ = M.bind (evE R a σ) rng1K := rfl
def rng2K : LV → LV → M Src
  | .int i, .int j => M.chk (ints62 i && ints62 j) (M.ret (rngV i (j - i).toNat))
  | _, _ => M.no
theorem vi_rng2 {a b : IE} : evI R (.rng2 a b) σ = M.bind (evE R a σ) fun x => M.bind (evE R b σ) fun y => rng2K x y := rfl
theorem vt_name {i : Nat} {v : LV} : evT R (.name i) v σ = M.chk (decide (i < σ.length)) (M.ret (σ.set i (some v))) := rfl
theorem vt_tup {ts : ITs} {v : LV} : evT R (.tup ts) v σ = M.look (fun L => items L v) fun xs => M.chk (decide (xs.length = ts.len)) (evTs R ts xs σ) := rfl
theorem vt_sub {o i : IE} {v : LV} : evT R (.sub o i) v σ = M.bind (evE R o σ) fun x => M.bind (evE R i σ) fun y => M.bind (setV x y v) fun _ => M.ret σ := rfl
theorem vts_nil : evTs R .nil [] σ = M.ret σ := rfl
theorem vts_cons {t : IT} {ts : ITs} {x : LV} {xs : List LV} : evTs R (.cons t ts) (x :: xs) σ = M.bind (evT R t x σ) fun σ1 => evTs R ts xs σ1 := rfl
theorem x_asg {t : IT} {e : IE} : evS R (.asg t e) σ = M.bind (evE R e σ) fun x => M.bind (evT R t x σ) fun σ1 => M.ret (.nx, σ1) := rfl
theorem x_par {is : List Nat} {es : IEs} : evS R (.par is es) σ = M.bind (evEs R es σ) fun xs => M.ofO (setAll σ is xs) fun σ1 => M.ret (.nx, σ1) := rfl
theorem x_aug {i : Nat} {op : BOp} {e : IE} : evS R (.aug i op e) σ = M.bind (getV σ i) fun x => M.bind (evE R e σ) fun y => M.bind (augV op x y) fun z => M.ret (.nx, σ.set i (some z)) := rfl
theorem x_exp {e : IE} : evS R (.exp e) σ = M.bind (evE R e σ) fun _ => M.ret (.nx, σ) := rfl
theorem x_ret {e : IE} : evS R (.ret e) σ = M.bind (evE R e σ) fun x => M.ret (.rt x, σ) := rfl
theorem x_retN : evS R .retN σ = M.ret (.rt .non, σ) := rfl
theorem x_ifs {c : IE} {a b : List IS} : evS R (.ifs c a b) σ = M.bind (evE R c σ) fun x => brM x (evB R a σ) (evB R b σ) := rfl
theorem x_for {t : IT} {it : II} {b : List IS} : evS R (.for t it b) σ = M.bind (evI R it σ) fun src => forGo src (fun x σ1 => M.bind (evT R t x σ1) fun σ2 => evB R b σ2) src.len 0 σ := rfl
theorem x_whl {c : IE} {b : List IS} : evS R (.whl c b) σ = whlGo (evE R c) (evB R b) fuel σ := rfl
theorem x_brk : evS R .brk σ = M.ret (.bk, σ) := rfl
theorem x_cnt : evS R .cnt σ = M.ret (.ct, σ) := rfl
theorem x_pss : evS R .pss σ = M.ret (.nx, σ) := rfl
theorem b_nil' : evB R [] σ = M.ret (.nx, σ) := rfl
theorem b_cons' {s : IS} {r : List IS} : evB R (s :: r) σ = M.bind (evS R s σ) (seqK R r) := by
  rfl
theorem sq_nx {r : List IS} : seqK R r (.nx, σ) = evB R r σ := rfl
theorem sq_rt {r : List IS} {v : LV} : seqK R r (.rt v, σ) = M.ret (.rt v, σ) := rfl
theorem sq_bk {r : List IS} : seqK R r (.bk, σ) = M.ret (.bk, σ) := rfl
theorem sq_ct {r : List IS} : seqK R r (.ct, σ) = M.ret (.ct, σ) := rfl
theorem call_eq {g : Fn} {vs : List LV} : callFn R g vs = M.chk (decide (vs.length = g.p)) (M.bind (evB R g.body (startL g.n vs)) retK) := by
  rfl
end
/-- what is wanted behind a turn of a for -/
def turnQ (I : LSt → LH → Prop) (Q : Fl × LSt → LH → Prop) : Fl × LSt → LH → Prop
  | (.nx, σ), L => I σ L
  | (.ct, σ), L => I σ L
  | (.bk, σ), L => Q (.nx, σ) L
  | (.rt v, σ), L => Q (.rt v, σ) L
theorem wp_forGo {s : Src} {turn : LV → LSt → M (Fl × LSt)} {Q : Fl × LSt → LH → Prop} (I : Nat → LSt → LH → Prop) (n : Nat)
    (step : ∀ i σ L, i < n → I i σ L → ∃ x, s.at i L = some x ∧ wp (turn x σ) L (turnQ (I (i + 1)) Q)) (fin : ∀ σ L, I n σ L → s.fin L = true ∧ Q (.nx, σ) L) :
    ∀ (m i : Nat) (σ : LSt) (L : LH), m + i = n → I i σ L → wp (forGo s turn m i σ) L Q
  | 0, i, σ, L, e, h => by
    have e : i = n := by omega
    subst e
    obtain ⟨h1, h2⟩ := fin σ L h
    refine ⟨(.nx, σ), L, ?_, h2⟩
    show (if s.fin L then some (Out.ok (Fl.nx, σ) L) else none) = _
    rw [h1]
    rfl
  | m + 1, i, σ, L, e, h => by
    obtain ⟨x, hx, h1⟩ := step i σ L (by omega) h
    have h2 : wp (M.bind (turn x σ) (fun (r : Fl × LSt) => match r with
      | (.nx, σ1) => forGo s turn m (i + 1) σ1
      | (.ct, σ1) => forGo s turn m (i + 1) σ1
      | (.bk, σ1) => M.ret (.nx, σ1)
      | (.rt v, σ1) => M.ret (.rt v, σ1))) L Q := by
      refine wp_bind.mpr (h1.imp fun r L1 q => ?_)
      obtain ⟨f, σ1⟩ := r
      cases f with
      | nx => exact wp_forGo I n step fin m (i + 1) σ1 L1 (by omega) q
      | ct => exact wp_forGo I n step fin m (i + 1) σ1 L1 (by omega) q
      | bk => exact wp_ret.mpr q
      | rt v => exact wp_ret.mpr q
    obtain ⟨a, L', e2, q⟩ := h2
    refine ⟨a, L', ?_, q⟩
    show (match s.at i L with
      | none => none
      | some x => M.bind (turn x σ) (fun (r : Fl × LSt) => match r with
        | (.nx, σ1) => forGo s turn m (i + 1) σ1
        | (.ct, σ1) => forGo s turn m (i + 1) σ1
        | (.bk, σ1) => M.ret (.nx, σ1)
        | (.rt v, σ1) => M.ret (.rt v, σ1)) L) = _
    rw [hx]
    exact e2
theorem wp_for {s : Src} {turn : LV → LSt → M (Fl × LSt)} {Q : Fl × LSt → LH → Prop} {σ : LSt} {L : LH} (I : Nat → LSt → LH → Prop) (h0 : I 0 σ L)
    (step : ∀ i σ L, i < s.len → I i σ L → ∃ x, s.at i L = some x ∧ wp (turn x σ) L (turnQ (I (i + 1)) Q)) (fin : ∀ σ L, I s.len σ L → s.fin L = true ∧ Q (.nx, σ) L) : wp (forGo s turn s.len 0 σ) L Q :=
  wp_forGo I s.len step fin s.len 0 σ L rfl h0
/-- a comprehension: the new list at D holds ys i -/
theorem wp_compGo {s : Src} {turn : LV → M (Option LV)} {Q : LV → LH → Prop} {D : Nat} (I : Nat → List LV → LH → Prop) (n : Nat)
    (step : ∀ i ys L, i < n → L[D]? = some (.lst ys) → I i ys L → ∃ x, s.at i L = some x ∧ wp (turn x) L fun r L' => L'[D]? = some (.lst ys) ∧ match r with
      | none => I (i + 1) ys L'
      | some y => ys.length < sizeLine ∧ I (i + 1) (ys ++ [y]) (L'.set D (.lst (ys ++ [y]))))
    (fin : ∀ ys L, L[D]? = some (.lst ys) → I n ys L → s.fin L = true ∧ Q (.ref D) L) :
    ∀ (m i : Nat) (ys : List LV) (L : LH), m + i = n → L[D]? = some (.lst ys) → I i ys L → wp (compGo s turn D m i) L Q
  | 0, i, ys, L, e, hD, h => by
    have e : i = n := by omega
    subst e
    obtain ⟨h1, h2⟩ := fin ys L hD h
    refine ⟨.ref D, L, ?_, h2⟩
    show (if s.fin L then some (Out.ok (LV.ref D) L) else none) = _
    rw [h1]
    rfl
  | m + 1, i, ys, L, e, hD, h => by
    obtain ⟨x, hx, h1⟩ := step i ys L (by omega) hD h
    have h2 : wp (M.bind (turn x) (fun r => match r with
      | none => compGo s turn D m (i + 1)
      | some y => M.bind (appM D y) fun _ => compGo s turn D m (i + 1))) L Q := by
      refine wp_bind.mpr (h1.imp fun r L1 q => ?_)
      obtain ⟨qD, q⟩ := q
      cases r with
      | none => exact wp_compGo I n step fin m (i + 1) ys L1 (by omega) qD q
      | some y =>
        refine wp_bind.mpr ?_
        have hl : D < L1.length := (List.getElem?_eq_some_iff.mp qD).1
        refine ⟨.non, L1.set D (.lst (ys ++ [y])), ?_, wp_compGo I n step fin m (i + 1) (ys ++ [y]) _ (by omega) (List.getElem?_set_self hl) q.2⟩
        show mthR D .append L1[D]? [y] L1 = _
        rw [qD]
        show M.chk (decide (ys.length < sizeLine)) _ L1 = _
        rw [decide_eq_true q.1]
        rfl
    obtain ⟨a, L', e2, q⟩ := h2
    refine ⟨a, L', ?_, q⟩
    show (match s.at i L with
      | none => none
      | some x => M.bind (turn x) (fun r => match r with
        | none => compGo s turn D m (i + 1)
        | some y => M.bind (appM D y) fun _ => compGo s turn D m (i + 1)) L) = _
    rw [hx]
    exact e2
theorem wp_comp {s : Src} {turn : LV → M (Option LV)} {Q : LV → LH → Prop} {L : LH} (I : Nat → List LV → LH → Prop) (h0 : I 0 [] (L ++ [.lst []]))
    (step : ∀ i ys L', i < s.len → L'[L.length]? = some (.lst ys) → I i ys L' → ∃ x, s.at i L' = some x ∧ wp (turn x) L' fun r L2 => L2[L.length]? = some (.lst ys) ∧ match r with
      | none => I (i + 1) ys L2
      | some y => ys.length < sizeLine ∧ I (i + 1) (ys ++ [y]) (L2.set L.length (.lst (ys ++ [y]))))
    (fin : ∀ ys L', L'[L.length]? = some (.lst ys) → I s.len ys L' → s.fin L' = true ∧ Q (.ref L.length) L') : wp (M.bind (new (.lst [])) (compK s turn)) L Q := by
  refine wp_bind.mpr (wp_new.mpr ?_)
  exact wp_compGo I s.len step fin s.len 0 [] _ rfl (by simp) h0
end Mv
namespace Mv
open PySem
section
variable {R : Cal} {σ : LSt} {L : LH}
theorem gv_0 {v : LV} {l : LSt} : getV (some v :: l) 0 = M.ret v := rfl
theorem gv_S {a : Option LV} {l : LSt} {n : Nat} : getV (a :: l) (n + 1) = getV l n := rfl
theorem wt_0 {a : Option LV} {l : LSt} {v : LV} {Q : LSt → LH → Prop} : wp (evT R (.name 0) v (a :: l)) L Q ↔ Q (some v :: l) L := by
  rw [vt_name, wp_chk, wp_ret]
  exact ⟨fun h => h.2, fun h => ⟨by simp, h⟩⟩
theorem wt_S {a : Option LV} {l : LSt} {v : LV} {n : Nat} {Q : LSt → LH → Prop} : wp (evT R (.name (n + 1)) v (a :: l)) L Q ↔ wp (evT R (.name n) v l) L fun l' L' => Q (a :: l') L' := by
  rw [vt_name, vt_name, wp_chk, wp_chk, wp_ret, wp_ret]
  simp
theorem wp_if {α : Type} {c : Bool} {m n : M α} {Q : α → LH → Prop} : wp (if c = true then m else n) L Q ↔ (c = true → wp m L Q) ∧ (c = false → wp n L Q) := by cases c <;> simp
/-! operators, of ints -/
theorem o_add {i j : Int} : binV .add (.int i) (.int j) = M.ret (.int (i + j)) := rfl
theorem o_sub {i j : Int} : binV .sub (.int i) (.int j) = M.ret (.int (i - j)) := rfl
theorem o_mul {i j : Int} : binV .mul (.int i) (.int j) = M.chk (mulOk i j) (M.ret (.int (i * j))) := rfl
theorem o_fdiv {i j : Int} : binV .fdiv (.int i) (.int j) = M.chk (divOk j) (M.ret (.int (i / j))) := rfl
theorem o_mod {i j : Int} : binV .mod (.int i) (.int j) = M.chk (decide (0 < j)) (M.ret (.int (i % j))) := rfl
theorem o_pow {i j : Int} : binV .pow (.int i) (.int j) = M.chk (decide (0 ≤ j ∧ j ≤ 1000000 ∧ i.natAbs < 2 ^ 64)) (M.ret (.int (i ^ j.toNat))) := rfl
theorem o_addT {a b : List LV} : binV .add (.tup a) (.tup b) = M.chk (small (a.length + b.length)) (M.ret (.tup (a ++ b))) := rfl
theorem o_mulT {xs : List LV} {k : Int} : binV .mul (.tup xs) (.int k) = M.chk (decide (-(2 ^ 63) ≤ k ∧ k < 2 ^ 63) && small (xs.length * k.toNat)) (M.ret (.tup (reps xs k))) := rfl
theorem c_lt {i j : Int} : cmpV .lt (.int i) (.int j) = M.ret (.bl (decide (i < j))) := rfl
theorem c_le {i j : Int} : cmpV .le (.int i) (.int j) = M.ret (.bl (decide (i ≤ j))) := rfl
theorem c_gt {i j : Int} : cmpV .gt (.int i) (.int j) = M.ret (.bl (decide (j < i))) := rfl
theorem c_ge {i j : Int} : cmpV .ge (.int i) (.int j) = M.ret (.bl (decide (j ≤ i))) := rfl
theorem eqV_int {i j : Int} : eqV L (.int i) (.int j) = some (i == j) := rfl
theorem wp_eq_int {i j : Int} {Q : LV → LH → Prop} : wp (cmpV .eq (.int i) (.int j)) L Q ↔ Q (.bl (decide (i = j))) L := by
  show wp (M.look (fun L => eqV L (.int i) (.int j)) fun b => M.ret (.bl b)) L Q ↔ _
  rw [wp_look]
  constructor
  · rintro ⟨b, e, h⟩
    rw [eqV_int] at e
    cases e
    rw [wp_ret] at h
    exact h
  · intro h
    exact ⟨i == j, eqV_int, wp_ret.mpr h⟩
theorem wp_ne_int {i j : Int} {Q : LV → LH → Prop} : wp (cmpV .ne (.int i) (.int j)) L Q ↔ Q (.bl (!decide (i = j))) L := by
  show wp (M.look (fun L => eqV L (.int i) (.int j)) fun b => M.ret (.bl (!b))) L Q ↔ _
  rw [wp_look]
  constructor
  · rintro ⟨b, e, h⟩
    rw [eqV_int] at e
    cases e
    rw [wp_ret] at h
    exact h
  · intro h
    exact ⟨i == j, eqV_int, wp_ret.mpr h⟩
theorem n_bl {b : Bool} : notV (.bl b) = M.ret (.bl (!b)) := rfl
theorem n_int {i : Int} : negV (.int i) = M.ret (.int (-i)) := rfl
theorem bi_int {i : Int} : biV .int [.int i] = M.ret (.int i) := rfl
theorem bi_len {x : LV} : biV .len [x] = M.look (fun L => lenV L x) fun n => M.ret (.int n) := rfl
theorem bi_tuple {x : LV} : biV .tuple [x] = M.look (fun L => items L x) fun ys => M.ret (.tup ys) := rfl
theorem bi_list {x : LV} : biV .list [x] = M.look (fun L => items L x) fun ys => new (.lst ys) := rfl
theorem it_tup {xs : List LV} : iterV (.tup xs) = M.ret (.fixed xs) := rfl
theorem r_tup {xs : List LV} : revV (.tup xs) = M.ret (.tup xs.reverse) := rfl
theorem r_ref {n : Nat} : revV (.ref n) = M.look (fun L => itemsL L (.ref n)) fun xs => new (.lst xs.reverse) := rfl
theorem ix_tup {xs : List LV} {i : Int} : ixV (.tup xs) (.int i) = M.ofO (L2.atI xs i) M.ret := rfl
theorem wp_ix_ref {n : Nat} {k : LV} {Q : LV → LH → Prop} : wp (ixV (.ref n) k) L Q ↔ wp (ixR L[n]? k) L Q := Iff.rfl
theorem ixR_lst {xs : List LV} {i : Int} : ixR (some (.lst xs)) (.int i) = M.ofO (L2.atI xs i) M.ret := rfl
theorem ixR_dic {kvs : List (L2.Key × LV)} {s : Str} : ixR (some (.dic kvs)) (.str s) = M.ofO (dval kvs (.inr s)) M.ret := rfl
theorem wp_set_ref {n : Nat} {k v : LV} {Q : Unit → LH → Prop} : wp (setV (.ref n) k v) L Q ↔ wp (setR n v L[n]? k) L Q := Iff.rfl
theorem setR_dic {n : Nat} {v : LV} {kvs : List (L2.Key × LV)} {s : Str} : setR n v (some (.dic kvs)) (.str s) = M.chk (decide (kvs.length < sizeLine)) (setO n (.dic (dput kvs (.inr s) v))) := rfl
theorem sl_tup {xs : List LV} {lo hi : Option Int} : slV (.tup xs) lo hi = M.ret (.tup (cut xs lo hi)) := rfl
theorem sl_ref {n : Nat} {lo hi : Option Int} : slV (.ref n) lo hi = M.look (fun L => itemsL L (.ref n)) fun xs => new (.lst (cut xs lo hi)) := rfl
theorem pk_int {i : Int} : partK (.int i) = M.ret (some i) := rfl
theorem r1_int {j : Int} : rng1K (.int j) = M.chk (ints62 j) (M.ret (rngV 0 j.toNat)) := rfl
theorem ck_bl {b : Bool} : condK (.bl b) = M.ret b := rfl
theorem rk_rt {v : LV} : retK (.rt v, σ) = M.ret v := rfl
theorem rk_nx : retK (.nx, σ) = M.ret .non := rfl
theorem wp_mth {m : Mth} {n : Nat} {xs : List LV} {Q : LV → LH → Prop} : wp (mthV m (.ref n) xs) L Q ↔ wp (mthR n m L[n]? xs) L Q := Iff.rfl
theorem m_append {n : Nat} {ys : List LV} {x : LV} : mthR n .append (some (.lst ys)) [x] = M.chk (decide (ys.length < sizeLine)) (M.bind (setO n (.lst (ys ++ [x]))) fun _ => M.ret .non) := rfl
theorem m_pop {n : Nat} {ys : List LV} : mthR n .pop (some (.lst ys)) [] = M.ofO ys[ys.length - 1]? fun y => M.bind (setO n (.lst ys.dropLast)) fun _ => M.ret y := rfl
theorem perm2 {α : Type} {a b : α} : permG [a, b] [0, 1] = some [a, b] := rfl
end
end Mv

namespace K35
open PySem Mv
/-! the text by terms of the small language (printed by a program of mine from the linked text) -/
def n_is_integer : List Str := ["thing"]
def f_is_integer : Fn := ⟨1, 1, [.ret (.and (.isi (.var 0) .int) (.not (.isi (.var 0) .bool)))]⟩
def n_is_between : List Str := ["thing", "least", "greatest"]
def f_is_between : Fn := ⟨3, 3, [.ret (.and (.call 0 (.cons (.var 0) .nil) .nil [0]) (.cmp2 .le .le (.var 1) (.var 0) (.var 2)))]⟩
def n_is_way : List Str := ["thing"]
def f_is_way : Fn := ⟨1, 1, [.ret (.and (.isi (.var 0) .str) (.cmp .inn (.var 0) (.tup (.cons (.glo (.str "right")) (.cons (.glo (.str "left")) .nil)))))]⟩
def n_items_of : List Str := ["signs", "purse", "width", "many", "cell"]
def f_items_of : Fn := ⟨5, 3, [.ifs (.or (.cmp .gt (.var 1) (.glo (.int 100000))) (.cmp .gt (.var 2) (.glo (.int 100000)))) [.ret (.lit (.int 0))] [], .asg (.name 3) (.var 1), .for (.name 4) (.rng1 (.var 2)) [.aug 3 .mul (.var 0), .ifs (.cmp .gt (.var 3) (.glo (.int 100000))) [.ret (.lit (.int 0))] []], .ret (.var 3)]⟩
def n_is_table : List Str := ["many", "thing", "item"]
def f_is_table : Fn := ⟨3, 2, [.ifs (.or (.not (.isi (.var 1) .tuple)) (.cmp .ne (.bi .len (.cons (.var 1) .nil)) (.var 0))) [.ret (.lit (.bl false))] [], .ret (.bi .all (.cons (.comp [2] (.name 2) (.val (.var 1)) .none (.call 1 (.cons (.var 2) (.cons (.glo (.int (-1))) (.cons (.bin .sub (.var 0) (.lit (.int 1))) .nil))) .nil [0, 1, 2])) .nil))]⟩
def n_is_sweep : List Str := ["signs", "thing", "way", "purse", "width", "tables", "many", "table"]
def f_is_sweep : Fn := ⟨8, 2, [.ifs (.or (.not (.isi (.var 1) .tuple)) (.cmp .ne (.bi .len (.cons (.var 1) .nil)) (.lit (.int 4)))) [.ret (.lit (.bl false))] [], .asg (.tup (.cons (.name 2) (.cons (.name 3) (.cons (.name 4) (.cons (.name 5) .nil))))) (.var 1), .ifs (.or (.not (.call 2 (.cons (.var 2) .nil) .nil [0])) (.or (.not (.call 0 (.cons (.var 3) .nil) .nil [0])) (.or (.not (.call 0 (.cons (.var 4) .nil) .nil [0])) (.or (.cmp .lt (.var 3) (.lit (.int 1))) (.cmp .lt (.var 4) (.lit (.int 1))))))) [.ret (.lit (.bl false))] [], .asg (.name 6) (.call 3 (.cons (.var 0) (.cons (.var 3) (.cons (.var 4) .nil))) .nil [0, 1, 2]), .ifs (.or (.cmp .eq (.var 6) (.lit (.int 0))) (.or (.not (.isi (.var 5) .tuple)) (.not (.cmp2 .le .le (.lit (.int 1)) (.bi .len (.cons (.var 5) .nil)) (.glo (.int 12)))))) [.ret (.lit (.bl false))] [], .ret (.bi .all (.cons (.comp [7] (.name 7) (.val (.var 5)) .none (.call 4 (.cons (.var 6) (.cons (.var 7) .nil)) .nil [0, 1])) .nil))]⟩
def n_l_deck : List Str := ["_law_script", "_law_digits", "_law_mixed", "_law_cell"]
def f_l_deck : Fn := ⟨4, 1, [.par [1, 2] (.cons (.bi .list (.cons (.slc (.var 0) .none (.some (.lit (.int 63)))) .nil)) (.cons (.lit (.int 35911)) .nil)), .for (.name 3) (.val (.var 1)) [.asg (.name 2) (.bin .mod (.bi .int (.cons (.bin .add (.bin .add (.bin .mul (.var 2) (.lit (.int 40692))) (.bin .mod (.bi .int (.cons (.var 3) .nil)) (.lit (.int 2147483629)))) (.lit (.int 71))) .nil)) (.lit (.int 2147483587)))], .ret (.lst (.cons (.rev (.var 1)) (.cons (.var 2) (.cons (.lit (.int 0)) .nil))))]⟩
def n_l_draw : List Str := ["_law_deck_here", "_law_below", "_law_mixed", "_law_cell"]
def f_l_draw : Fn := ⟨4, 2, [.asg (.sub (.var 0) (.lit (.int 2))) (.bin .add (.ix (.var 0) (.lit (.int 2))) (.lit (.int 1))), .asg (.name 2) (.bin .add (.ix (.var 0) (.lit (.int 1))) (.bin .mul (.lit (.int 60353)) (.ix (.var 0) (.lit (.int 2))))), .ifs (.cmp .ne (.ix (.var 0) (.lit (.int 0))) (.lst .nil)) [.asg (.name 3) (.mth .pop (.ix (.var 0) (.lit (.int 0))) .nil), .ifs (.cmp .ge (.var 3) (.bin .pow (.lit (.int 10)) (.lit (.int 18)))) [.exp (.mth .append (.ix (.var 0) (.lit (.int 0))) (.cons (.bin .fdiv (.var 3) (.var 1)) .nil)), .ret (.bi .int (.cons (.bin .mod (.var 3) (.var 1)) .nil))] [], .asg (.name 2) (.bin .add (.var 2) (.bin .mod (.bi .int (.cons (.var 3) .nil)) (.lit (.int 2147483629))))] [], .asg (.name 2) (.bin .mod (.bi .int (.cons (.bin .add (.bin .mul (.var 2) (.lit (.int 39373))) (.lit (.int 17))) .nil)) (.lit (.int 2147483647))), .asg (.name 2) (.bin .mod (.bi .int (.cons (.bin .add (.bin .add (.bin .mul (.var 2) (.var 2)) (.bin .mul (.lit (.int 52711)) (.ix (.var 0) (.lit (.int 2))))) (.lit (.int 5))) .nil)) (.lit (.int 2147483587))), .ret (.bin .mod (.bin .fdiv (.bin .mod (.bin .mul (.var 2) (.lit (.int 40692))) (.lit (.int 2147483563))) (.lit (.int 64))) (.var 1))]⟩
def n_l_pick : List Str := ["_law_deck_here", "_law_some"]
def f_l_pick : Fn := ⟨2, 2, [.ret (.ix (.var 1) (.call 7 (.cons (.var 0) (.cons (.bi .len (.cons (.var 1) .nil)) .nil)) .nil [0, 1]))]⟩
def n_l_power : List Str := ["_law_many", "_law_size", "_law_found", "_law_k"]
def f_l_power : Fn := ⟨4, 2, [.asg (.name 2) (.lit (.int 1)), .for (.name 3) (.rng1 (.var 1)) [.asg (.name 2) (.bin .mul (.var 2) (.var 0))], .ret (.var 2)]⟩
def n_l_items : List Str := ["_law_many", "_law_purse", "_law_width", "_law_found", "_law_k"]
def f_l_items : Fn := ⟨5, 3, [.asg (.name 3) (.var 1), .for (.name 4) (.rng1 (.bi .min (.cons (.var 2) (.cons (.lit (.int 20)) .nil)))) [.asg (.name 3) (.bin .mul (.var 3) (.var 0))], .ret (.bi .min (.cons (.var 3) (.cons (.lit (.int 100001)) .nil)))]⟩
def n_l_is_integer : List Str := ["_law_value"]
def f_l_is_integer : Fn := ⟨1, 1, [.ret (.and (.isi (.var 0) .int) (.not (.isi (.var 0) .bool)))]⟩
def n_l_is_table : List Str := ["_law_size", "_law_value", "_law_item"]
def f_l_is_table : Fn := ⟨3, 2, [.ifs (.or (.not (.isi (.var 1) .tuple)) (.cmp .ne (.bi .len (.cons (.var 1) .nil)) (.var 0))) [.ret (.lit (.bl false))] [], .for (.name 2) (.val (.var 1)) [.ifs (.or (.not (.call 11 (.cons (.var 2) .nil) .nil [0])) (.or (.cmp .lt (.var 2) (.neg (.lit (.int 1)))) (.cmp .ge (.var 2) (.var 0)))) [.ret (.lit (.bl false))] []], .ret (.lit (.bl true))]⟩
def n_l_due : List Str := ["_law_many", "_law_value", "_law_road", "_law_purse", "_law_width", "_law_tables", "_law_size", "_law_table_here"]
def f_l_due : Fn := ⟨8, 2, [.ifs (.or (.not (.isi (.var 1) .tuple)) (.cmp .ne (.bi .len (.cons (.var 1) .nil)) (.lit (.int 4)))) [.ret (.lit (.bl false))] [], .asg (.tup (.cons (.name 2) (.cons (.name 3) (.cons (.name 4) (.cons (.name 5) .nil))))) (.var 1), .ifs (.or (.not (.isi (.var 2) .str)) (.cmp .nin (.var 2) (.tup (.cons (.lit (.str "right")) (.cons (.lit (.str "left")) .nil))))) [.ret (.lit (.bl false))] [], .ifs (.or (.not (.call 11 (.cons (.var 3) .nil) .nil [0])) (.or (.not (.call 11 (.cons (.var 4) .nil) .nil [0])) (.or (.cmp .lt (.var 3) (.lit (.int 1))) (.cmp .lt (.var 4) (.lit (.int 1)))))) [.ret (.lit (.bl false))] [], .asg (.name 6) (.call 10 (.cons (.var 0) (.cons (.var 3) (.cons (.var 4) .nil))) .nil [0, 1, 2]), .ifs (.or (.cmp .gt (.var 6) (.lit (.int 100000))) (.or (.not (.isi (.var 5) .tuple)) (.not (.cmp2 .le .le (.lit (.int 1)) (.bi .len (.cons (.var 5) .nil)) (.lit (.int 12)))))) [.ret (.lit (.bl false))] [], .ret (.cmp .eq (.comp [7] (.name 7) (.val (.var 5)) (.some (.not (.call 12 (.cons (.var 6) (.cons (.var 7) .nil)) .nil [0, 1]))) (.var 7)) (.lst .nil))]⟩
def n_l_table : List Str := ["_law_deck_here", "_law_size", "_law_found", "_law_k"]
def f_l_table : Fn := ⟨4, 2, [.asg (.name 2) (.comp [3] (.name 3) (.rng1 (.bi .min (.cons (.var 1) (.cons (.lit (.int 16)) .nil)))) .none (.bin .sub (.call 7 (.cons (.var 0) (.cons (.bin .add (.var 1) (.lit (.int 1))) .nil)) .nil [0, 1]) (.lit (.int 1)))), .ret (.bi .tuple (.cons (.bin .add (.var 2) (.bin .mul (.lst (.cons (.neg (.lit (.int 1))) .nil)) (.bin .sub (.var 1) (.bi .len (.cons (.var 2) .nil))))) .nil))]⟩
def n_l_machine : List Str := ["_law_deck_here", "_law_many", "_law_purse", "_law_width", "_law_how_many", "_law_tables", "_law_k"]
def f_l_machine : Fn := ⟨7, 2, [.asg (.tup (.cons (.name 2) (.cons (.name 3) .nil))) (.tup (.cons (.bin .add (.lit (.int 1)) (.call 7 (.cons (.var 0) (.cons (.lit (.int 3)) .nil)) .nil [0, 1])) (.cons (.bin .add (.lit (.int 1)) (.call 7 (.cons (.var 0) (.cons (.lit (.int 2)) .nil)) .nil [0, 1])) .nil))), .asg (.name 4) (.ife (.cmp .eq (.call 7 (.cons (.var 0) (.cons (.lit (.int 8)) .nil)) .nil [0, 1]) (.lit (.int 0))) (.lit (.int 12)) (.bin .add (.lit (.int 1)) (.call 7 (.cons (.var 0) (.cons (.lit (.int 3)) .nil)) .nil [0, 1]))), .asg (.name 5) (.comp [6] (.name 6) (.rng1 (.var 4)) .none (.call 14 (.cons (.var 0) (.cons (.call 10 (.cons (.var 1) (.cons (.var 2) (.cons (.var 3) .nil))) .nil [0, 1, 2]) .nil)) .nil [0, 1])), .ret (.tup (.cons (.call 8 (.cons (.var 0) (.cons (.lst (.cons (.lit (.str "right")) (.cons (.lit (.str "left")) .nil))) .nil)) .nil [0, 1]) (.cons (.var 2) (.cons (.var 3) (.cons (.bi .tuple (.cons (.var 5) .nil)) .nil)))))]⟩
def n_l_put : List Str := ["_law_some", "_law_at", "_law_value"]
def f_l_put : Fn := ⟨3, 3, [.ret (.bin .add (.bin .add (.bi .tuple (.cons (.slc (.var 0) .none (.some (.var 1))) .nil)) (.tup (.cons (.var 2) .nil))) (.bi .tuple (.cons (.slc (.var 0) (.some (.bin .add (.var 1) (.lit (.int 1)))) .none) .nil)))]⟩
def n_l_other : List Str := ["_law_deck_here", "_law_value"]
def f_l_other : Fn := ⟨2, 2, [.ret (.call 8 (.cons (.var 0) (.cons (.lst (.cons (.bin .sub (.var 1) (.lit (.int 1))) (.cons (.bin .add (.var 1) (.lit (.int 1))) (.cons (.lit (.int 0)) (.cons (.neg (.lit (.int 1))) (.cons (.neg (.lit (.int 2))) (.cons (.lit (.bl true)) (.cons (.lit (.bl false)) (.cons (.lit .non) (.cons (.bi .str (.cons (.var 1) .nil)) (.cons (.tup (.cons (.var 1) .nil)) (.cons (.bin .pow (.lit (.int 10)) (.lit (.int 39))) .nil)))))))))))) .nil)) .nil [0, 1])]⟩
def n_l_bent_table : List Str := ["_law_deck_here", "_law_size", "_law_table_here", "_law_at", "_law_way"]
def f_l_bent_table : Fn := ⟨5, 3, [.asg (.name 3) (.call 7 (.cons (.var 0) (.cons (.bi .len (.cons (.var 2) .nil)) .nil)) .nil [0, 1]), .asg (.name 4) (.call 7 (.cons (.var 0) (.cons (.lit (.int 6)) .nil)) .nil [0, 1]), .ifs (.cmp .eq (.var 4) (.lit (.int 0))) [.ret (.bi .list (.cons (.var 2) .nil))] [], .ifs (.cmp .eq (.var 4) (.lit (.int 1))) [.ret (.slc (.var 2) .none (.some (.neg (.lit (.int 1)))))] [], .ifs (.cmp .eq (.var 4) (.lit (.int 2))) [.ret (.bin .add (.var 2) (.tup (.cons (.lit (.int 0)) .nil)))] [], .ifs (.cmp .eq (.var 4) (.lit (.int 3))) [.ret (.call 16 (.cons (.var 2) (.cons (.var 3) (.cons (.bin .sub (.var 1) (.call 7 (.cons (.var 0) (.cons (.lit (.int 2)) .nil)) .nil [0, 1])) .nil))) .nil [0, 1, 2])] [], .ret (.call 16 (.cons (.var 2) (.cons (.var 3) (.cons (.call 17 (.cons (.var 0) (.cons (.ix (.var 2) (.var 3)) .nil)) .nil [0, 1]) .nil))) .nil [0, 1, 2])]⟩
def n_l_bent : List Str := ["_law_deck_here", "_law_many", "_law_machine_here", "_law_road", "_law_purse", "_law_width", "_law_tables", "_law_way", "_law_bad", "_law_size", "_law_at", "_law_table_here"]
def f_l_bent : Fn := ⟨12, 3, [.asg (.tup (.cons (.name 3) (.cons (.name 4) (.cons (.name 5) (.cons (.name 6) .nil))))) (.var 2), .asg (.name 7) (.call 7 (.cons (.var 0) (.cons (.lit (.int 9)) .nil)) .nil [0, 1]), .ifs (.cmp .eq (.var 7) (.lit (.int 0))) [.asg (.name 8) (.lst (.cons (.lit (.str "up")) (.cons (.lit (.str "Right")) (.cons (.lit (.str "")) (.cons (.lit .non) (.cons (.lit (.str "right ")) (.cons (.tup (.cons (.lit (.str "right")) .nil)) (.cons (.lit (.str "left")) (.cons (.lit (.str "right")) .nil))))))))), .ret (.tup (.cons (.call 8 (.cons (.var 0) (.cons (.var 8) .nil)) .nil [0, 1]) (.cons (.var 4) (.cons (.var 5) (.cons (.var 6) .nil)))))] [], .ifs (.cmp .eq (.var 7) (.lit (.int 1))) [.ret (.tup (.cons (.var 3) (.cons (.call 17 (.cons (.var 0) (.cons (.var 4) .nil)) .nil [0, 1]) (.cons (.var 5) (.cons (.var 6) .nil)))))] [], .ifs (.cmp .eq (.var 7) (.lit (.int 2))) [.ret (.tup (.cons (.var 3) (.cons (.var 4) (.cons (.call 17 (.cons (.var 0) (.cons (.var 5) .nil)) .nil [0, 1]) (.cons (.var 6) .nil)))))] [], .ifs (.cmp .eq (.var 7) (.lit (.int 3))) [.asg (.name 8) (.lst (.cons (.tup .nil) (.cons (.slc (.var 6) (.some (.lit (.int 1))) .none) (.cons (.bi .list (.cons (.var 6) .nil)) (.cons (.bin .add (.var 6) (.slc (.var 6) .none (.some (.lit (.int 1))))) (.cons (.ix (.var 6) (.lit (.int 0))) .nil)))))), .ret (.tup (.cons (.var 3) (.cons (.var 4) (.cons (.var 5) (.cons (.call 8 (.cons (.var 0) (.cons (.var 8) .nil)) .nil [0, 1]) .nil)))))] [], .ifs (.cmp .eq (.var 7) (.lit (.int 4))) [.ret (.tup (.cons (.var 3) (.cons (.var 4) (.cons (.var 5) (.cons (.slc (.bin .mul (.var 6) (.lit (.int 13))) .none (.some (.bin .add (.lit (.int 12)) (.call 7 (.cons (.var 0) (.cons (.lit (.int 2)) .nil)) .nil [0, 1])))) .nil)))))] [], .ifs (.cmp .eq (.var 7) (.lit (.int 5))) [.asg (.name 8) (.lst (.cons (.bi .list (.cons (.var 2) .nil)) (.cons (.slc (.var 2) .none (.some (.lit (.int 3)))) (.cons (.bin .add (.var 2) (.tup (.cons (.lit (.int 0)) .nil))) (.cons (.rev (.var 2)) (.cons (.dct [.inr "way"] (.cons (.var 3) .nil)) .nil)))))), .ret (.call 8 (.cons (.var 0) (.cons (.var 8) .nil)) .nil [0, 1])] [], .par [9, 10] (.cons (.call 10 (.cons (.var 1) (.cons (.var 4) (.cons (.var 5) .nil))) .nil [0, 1, 2]) (.cons (.call 7 (.cons (.var 0) (.cons (.bi .len (.cons (.var 6) .nil)) .nil)) .nil [0, 1]) .nil)), .asg (.name 11) (.call 18 (.cons (.var 0) (.cons (.var 9) (.cons (.ix (.var 6) (.var 10)) .nil))) .nil [0, 1, 2]), .ret (.tup (.cons (.var 3) (.cons (.var 4) (.cons (.var 5) (.cons (.call 16 (.cons (.var 6) (.cons (.var 10) (.cons (.var 11) .nil))) .nil [0, 1, 2]) .nil)))))]⟩
def n_l_great : List Str := ["_law_deck_here", "_law_many", "_law_width", "_law_size", "_law_purse", "_law_machine_here", "_law_bad"]
def f_l_great : Fn := ⟨7, 2, [.asg (.name 2) (.ix (.dct [.inl 2, .inl 3, .inl 4, .inl 6] (.cons (.lit (.int 5)) (.cons (.lit (.int 3)) (.cons (.lit (.int 3)) (.cons (.lit (.int 2)) .nil))))) (.var 1)), .asg (.name 3) (.call 9 (.cons (.var 1) (.cons (.var 2) .nil)) .nil [0, 1]), .asg (.name 4) (.bin .add (.bin .fdiv (.lit (.int 100000)) (.var 3)) (.call 7 (.cons (.var 0) (.cons (.lit (.int 2)) .nil)) .nil [0, 1])), .asg (.name 5) (.tup (.cons (.lit (.str "left")) (.cons (.var 4) (.cons (.var 2) (.cons (.tup (.cons (.bin .mul (.tup (.cons (.neg (.lit (.int 1))) .nil)) (.bin .mul (.var 4) (.var 3))) .nil)) .nil))))), .asg (.name 6) (.lst (.cons (.var 5) (.cons (.tup (.cons (.lit (.str "right")) (.cons (.bin .pow (.lit (.int 10)) (.lit (.int 39))) (.cons (.lit (.int 1)) (.cons (.tup .nil) .nil))))) (.cons (.tup (.cons (.lit (.str "right")) (.cons (.lit (.int 1)) (.cons (.bin .pow (.lit (.int 10)) (.lit (.int 39))) (.cons (.tup (.cons (.tup (.cons (.lit (.int 0)) .nil)) .nil)) .nil))))) .nil)))), .ret (.call 8 (.cons (.var 0) (.cons (.var 6) .nil)) .nil [0, 1])]⟩
def n_l_is_right : List Str := ["_law_many", "_law_value", "_law_seen", "_law_due_here", "_law_told"]
def f_l_is_right : Fn := ⟨5, 2, [.par [2, 3] (.cons (.bi .repr (.cons (.var 1) .nil)) (.cons (.call 13 (.cons (.var 0) (.cons (.var 1) .nil)) .nil [0, 1]) .nil)), .asg (.name 4) (.lst (.cons (.call 5 (.cons (.var 0) (.cons (.var 1) .nil)) .nil [0, 1]) (.cons (.call 5 .nil (.cons (.var 1) (.cons (.var 0) .nil)) [1, 0]) .nil))), .ret (.and (.cmp .eq (.bi .repr (.cons (.var 4) .nil)) (.bi .repr (.cons (.lst (.cons (.var 3) (.cons (.var 3) .nil))) .nil))) (.cmp .eq (.bi .repr (.cons (.var 1) .nil)) (.var 2)))]⟩
def n_law : List Str := ["_law_script", "_law_deck_here", "_law_go", "_law_many", "_law_machine_here", "_law_k", "_law_some"]
def f_law : Fn := ⟨7, 1, [.asg (.name 1) (.call 6 (.cons (.var 0) .nil) .nil [0]), .for (.name 2) (.rng1 (.lit (.int 3))) [.asg (.name 3) (.call 8 (.cons (.var 1) (.cons (.lst (.cons (.lit (.int 2)) (.cons (.lit (.int 3)) (.cons (.lit (.int 4)) (.cons (.lit (.int 6)) .nil))))) .nil)) .nil [0, 1]), .asg (.name 4) (.call 15 (.cons (.var 1) (.cons (.var 3) .nil)) .nil [0, 1]), .ifs (.or (.not (.call 21 (.cons (.var 3) (.cons (.var 4) .nil)) .nil [0, 1])) (.not (.call 13 (.cons (.var 3) (.cons (.var 4) .nil)) .nil [0, 1]))) [.ret (.lit (.bl false))] [], .for (.name 5) (.rng1 (.lit (.int 6))) [.ifs (.not (.call 21 (.cons (.var 3) (.cons (.call 19 (.cons (.var 1) (.cons (.var 3) (.cons (.var 4) .nil))) .nil [0, 1, 2]) .nil)) .nil [0, 1])) [.ret (.lit (.bl false))] []]], .asg (.name 6) (.lst (.cons (.lit .non) (.cons (.lit (.int 0)) (.cons (.lit (.bl true)) (.cons (.lit (.str "right")) (.cons (.tup .nil) (.cons (.tup (.cons (.lit (.str "right")) .nil)) (.cons (.lst .nil) (.cons (.dct0) (.cons (.tup (.cons (.lit (.str "right")) (.cons (.lit (.int 1)) (.cons (.lit (.int 1)) .nil)))) (.cons (.tup (.cons (.lit (.int 1)) (.cons (.lit (.int 1)) (.cons (.lit (.int 1)) (.cons (.lit (.int 1)) .nil))))) .nil))))))))))), .exp (.mth .append (.var 6) (.cons (.tup (.cons (.tup .nil) (.cons (.tup .nil) (.cons (.tup .nil) (.cons (.tup .nil) .nil))))) .nil)), .ifs (.not (.call 21 (.cons (.var 3) (.cons (.call 8 (.cons (.var 1) (.cons (.var 6) .nil)) .nil [0, 1]) .nil)) .nil [0, 1])) [.ret (.lit (.bl false))] [], .ret (.call 21 (.cons (.var 3) (.cons (.call 20 (.cons (.var 1) (.cons (.var 3) .nil)) .nil [0, 1]) .nil)) .nil [0, 1])]⟩
def prog : List Fn := [f_is_integer, f_is_between, f_is_way, f_items_of, f_is_table, f_is_sweep, f_l_deck, f_l_draw, f_l_pick, f_l_power, f_l_items, f_l_is_integer, f_l_is_table, f_l_due, f_l_table, f_l_machine, f_l_put, f_l_other, f_l_bent_table, f_l_bent, f_l_great, f_l_is_right, f_law]

end K35
/-! Mv14: more for plain laws. -/
namespace Mv
open PySem
def iv (xs : List Int) : List LV := xs.map .int
theorem iv_len (xs : List Int) : (iv xs).length = xs.length := by simp [iv]
theorem iv_get {xs : List Int} {i : Nat} (h : i < xs.length) : (iv xs)[i]? = some (.int xs[i]) := by simp [iv, h]
theorem mulOk_r {i j : Int} (h : -(2 ^ 64) < j ∧ j < 2 ^ 64) : mulOk i j = true := decide_eq_true (.inr (.inl h))
theorem mulOk_l {i j : Int} (h : -(2 ^ 64) < i ∧ i < 2 ^ 64) : mulOk i j = true := decide_eq_true (.inl h)
theorem take_succ' {α : Type} {xs : List α} {i : Nat} (h : i < xs.length) : xs.take (i + 1) = xs.take i ++ [xs[i]] := by
  rw [List.take_succ, List.getElem?_eq_getElem h]
  rfl
def Grow (L L' : LH) : Prop := ∃ E, L' = L ++ E
theorem Grow.refl (L : LH) : Grow L L := ⟨[], by simp⟩
theorem Grow.trans {L L' L2 : LH} (a : Grow L L') (b : Grow L' L2) : Grow L L2 := by
  obtain ⟨E, rfl⟩ := a
  obtain ⟨F, rfl⟩ := b
  exact ⟨E ++ F, by simp⟩
theorem divOk_of {j : Int} (h : 0 < j ∧ j < 1000) : divOk j = true := by
  have e : j.natAbs.log2 ≤ j.natAbs := Nat.log2_le_self _
  exact decide_eq_true ⟨h.1, by omega⟩
theorem b_app (R : Cal) (b : List IS) : ∀ (a : List IS) (σ : LSt), evB R (a ++ b) σ = M.bind (evB R a σ) (seqK R b)
  | [], σ => rfl
  | s :: a, σ => by
    rw [List.cons_append, b_cons', b_cons', M.bind_bind]
    congr 1
    funext x
    obtain ⟨f, σ1⟩ := x
    cases f with
    | nx => exact b_app R b a σ1
    | _ => rfl
theorem toD_iv (L : LH) (n : Nat) : ∀ xs : List Int, optAll (toD L (n + 1)) (iv xs) = some (xs.map .int)
  | [] => rfl
  | x :: xs => by
    have ih := toD_iv L n xs
    have e : toD L (n + 1) (.int x) = some (.int x) := rfl
    show optAll (toD L (n + 1)) (.int x :: iv xs) = _
    unfold optAll
    rw [ih, e]
    rfl
theorem toD_lst {L : LH} {h : Nat} {xs : List Int} (n : Nat) (e : L[h]? = some (.lst (iv xs))) : toD L (n + 2) (.ref h) = some (.list (xs.map .int)) := by
  unfold toD
  simp only [e]
  rw [toD_iv]
  rfl
theorem toD_tup {L : LH} {xs : List Int} (n : Nat) : toD L (n + 2) (.tup (iv xs)) = some (.tuple (xs.map .int)) := by
  unfold toD
  dsimp only
  rw [toD_iv]
  rfl
theorem lay_ints : ∀ xs : List Int, PyData.canLayAll0 (xs.map .int) = true
  | [] => by simp [PyData.canLayAll0]
  | x :: xs => by simp [PyData.canLayAll0, PyData.canLay0, lay_ints xs]
theorem depth_ints : ∀ xs : List Int, PyData.depthAll (xs.map .int) = 0
  | [] => by simp [PyData.depthAll]
  | x :: xs => by simp [PyData.depthAll, PyData.depth, depth_ints xs]
theorem shaped_lst (xs : List Int) : SeqAt.shaped (.list (xs.map .int)) = true := by simp [SeqAt.shaped, PyData.canLay0, lay_ints, PyData.depth, depth_ints]
theorem shaped_tup (xs : List Int) : SeqAt.shaped (.tuple (xs.map .int)) = true := by simp [SeqAt.shaped, PyData.canLay0, lay_ints, PyData.depth, depth_ints]
theorem eqvAll_ints : ∀ xs ys : List Int, PyData.eqvAll (xs.map .int) (ys.map .int) = decide (xs = ys)
  | [], [] => by simp [PyData.eqvAll]
  | [], _ :: _ => by simp [PyData.eqvAll]
  | _ :: _, [] => by simp [PyData.eqvAll]
  | x :: xs, y :: ys => by
    simp only [List.map_cons, PyData.eqvAll, eqvAll_ints xs ys, PyData.eqv]
    by_cases h : x = y <;> by_cases h2 : xs = ys <;> simp [h, h2]
theorem wp_eq {op : COp} {x y : LV} {L : LH} {b : Bool} {Q : LV → LH → Prop} (e : Mv.eqV L x y = some b) (ho : op = .eq) (h : Q (.bl b) L) : wp (cmpV op x y) L Q := by
  subst ho
  exact wp_look.mpr ⟨b, e, wp_ret.mpr h⟩
theorem wp_ne {op : COp} {x y : LV} {L : LH} {b : Bool} {Q : LV → LH → Prop} (e : Mv.eqV L x y = some b) (ho : op = .ne) (h : Q (.bl (!b)) L) : wp (cmpV op x y) L Q := by
  subst ho
  exact wp_look.mpr ⟨b, e, wp_ret.mpr h⟩
theorem eq_lst {L : LH} {a b : Nat} {xs ys : List Int} (e1 : L[a]? = some (.lst (iv xs))) (e2 : L[b]? = some (.lst (iv ys))) : Mv.eqV L (.ref a) (.ref b) = some (decide (xs = ys)) := by
  show eqVd L _ _ = _
  unfold eqVd
  rw [toD_lst 64 e1, toD_lst 64 e2]
  simp [shaped_lst, PyData.eqv, eqvAll_ints]
theorem eq_tup {L : LH} {xs ys : List Int} : Mv.eqV L (.tup (iv xs)) (.tup (iv ys)) = some (decide (xs = ys)) := by
  show eqVd L _ _ = _
  unfold eqVd
  rw [toD_tup 64, toD_tup 64]
  simp [shaped_tup, PyData.eqv, eqvAll_ints]
structure Fr (d h : Nat) (L L' : LH) : Prop where
  le : L.length ≤ L'.length
  at_ : ∀ i, i < L.length → i ≠ d → i ≠ h → L'[i]? = L[i]?
theorem Fr.trans {d h : Nat} {L L1 L2 : LH} (a : Fr d h L L1) (b : Fr d h L1 L2) : Fr d h L L2 :=
  ⟨Nat.le_trans a.le b.le, fun i hi h1 h2 => (b.at_ i (Nat.lt_of_lt_of_le hi a.le) h1 h2).trans (a.at_ i hi h1 h2)⟩
theorem Fr.refl {d h : Nat} {L : LH} : Fr d h L L := ⟨Nat.le_refl _, fun _ _ _ _ => rfl⟩
theorem Fr.grow {d h : Nat} {L L' : LH} (g : Grow L L') : Fr d h L L' := by
  obtain ⟨E, rfl⟩ := g
  exact ⟨by simp, fun i hi _ _ => by rw [List.getElem?_append_left hi]⟩
theorem Fr.setD {d h : Nat} {L : LH} {o : LO} : Fr d h L (L.set d o) := ⟨by simp, fun i _ h1 _ => by rw [List.getElem?_set_ne (Ne.symm h1)]⟩
theorem Fr.setH {d h : Nat} {L : LH} {o : LO} : Fr d h L (L.set h o) := ⟨by simp, fun i _ _ h2 => by rw [List.getElem?_set_ne (Ne.symm h2)]⟩
theorem lt_of {L : LH} {i : Nat} {o : LO} (h : L[i]? = some o) : i < L.length := (List.getElem?_eq_some_iff.mp h).1
theorem pm0 {a : LV} : permG ([a] ++ []) [0] = some [a] := rfl
theorem pm01 {a b : LV} : permG ([a, b] ++ []) [0, 1] = some [a, b] := rfl
theorem pm012 {a b c : LV} : permG ([a, b, c] ++ []) [0, 1, 2] = some [a, b, c] := rfl
theorem pm10 {a b : LV} : permG ([] ++ [a, b]) [1, 0] = some [b, a] := rfl
theorem pm210 {a b c : LV} : permG ([] ++ [a, b, c]) [2, 1, 0] = some [c, b, a] := rfl
theorem dct_ref {ks : List L2.Key} {xs : List LV} {n : Nat} {L : LH} {Q : LV → LH → Prop} (e : L[n]? = some (.dic [])) (q : Q (.ref n) (L.set n (.dic (dmerge [] (ks.zip xs))))) : wp (dctE ks xs (.ref n)) L Q := by
  show wp (fun L => dctR n (dmerge [] (ks.zip xs)) L[n]? L) L Q
  rw [wp_at, e]
  show wp (M.bind (setO n (.dic (dmerge [] (ks.zip xs)))) fun _ => M.ret (.ref n)) L Q
  rw [wp_bind, wp_setO, wp_ret]
  exact q
theorem it_ref {n : Nat} {xs : List LV} {L : LH} {Q : Src → LH → Prop} (e : L[n]? = some (.lst xs)) (q : Q (.live n xs.length) L) : wp (iterV (.ref n)) L Q := by
  show wp (fun L => iterR n L[n]? L) L Q
  rw [wp_at, e]
  exact wp_ret.mpr q
theorem len_lst {L : LH} {n : Nat} {xs : List LV} (e : L[n]? = some (.lst xs)) : lenV L (.ref n) = some xs.length := by
  unfold lenV
  simp only [e]
theorem wp_mulR {n : Nat} {xs : List LV} {c : Int} {L : LH} {Q : LV → LH → Prop} (e : L[n]? = some (.lst xs)) (hc : 0 ≤ c ∧ c < 1000) (hx : xs.length < 1000) (q : Q (.ref L.length) (L ++ [.lst (reps xs c)])) : wp (binV .mul (.ref n) (.int c)) L Q := by
  show wp (fun L => repR c L[n]? L) L Q
  rw [wp_at, e]
  refine wp_chk.mpr ⟨?_, wp_new.mpr q⟩
  rw [Bool.and_eq_true]
  refine ⟨decide_eq_true (by omega), decide_eq_true ?_⟩
  have h1 : xs.length * c.toNat ≤ 1000 * 1000 := Nat.mul_le_mul (by omega) (by omega)
  exact Nat.le_trans h1 (by decide)
theorem wp_catR {n m : Nat} {xs ys : List LV} {L : LH} {Q : LV → LH → Prop} (e : L[n]? = some (.lst xs)) (e2 : L[m]? = some (.lst ys)) (hx : xs.length < 10000 ∧ ys.length < 10000) (q : Q (.ref L.length) (L ++ [.lst (xs ++ ys)])) : wp (binV .add (.ref n) (.ref m)) L Q := by
  show wp (fun L => catR L[n]? L[m]? L) L Q
  rw [wp_at, e, e2]
  refine wp_chk.mpr ⟨decide_eq_true ?_, wp_new.mpr q⟩
  have h1 : xs.length + ys.length ≤ 20000 := by omega
  exact Nat.le_trans h1 (by decide)
theorem items_lst {n : Nat} {xs : List LV} {L : LH} (e : L[n]? = some (.lst xs)) : itemsL L (.ref n) = some xs := by
  unfold itemsL
  simp only [e]
theorem reps_one {v c : Int} : reps (iv [v]) c = iv (List.replicate c.toNat v) := by simp [reps, iv]
theorem cut_lo {xs : List Int} {c : Int} (hc : 0 ≤ c) : cut (iv xs) (some c) none = iv (xs.drop c.toNat) := by
  unfold cut
  have e1 : HT.sIx (iv xs).length 0 (some c) = min c.toNat xs.length := by
    show (if c < 0 then _ else min c.toNat (iv xs).length) = _
    rw [if_neg (by omega), iv_len]
  have e2 : HT.sIx (iv xs).length (iv xs).length none = xs.length := iv_len xs
  rw [e1, e2]
  simp only [iv, ← List.map_drop, ← List.map_take]
  congr 1
  by_cases h : c.toNat ≤ xs.length
  · rw [Nat.min_eq_left h, List.take_of_length_le (by simp)]
  · rw [Nat.min_eq_right (by omega), List.drop_of_length_le (by omega), List.drop_of_length_le (by omega)]
    simp
theorem cut_hi {xs : List Int} {c : Int} (hc : 0 ≤ c) : cut (iv xs) none (some c) = iv (xs.take c.toNat) := by
  unfold cut
  have e1 : HT.sIx (iv xs).length (iv xs).length (some c) = min c.toNat xs.length := by
    show (if c < 0 then _ else min c.toNat (iv xs).length) = _
    rw [if_neg (by omega), iv_len]
  have e2 : HT.sIx (iv xs).length 0 none = 0 := rfl
  rw [e1, e2]
  simp only [iv, ← List.map_drop, ← List.map_take, List.drop_zero, Nat.sub_zero]
  congr 1
  by_cases h : c.toNat ≤ xs.length
  · rw [Nat.min_eq_left h]
  · rw [Nat.min_eq_right (by omega), List.take_of_length_le (by omega), List.take_of_length_le (by omega)]
theorem Fr.setNew {d h i : Nat} {o : LO} {L L' : LH} (F : Fr d h L L') (hi : L.length ≤ i) : Fr d h L (L'.set i o) :=
  ⟨by rw [List.length_set]; exact F.le, fun j hj h1 h2 => by rw [List.getElem?_set_ne (by omega)]; exact F.at_ j hj h1 h2⟩
theorem show_ints {b : Nat} (hb : b ≤ 500) {xs : List Int} (h : ∀ x ∈ xs, x.natAbs.log2 < b) : PyData.showableAll (xs.map .int) = true ∧ PyData.leavesShortAll 501 (xs.map .int) = true ∧ PyData.weightAll (xs.map .int) ≤ (b + 2) * xs.length := by
  induction xs with
  | nil => simp [PyData.showableAll, PyData.leavesShortAll, PyData.weightAll]
  | cons x xs ih =>
    obtain ⟨i1, i2, i3⟩ := ih fun y hy => h y (List.mem_cons_of_mem _ hy)
    have hx := h x (List.mem_cons_self ..)
    refine ⟨?_, ?_, ?_⟩
    · simp only [List.map_cons, PyData.showableAll, PyData.showable, i1, Bool.and_true]
      exact decide_eq_true (by omega)
    · simp only [List.map_cons, PyData.leavesShortAll, PyData.leavesShort, i2, Bool.and_true]
      refine decide_eq_true ?_
      rw [PyData.shown_int]
      show (Str.ofString (toString x)).length ≤ 501
      rw [PySem.ofString_length]
      exact PySem.int_text_length_le (k := 500) (by decide) (Nat.lt_of_lt_of_le hx hb)
    · simp only [List.map_cons, PyData.weightAll, PyData.weight, List.length_cons, Nat.mul_add, Nat.mul_one]
      split <;> omega
theorem repr_chk {d : PyData} (h1 : d.showable = true) (h2 : d.leavesShort 501 = true) (h3 : d.weight ≤ 30000) (h4 : d.depth ≤ 64) : (d.showable && small d.shown.length && decide (d.depth ≤ 64)) = true := by
  have h := PyData.shown_le 501 (by decide) d h2
  have e : d.shown.length ≤ sizeLine := by
    have : (501 + 2) * d.weight + 501 ≤ 503 * 30000 + 501 := by omega
    exact Nat.le_trans h (Nat.le_trans this (by decide))
  rw [h1, show small d.shown.length = true from decide_eq_true e, decide_eq_true h4]
  rfl
theorem wp_repr {x : LV} {d : PyData} {L : LH} {Q : LV → LH → Prop} (e : toR L x = some d) (c : (d.showable && small d.shown.length && decide (d.depth ≤ 64)) = true) (q : Q (.str d.shown) L) : wp (biV .repr [x]) L Q :=
  wp_look.mpr ⟨d, e, wp_chk.mpr ⟨c, wp_ret.mpr q⟩⟩
theorem toD_int {L : LH} {i : Int} {n : Nat} : toD L (n + 1) (.int i) = some (.int i) := rfl
theorem mth_append {n : Nat} {ys : List LV} {x : LV} {L : LH} {Q : LV → LH → Prop} (e : L[n]? = some (.lst ys)) (hl : ys.length < sizeLine) (q : Q .non (L.set n (.lst (ys ++ [x])))) : wp (mthV .append (.ref n) [x]) L Q := by
  rw [wp_mth, e, m_append, wp_chk, wp_bind, wp_setO, wp_ret]
  exact ⟨decide_eq_true hl, q⟩
theorem Grow.set {L L' : LH} {i : Nat} {o : LO} (g : Grow L L') (hi : L.length ≤ i) : Grow L (L'.set i o) := by
  obtain ⟨E, rfl⟩ := g
  exact ⟨E.set (i - L.length) o, by rw [List.set_append_right _ _ hi]⟩
theorem wp_isi {x : LV} {t : Ty} {ts : List Ty} {L : LH} {Q : LV → LH → Prop} (e : tyOf L x = some ts) (q : Q (.bl (decide (t ∈ ts))) L) : wp (isiV x t) L Q := wp_look.mpr ⟨ts, e, wp_ret.mpr q⟩
theorem isi_tup {xs : List LV} {L : LH} {Q : LV → LH → Prop} : wp (isiV (.tup xs) .tuple) L Q ↔ Q (.bl true) L := by
  constructor
  · intro h
    obtain ⟨ts, e, q⟩ := wp_look.mp h
    cases e
    exact wp_ret.mp q
  · intro q
    exact wp_isi rfl q
theorem isi_int {i : Int} {L : LH} {Q : LV → LH → Prop} : wp (isiV (.int i) .int) L Q ↔ Q (.bl true) L := by
  constructor
  · intro h
    obtain ⟨ts, e, q⟩ := wp_look.mp h
    cases e
    exact wp_ret.mp q
  · intro q
    exact wp_isi rfl q
theorem turnQ.imp {I I' : LSt → LH → Prop} {Q : Fl × LSt → LH → Prop} {r : Fl × LSt} {L : LH} (h : turnQ I Q r L) (q : ∀ σ L, I σ L → I' σ L) : turnQ I' Q r L := by
  obtain ⟨f, σ⟩ := r
  cases f with
  | nx => exact q _ _ h
  | ct => exact q _ _ h
  | bk => exact h
  | rt v => exact h
theorem eqV_bl {L : LH} {a b : Bool} : Mv.eqV L (.bl a) (.bl b) = some (a == b) := rfl
theorem intL_iv : ∀ xs : List Int, intL (iv xs) = some xs
  | [] => rfl
  | x :: xs => by
    show (intL (iv xs)).map (x :: ·) = _
    rw [intL_iv xs]
    rfl
theorem lt_tup {xs ys : List Int} : cmpV .lt (.tup (iv xs)) (.tup (iv ys)) = M.ret (.bl (HT.lexLt xs ys)) := by
  show M.ofO (intL (iv xs)) (fun m => M.ofO (intL (iv ys)) fun n => M.ret (LV.bl (HT.lexLt m n))) = _
  rw [intL_iv, intL_iv]
  rfl
end Mv

/-! Mv15: values that are data: what they are as data, at most so deep; plain. -/
namespace Mv
open PySem
def okV (L : LH) (v : LV) : Prop := ∃ ts, tyOf L v = some ts
mutual
/-- the value is such data, at most n levels deep, its leaves at most B signs long -/
inductive Dt (L : LH) (B : Nat) : Nat → LV → PyData → Prop
  | non (n : Nat) : Dt L B n .non .none
  | bl (n : Nat) (b : Bool) : Dt L B n (.bl b) (.bool b)
  | int (n : Nat) (i : Int) : i.natAbs.log2 < 1920 → (PyData.shown (.int i)).length ≤ B → Dt L B n (.int i) (.int i)
  | str (n : Nat) (s : Str) : PyData.strOk s = true → (s.cps.toList.all fun c => decide (c < 16 ^ 8)) = true → Dt L B n (.str s) (.str s)
  | tup {n : Nat} {xs : List LV} {ds : List PyData} : Dts L B n xs ds → xs.length < sizeLine → Dt L B (n + 1) (.tup xs) (.tuple ds)
  | lst {n k : Nat} {xs : List LV} {ds : List PyData} : L[k]? = some (.lst xs) → Dts L B n xs ds → Dt L B (n + 1) (.ref k) (.list ds)
inductive Dts (L : LH) (B : Nat) : Nat → List LV → List PyData → Prop
  | nil (n : Nat) : Dts L B n [] []
  | cons {n : Nat} {x : LV} {xs : List LV} {d : PyData} {ds : List PyData} : Dt L B n x d → Dts L B n xs ds → Dts L B n (x :: xs) (d :: ds)
end
section
variable {L L' : LH} {B : Nat}
theorem grow_at {k : Nat} {o : LO} (g : Grow L L') (h : L[k]? = some o) : L'[k]? = some o := by
  obtain ⟨E, rfl⟩ := g
  rw [List.getElem?_append_left (lt_of h)]
  exact h
mutual
theorem Dt.grow (g : Grow L L') : ∀ {n : Nat} {v : LV} {d : PyData}, Dt L B n v d → Dt L' B n v d
  | _, _, _, .non n => .non n
  | _, _, _, .bl n b => .bl n b
  | _, _, _, .int n i h1 h2 => .int n i h1 h2
  | _, _, _, .str n s h1 h2 => .str n s h1 h2
  | _, _, _, .tup h1 h2 => .tup (Dts.grow g h1) h2
  | _, _, _, .lst h1 h2 => .lst (grow_at g h1) (Dts.grow g h2)
theorem Dts.grow (g : Grow L L') : ∀ {n : Nat} {v : List LV} {d : List PyData}, Dts L B n v d → Dts L' B n v d
  | _, _, _, .nil n => .nil n
  | _, _, _, .cons h1 h2 => .cons (Dt.grow g h1) (Dts.grow g h2)
end
mutual
theorem Dt.up : ∀ {n : Nat} {v : LV} {d : PyData}, Dt L B n v d → Dt L B (n + 1) v d
  | _, _, _, .non n => .non _
  | _, _, _, .bl n b => .bl _ b
  | _, _, _, .int n i h1 h2 => .int _ i h1 h2
  | _, _, _, .str n s h1 h2 => .str _ s h1 h2
  | _, _, _, .tup h1 h2 => .tup (Dts.up h1) h2
  | _, _, _, .lst h1 h2 => .lst h1 (Dts.up h2)
theorem Dts.up : ∀ {n : Nat} {v : List LV} {d : List PyData}, Dts L B n v d → Dts L B (n + 1) v d
  | _, _, _, .nil n => .nil _
  | _, _, _, .cons h1 h2 => .cons (Dt.up h1) (Dts.up h2)
end
theorem Dt.le {n m : Nat} {v : LV} {d : PyData} (h : Dt L B n v d) (e : n ≤ m) : Dt L B m v d := by
  induction e with
  | refl => exact h
  | step _ ih => exact ih.up
theorem Dt.ok : ∀ {n : Nat} {v : LV} {d : PyData}, Dt L B n v d → okV L v
  | _, _, _, .non n => ⟨_, rfl⟩
  | _, _, _, .bl n b => ⟨_, rfl⟩
  | _, _, _, .int n i _ _ => ⟨_, rfl⟩
  | _, _, _, .str n s _ _ => ⟨_, rfl⟩
  | _, _, _, .tup _ _ => ⟨_, rfl⟩
  | _, _, _, .lst h1 _ => ⟨[.list], by unfold tyOf; simp only [h1]⟩
mutual
theorem Dt.toD : ∀ {n : Nat} {v : LV} {d : PyData}, Dt L B n v d → ∀ m, n < m → Mv.toD L m v = some d
  | _, _, _, .non n, m + 1, _ => rfl
  | _, _, _, .bl n b, m + 1, _ => rfl
  | _, _, _, .int n i _ _, m + 1, _ => rfl
  | _, _, _, .str n s _ _, m + 1, _ => rfl
  | _, _, _, .tup (xs := xs) (ds := ds) h1 _, m + 1, h => by
    show (optAll (Mv.toD L m) xs).map PyData.tuple = _
    rw [Dts.toD h1 m (by omega)]
    rfl
  | _, _, _, .lst (xs := xs) h0 h1, m + 1, h => by
    unfold Mv.toD
    simp only [h0]
    rw [Dts.toD h1 m (by omega)]
    rfl
theorem Dts.toD : ∀ {n : Nat} {v : List LV} {d : List PyData}, Dts L B n v d → ∀ m, n < m → optAll (Mv.toD L m) v = some d
  | _, _, _, .nil _, _, _ => rfl
  | _, _, _, .cons h1 h2, m, h => by
    unfold optAll
    rw [Dt.toD h1 m h, Dts.toD h2 m h]
end
theorem Dt.toR {n : Nat} {v : LV} {d : PyData} (h : Dt L B n v d) (hn : n < 66) : Mv.toR L v = some d := by
  unfold Mv.toR
  have e : dicAt L v = none := by
    cases h with
    | lst h1 _ => unfold dicAt; simp only [h1]
    | _ => rfl
  rw [e]
  exact h.toD 66 hn
mutual
theorem Dt.lay : ∀ {n : Nat} {v : LV} {d : PyData}, Dt L B n v d → d.canLay0 = true
  | _, _, _, .non n => rfl
  | _, _, _, .bl n b => rfl
  | _, _, _, .int n i _ _ => rfl
  | _, _, _, .str n s h _ => h
  | _, _, _, .tup h1 _ => by unfold PyData.canLay0; exact Dts.lay h1
  | _, _, _, .lst _ h1 => by unfold PyData.canLay0; exact Dts.lay h1
theorem Dts.lay : ∀ {n : Nat} {v : List LV} {d : List PyData}, Dts L B n v d → PyData.canLayAll0 d = true
  | _, _, _, .nil _ => rfl
  | _, _, _, .cons h1 h2 => by unfold PyData.canLayAll0; rw [Dt.lay h1, Dts.lay h2]; rfl
end
mutual
theorem Dt.dep : ∀ {n : Nat} {v : LV} {d : PyData}, Dt L B n v d → d.depth ≤ n
  | _, _, _, .non n => by simp [PyData.depth]
  | _, _, _, .bl n b => by simp [PyData.depth]
  | _, _, _, .int n i _ _ => by simp [PyData.depth]
  | _, _, _, .str n s h _ => by simp [PyData.depth]
  | _, _, _, .tup h1 _ => by
    have := Dts.dep h1
    simp only [PyData.depth]
    omega
  | _, _, _, .lst _ h1 => by
    have := Dts.dep h1
    simp only [PyData.depth]
    omega
theorem Dts.dep : ∀ {n : Nat} {v : List LV} {d : List PyData}, Dts L B n v d → PyData.depthAll d ≤ n
  | _, _, _, .nil _ => by simp [PyData.depthAll]
  | _, _, _, .cons h1 h2 => by
    have a := Dt.dep h1
    have b := Dts.dep h2
    simp only [PyData.depthAll]
    omega
end
mutual
theorem Dt.sh : ∀ {n : Nat} {v : LV} {d : PyData}, Dt L B n v d → d.showable = true
  | _, _, _, .non n => rfl
  | _, _, _, .bl n b => rfl
  | _, _, _, .int n i h _ => by unfold PyData.showable; exact decide_eq_true h
  | _, _, _, .str n s h _ => rfl
  | _, _, _, .tup h1 _ => by unfold PyData.showable; exact Dts.sh h1
  | _, _, _, .lst _ h1 => by unfold PyData.showable; exact Dts.sh h1
theorem Dts.sh : ∀ {n : Nat} {v : List LV} {d : List PyData}, Dts L B n v d → PyData.showableAll d = true
  | _, _, _, .nil _ => rfl
  | _, _, _, .cons h1 h2 => by unfold PyData.showableAll; rw [Dt.sh h1, Dts.sh h2]; rfl
end
mutual
theorem Dt.lf : ∀ {n : Nat} {v : LV} {d : PyData}, Dt L B n v d → d.leavesShort B = true
  | _, _, _, .non n => rfl
  | _, _, _, .bl n b => rfl
  | _, _, _, .int n i _ h => by unfold PyData.leavesShort; exact decide_eq_true h
  | _, _, _, .str n s _ h => by unfold PyData.leavesShort; exact h
  | _, _, _, .tup h1 _ => by unfold PyData.leavesShort; exact Dts.lf h1
  | _, _, _, .lst _ h1 => by unfold PyData.leavesShort; exact Dts.lf h1
theorem Dts.lf : ∀ {n : Nat} {v : List LV} {d : List PyData}, Dts L B n v d → PyData.leavesShortAll B d = true
  | _, _, _, .nil _ => rfl
  | _, _, _, .cons h1 h2 => by unfold PyData.leavesShortAll; rw [Dt.lf h1, Dts.lf h2]; rfl
end
theorem Dts.len : ∀ {n : Nat} {v : List LV} {d : List PyData}, Dts L B n v d → d.length = v.length
  | _, _, _, .nil _ => rfl
  | _, _, _, .cons _ h2 => congrArg (· + 1) (Dts.len h2)
/-- shown: as text -/
theorem Dt.rep {n W : Nat} {v : LV} {d : PyData} (h : Dt L B n v d) (hn : n < 60) (hB : 8 ≤ B) (hw : d.weight ≤ W) (hW : (B + 2) * W + B ≤ 16000000) : (d.showable && small d.shown.length && decide (d.depth ≤ 64)) = true := by
  have h2 := PyData.shown_le B hB d h.lf
  have h3 : (B + 2) * d.weight ≤ (B + 2) * W := Nat.mul_le_mul_left _ hw
  have e : d.shown.length ≤ sizeLine := Nat.le_trans h2 (Nat.le_trans (by omega) (show 16000000 ≤ sizeLine by decide))
  rw [h.sh, show small d.shown.length = true from decide_eq_true e, decide_eq_true (by have := h.dep; omega)]
  rfl
theorem Dt.shp {n : Nat} {v : LV} {d : PyData} (h : Dt L B n v d) (hn : n < 60) : SeqAt.shaped d = true := by
  unfold SeqAt.shaped
  rw [h.lay, decide_eq_true (by have := h.dep; omega)]
  rfl
/-- data of a weight -/
def GD (L : LH) (B n w : Nat) (v : LV) : Prop := ∃ d, Dt L B n v d ∧ d.weight ≤ w
def GDs (L : LH) (B n w : Nat) (xs : List LV) : Prop := ∃ ds, Dts L B n xs ds ∧ PyData.weightAll ds ≤ w
theorem GD.grow {n w : Nat} {v : LV} (h : GD L B n w v) (g : Grow L L') : GD L' B n w v := by
  obtain ⟨d, h1, h2⟩ := h
  exact ⟨d, h1.grow g, h2⟩
theorem GDs.grow {n w : Nat} {v : List LV} (h : GDs L B n w v) (g : Grow L L') : GDs L' B n w v := by
  obtain ⟨d, h1, h2⟩ := h
  exact ⟨d, h1.grow g, h2⟩
theorem GD.le {n m w w' : Nat} {v : LV} (h : GD L B n w v) (e : n ≤ m) (e2 : w ≤ w') : GD L B m w' v := by
  obtain ⟨d, h1, h2⟩ := h
  exact ⟨d, h1.le e, Nat.le_trans h2 e2⟩
theorem Dts.le {n m : Nat} : ∀ {v : List LV} {d : List PyData}, Dts L B n v d → n ≤ m → Dts L B m v d
  | _, _, .nil _, _ => .nil _
  | _, _, .cons h1 h2, e => .cons (h1.le e) (Dts.le h2 e)
theorem GDs.le {n m w w' : Nat} {v : List LV} (h : GDs L B n w v) (e : n ≤ m) (e2 : w ≤ w') : GDs L B m w' v := by
  obtain ⟨d, h1, h2⟩ := h
  exact ⟨d, h1.le e, Nat.le_trans h2 e2⟩
theorem GD.ok {n w : Nat} {v : LV} (h : GD L B n w v) : okV L v := by
  obtain ⟨d, h1, h2⟩ := h
  exact h1.ok
theorem GD.non {n w : Nat} : GD L B n w .non := ⟨_, .non n, Nat.zero_le _⟩
theorem GD.bl {n w : Nat} (b : Bool) : GD L B n w (.bl b) := ⟨_, .bl n b, Nat.zero_le _⟩
/-- an int of few bits -/
theorem GD.int {n w b : Nat} {i : Int} (h : i.natAbs.log2 < b) (hb : b + 1 ≤ B) (hb2 : b ≤ 1920) (hw : b ≤ w) : GD L B n w (.int i) := by
  refine ⟨_, .int n i (by omega) ?_, ?_⟩
  · rw [PyData.shown_int]
    show (Str.ofString (toString i)).length ≤ B
    rw [PySem.ofString_length]
    rcases Nat.eq_zero_or_pos b with rfl | hb3
    · omega
    · exact Nat.le_trans (PySem.int_text_length_le (k := b) hb3 h) (by omega)
  · simp only [PyData.weight]
    split <;> omega
theorem GD.str {n w : Nat} {s : Str} (h1 : PyData.strOk s = true) (h2 : (s.cps.toList.all fun c => decide (c < 16 ^ 8)) = true) (hw : s.cps.size ≤ w) : GD L B n w (.str s) := ⟨_, .str n s h1 h2, hw⟩
theorem GD.tup {n w : Nat} {xs : List LV} (h : GDs L B n w xs) (hl : xs.length < sizeLine) : GD L B (n + 1) w (.tup xs) := by
  obtain ⟨ds, h1, h2⟩ := h
  exact ⟨_, .tup h1 hl, by simpa only [PyData.weight] using h2⟩
theorem GD.lst {n w k : Nat} {xs : List LV} (e : L[k]? = some (.lst xs)) (h : GDs L B n w xs) : GD L B (n + 1) w (.ref k) := by
  obtain ⟨ds, h1, h2⟩ := h
  exact ⟨_, .lst e h1, by simpa only [PyData.weight] using h2⟩
theorem GDs.nil {n w : Nat} : GDs L B n w [] := ⟨_, .nil n, Nat.zero_le _⟩
theorem GDs.cons {n w1 w2 w : Nat} {x : LV} {xs : List LV} (h1 : GD L B n w1 x) (h2 : GDs L B n w2 xs) (hw : w1 + 1 + w2 ≤ w) : GDs L B n w (x :: xs) := by
  obtain ⟨d, a, b⟩ := h1
  obtain ⟨ds, a2, b2⟩ := h2
  exact ⟨_, .cons a a2, by simp only [PyData.weightAll]; omega⟩
theorem GDs.all {n w : Nat} : ∀ {xs : List LV}, (∀ x ∈ xs, GD L B n w x) → GDs L B n ((w + 1) * xs.length) xs
  | [], _ => .nil
  | x :: xs, h => .cons (h x (List.mem_cons_self ..)) (GDs.all fun y hy => h y (List.mem_cons_of_mem _ hy)) (by rw [List.length_cons, Nat.mul_add]; omega)
theorem GDs.mem {n w : Nat} : ∀ {xs : List LV}, GDs L B n w xs → ∀ x ∈ xs, GD L B n w x
  | [], _, _, h => by cases h
  | x :: xs, ⟨_, .cons h1 h2, hw⟩, y, hy => by
    simp only [PyData.weightAll] at hw
    rcases List.mem_cons.mp hy with rfl | hy
    · exact ⟨_, h1, by omega⟩
    · exact GDs.mem (w := w) ⟨_, h2, by omega⟩ y hy
theorem GDs.append {n w1 w2 w : Nat} : ∀ {xs ys : List LV}, GDs L B n w1 xs → GDs L B n w2 ys → w1 + w2 ≤ w → GDs L B n w (xs ++ ys)
  | [], ys, _, h, e => h.le (Nat.le_refl _) (by omega)
  | x :: xs, ys, ⟨_, .cons (d := d) (ds := ds) h1 h2, hw⟩, h, e => by
    simp only [PyData.weightAll] at hw
    exact .cons (w1 := d.weight) (w2 := PyData.weightAll ds + w2) ⟨_, h1, Nat.le_refl _⟩ (GDs.append (w1 := PyData.weightAll ds) (w2 := w2) ⟨_, h2, Nat.le_refl _⟩ h (Nat.le_refl _)) (by omega)
/-- some of its items -/
theorem GDs.sub {n w : Nat} {ys : List LV} : ∀ {xs : List LV}, GDs L B n w xs → ys.Sublist xs → GDs L B n w ys
  | [], h, s => by
    have := List.sublist_nil.mp s
    subst this
    exact h
  | x :: xs, ⟨_, .cons (d := d) h1 h2, hw⟩, s => by
    simp only [PyData.weightAll] at hw
    cases s with
    | cons _ s => exact GDs.sub (w := w) ⟨_, h2, by omega⟩ s
    | cons_cons _ s => exact .cons (w1 := d.weight) (w2 := w - (d.weight + 1)) ⟨_, h1, Nat.le_refl _⟩ (GDs.sub ⟨_, h2, by omega⟩ s) (by omega)
theorem GD.tupInv {n w : Nat} {xs : List LV} (h : GD L B n w (.tup xs)) : xs.length < sizeLine ∧ GDs L B (n - 1) w xs := by
  obtain ⟨d, h1, h2⟩ := h
  cases h1 with
  | tup a b => exact ⟨b, _, a, by simpa only [PyData.weight] using h2⟩
theorem GD.ofString {n w : Nat} (s : String) (hw : s.length ≤ w) : GD L B n w (.str (Str.ofString s)) := by
  have e : ∀ c ∈ (Str.ofString s).cps.toList, c < 0x110000 := by
    rw [Str.ofString_eq_toList]
    intro c hc
    obtain ⟨ch, _, rfl⟩ := List.mem_map.mp (show c ∈ s.toList.map Char.toNat from hc)
    have := ch.valid
    have h : ch.toNat.isValidChar := ch.valid
    rcases h with h | h <;> omega
  refine .str ?_ ?_ ?_
  · unfold PyData.strOk
    rw [Array.all_eq_true']
    intro c hc
    exact decide_eq_true (e c (by simpa using hc))
  · rw [List.all_eq_true]
    intro c hc
    exact decide_eq_true (Nat.lt_of_lt_of_le (e c hc) (by decide))
  · have := PySem.ofString_length s
    have h2 : (Str.ofString s).cps.size = s.length := this
    omega
theorem GDs.set {n w w1 w2 : Nat} {x : LV} (hx : GD L B n w1 x) : ∀ {xs : List LV} {i : Nat}, GDs L B n w xs → w + w1 ≤ w2 → GDs L B n w2 (xs.set i x)
  | [], _, h, e => h.le (Nat.le_refl _) (by omega)
  | y :: xs, 0, ⟨_, .cons (d := d) (ds := ds) h1 h2, hw⟩, e => by
    simp only [PyData.weightAll] at hw
    exact .cons hx (w2 := PyData.weightAll ds) ⟨_, h2, Nat.le_refl _⟩ (by omega)
  | y :: xs, i + 1, ⟨_, .cons (d := d) (ds := ds) h1 h2, hw⟩, e => by
    simp only [PyData.weightAll] at hw
    exact .cons (w1 := d.weight) (w2 := PyData.weightAll ds + w1) ⟨_, h1, Nat.le_refl _⟩ (GDs.set hx (w := PyData.weightAll ds) (i := i) ⟨_, h2, Nat.le_refl _⟩ (Nat.le_refl _)) (by omega)
theorem cut_sub (xs : List LV) (lo hi : Option Int) : (cut xs lo hi).Sublist xs := (List.take_sublist _ _).trans (List.drop_sublist _ _)
theorem GDs.ints {n b : Nat} {xs : List Int} (h : ∀ x ∈ xs, x.natAbs.log2 < b) (hb : b + 1 ≤ B) (hb2 : b ≤ 1920) : GDs L B n ((b + 1) * xs.length) (iv xs) := by
  have e := GDs.all (L := L) (B := B) (n := n) (w := b) (xs := iv xs) fun x hx => by
    obtain ⟨i, hi, rfl⟩ := List.mem_map.mp hx
    exact .int (h i hi) hb hb2 (Nat.le_refl _)
  rw [iv_len] at e
  exact e
/-- repr of data -/
theorem wp_reprD {n w : Nat} {v : LV} {Q : LV → LH → Prop} (h : GD L B n w v) (hn : n < 60) (hB : 8 ≤ B) (hW : (B + 2) * w + B ≤ 16000000) (q : ∀ s, (∀ L', Grow L L' → ∀ Q' : LV → LH → Prop, Q' (.str s) L' → wp (biV .repr [v]) L' Q') → Q (.str s) L) : wp (biV .repr [v]) L Q := by
  obtain ⟨d, h1, h2⟩ := h
  exact wp_repr (h1.toR (by omega)) (h1.rep hn hB h2 hW) (q _ fun L' g Q' q' => wp_repr ((h1.grow g).toR (by omega)) ((h1.grow g).rep hn hB h2 hW) q')
end
end Mv

namespace K35
open PySem Mv
theorem setR_lst {n : Nat} {v : LV} {xs : List LV} {k : Int} : setR n v (some (.lst xs)) (.int k) = M.ofO (L2.ixN xs.length k) fun j => setO n (.lst (xs.set j v)) := rfl
theorem at3_0 {a b c : LV} : L2.atI [a, b, c] 0 = some a := rfl
theorem at3_1 {a b c : LV} : L2.atI [a, b, c] 1 = some b := rfl
theorem at3_2 {a b c : LV} : L2.atI [a, b, c] 2 = some c := rfl
theorem ixN3_2 : L2.ixN 3 2 = some 2 := rfl
abbrev d3 (h : Nat) (m t : Int) : List LV := [.ref h, .int m, .int t]
/-! the deck: a list of the digits (the last one is drawn next), the mixed number, the count -/
structure Deck (d h t : Nat) (L : LH) : Prop where
  ne : d ≠ h
  ex : ∃ (xs : List Int) (m : Int), xs.length ≤ 63 ∧ L[d]? = some (.lst (d3 h m t)) ∧ L[h]? = some (.lst (iv xs))
theorem Deck.grow {d h t : Nat} {L L' : LH} (D : Deck d h t L) (g : Grow L L') : Deck d h t L' := by
  obtain ⟨E, rfl⟩ := g
  obtain ⟨n, xs, m, l, e1, e2⟩ := D
  exact ⟨n, xs, m, l, by rw [List.getElem?_append_left (lt_of e1)]; exact e1, by rw [List.getElem?_append_left (lt_of e2)]; exact e2⟩
theorem Deck.setO {d h t i : Nat} {o : LO} {L : LH} (D : Deck d h t L) (hi : i ≠ d ∧ i ≠ h) : Deck d h t (L.set i o) := by
  obtain ⟨n, xs, m, l, e1, e2⟩ := D
  exact ⟨n, xs, m, l, by rw [List.getElem?_set_ne hi.1]; exact e1, by rw [List.getElem?_set_ne hi.2]; exact e2⟩
def drawTail : List IS := f_l_draw.body.drop 3
theorem draw_tail {R : Cal} {L : LH} {d h : Nat} {n t m m0 : Int} {x : Option LV} {Q : LV → LH → Prop} (hn : 0 < n) (ht : 0 ≤ t ∧ t < 1099511627776) (e : L[d]? = some (.lst (d3 h m0 t))) (q : ∀ z : Int, 0 ≤ z → z < n → Q (.int z) L) :
    wp (evB R drawTail [some (.ref d), some (.int n), some (.int m), x]) L fun a L1 => wp (retK a) L1 Q := by
  simp only [drawTail, f_l_draw, List.drop_succ_cons, List.drop_zero, e, at3_2, wp_bind, wp_ret, wp_chk, wp_ofO, wp_look, wp_new, wp_setO, wp_br, v_var, v_lit, v_glo, v_bin, v_neg, v_cmp, v_cmp2, v_and, v_or, v_not, v_ife, v_tup, v_lst, v_dct0, v_dct, v_ix, v_slc, v_rev, v_bi, v_isi, v_mth, v_call, v_comp, vs_nil, vs_cons, vo_none, vo_some, vc_none, vc_some, vi_val, vi_rng1, vi_rng2, vt_tup, vt_sub, vts_nil, vts_cons, x_asg, x_par, x_aug, x_exp, x_ret, x_retN, x_ifs, x_for, x_whl, x_brk, x_cnt, x_pss, b_nil', b_cons', sq_nx, sq_rt, sq_bk, sq_ct, gv_0, gv_S, wt_0, wt_S, o_add, o_sub, o_mul, o_fdiv, o_mod, o_pow, o_addT, o_mulT, c_lt, c_le, c_gt, c_ge, wp_eq_int, wp_ne_int, n_bl, n_int, bi_int, bi_len, bi_tuple, bi_list, it_tup, r_tup, r_ref, ix_tup, wp_ix_ref, ixR_lst, ixR_dic, wp_set_ref, setR_dic, sl_tup, sl_ref, pk_int, r1_int, ck_bl, rk_rt, rk_nx, wp_mth, m_append, m_pop, Option.some.injEq, exists_eq_left', setAll, List.length_cons, List.length_nil, List.set_cons_succ, List.set_cons_zero, List.length_set, Nat.reduceAdd, Nat.reduceLT, if_true, Nat.zero_add]
  refine ⟨mulOk_r (by decide), by decide, ?_, mulOk_l (by decide), by decide, mulOk_r (by decide), by decide, by decide, decide_eq_true hn, ?_⟩
  · refine mulOk_r ⟨?_, ?_⟩
    · have := Int.emod_nonneg (m * 39373 + 17) (by decide : (2147483647 : Int) ≠ 0)
      omega
    · have := Int.emod_lt_of_pos (m * 39373 + 17) (by decide : (0 : Int) < 2147483647)
      omega
  · exact q _ (Int.emod_nonneg _ (by omega)) (Int.emod_lt_of_pos _ hn)
theorem draw_ok {k d h t : Nat} {n : Int} {L : LH} {Q : LV → LH → Prop} (D : Deck d h t L) (hn : 0 < n) (hn2 : divOk n = true) (ht : t < 274877906944) (q : ∀ (z : Int) (L' : LH), 0 ≤ z → z < n → Deck d h (t + 1) L' → Fr d h L L' → Q (.int z) L') : wp (run prog (k + 1) 7 [.ref d, .int n]) L Q := by
  obtain ⟨ne, xs, m, lx, e1, e2⟩ := D
  have l1 := lt_of e1
  have l2 := lt_of e2
  show wp (callFn (run prog k) f_l_draw [.ref d, .int n]) L Q
  rw [call_eq, wp_chk]
  refine ⟨rfl, ?_⟩
  show wp (M.bind (evB _ (f_l_draw.body.take 3 ++ drawTail) [some (.ref d), some (.int n), none, none]) retK) L Q
  rw [b_app]
  have hs1 : ∀ o, (L.set d o)[d]? = some o := fun o => List.getElem?_set_self l1
  have hs2 : ∀ o, (L.set d o)[h]? = L[h]? := fun o => List.getElem?_set_ne ne
  have ha1 : ∀ o x, (L.set d o ++ [x])[d]? = some o := fun o x => by rw [List.getElem?_append_left (by simpa using l1), hs1]
  have ha2 : ∀ o x, (L.set d o ++ [x])[h]? = L[h]? := fun o x => by rw [List.getElem?_append_left (by simpa using l2), hs2]
  have ha3 : ∀ o x, (L.set d o ++ [x])[L.length]? = some x := fun o x => by rw [List.getElem?_append_right (by simp)]; simp
  simp only [f_l_draw, List.take_succ_cons, List.take_zero, e1, hs1, hs2, at3_0, at3_1, at3_2, ixN3_2, setR_lst, wp_bind, wp_ret, wp_chk, wp_ofO, wp_look, wp_new, wp_setO, wp_br, v_var, v_lit, v_glo, v_bin, v_neg, v_cmp, v_cmp2, v_and, v_or, v_not, v_ife, v_tup, v_lst, v_dct0, v_dct, v_ix, v_slc, v_rev, v_bi, v_isi, v_mth, v_call, v_comp, vs_nil, vs_cons, vo_none, vo_some, vc_none, vc_some, vi_val, vi_rng1, vi_rng2, vt_tup, vt_sub, vts_nil, vts_cons, x_asg, x_par, x_aug, x_exp, x_ret, x_retN, x_ifs, x_for, x_whl, x_brk, x_cnt, x_pss, b_nil', b_cons', sq_nx, sq_rt, sq_bk, sq_ct, gv_0, gv_S, wt_0, wt_S, o_add, o_sub, o_mul, o_fdiv, o_mod, o_pow, o_addT, o_mulT, c_lt, c_le, c_gt, c_ge, wp_eq_int, wp_ne_int, n_bl, n_int, bi_int, bi_len, bi_tuple, bi_list, it_tup, r_tup, r_ref, ix_tup, wp_ix_ref, ixR_lst, ixR_dic, wp_set_ref, setR_dic, sl_tup, sl_ref, pk_int, r1_int, ck_bl, rk_rt, rk_nx, wp_mth, m_append, m_pop, Option.some.injEq, exists_eq_left', setAll, List.length_cons, List.length_nil, List.set_cons_succ, List.set_cons_zero, List.length_set, Nat.reduceAdd, Nat.reduceLT, if_true, Nat.zero_add]
  refine ⟨mulOk_l (by decide), by decide, wp_ne (eq_lst (ys := []) ((ha2 _ _).trans e2) (ha3 _ _)) rfl ?_⟩
  simp only [wp_bind, wp_ret, wp_chk, wp_ofO, wp_look, wp_new, wp_setO, wp_br, v_var, v_lit, v_glo, v_bin, v_neg, v_cmp, v_cmp2, v_and, v_or, v_not, v_ife, v_tup, v_lst, v_dct0, v_dct, v_ix, v_slc, v_rev, v_bi, v_isi, v_mth, v_call, v_comp, vs_nil, vs_cons, vo_none, vo_some, vc_none, vc_some, vi_val, vi_rng1, vi_rng2, vt_tup, vt_sub, vts_nil, vts_cons, x_asg, x_par, x_aug, x_exp, x_ret, x_retN, x_ifs, x_for, x_whl, x_brk, x_cnt, x_pss, b_nil', b_cons', sq_nx, sq_rt, sq_bk, sq_ct, gv_0, gv_S, wt_0, wt_S, o_add, o_sub, o_mul, o_fdiv, o_mod, o_pow, o_addT, o_mulT, c_lt, c_le, c_gt, c_ge, wp_eq_int, wp_ne_int, n_bl, n_int, bi_int, bi_len, bi_tuple, bi_list, it_tup, r_tup, r_ref, ix_tup, wp_ix_ref, ixR_lst, ixR_dic, wp_set_ref, setR_dic, sl_tup, sl_ref, pk_int, r1_int, ck_bl, rk_rt, rk_nx, wp_mth, m_append, m_pop, Option.some.injEq, exists_eq_left', setAll, List.length_cons, List.length_nil, List.set_cons_succ, List.set_cons_zero, List.length_set, Nat.reduceAdd, Nat.reduceLT, if_true, Nat.zero_add]
  constructor
  · intro c
    simp only [hs1, ha1, ha2, e2, at3_0, wp_bind, wp_ret, wp_chk, wp_ofO, wp_look, wp_new, wp_setO, wp_br, v_var, v_lit, v_glo, v_bin, v_neg, v_cmp, v_cmp2, v_and, v_or, v_not, v_ife, v_tup, v_lst, v_dct0, v_dct, v_ix, v_slc, v_rev, v_bi, v_isi, v_mth, v_call, v_comp, vs_nil, vs_cons, vo_none, vo_some, vc_none, vc_some, vi_val, vi_rng1, vi_rng2, vt_tup, vt_sub, vts_nil, vts_cons, x_asg, x_par, x_aug, x_exp, x_ret, x_retN, x_ifs, x_for, x_whl, x_brk, x_cnt, x_pss, b_nil', b_cons', sq_nx, sq_rt, sq_bk, sq_ct, gv_0, gv_S, wt_0, wt_S, o_add, o_sub, o_mul, o_fdiv, o_mod, o_pow, o_addT, o_mulT, c_lt, c_le, c_gt, c_ge, wp_eq_int, wp_ne_int, n_bl, n_int, bi_int, bi_len, bi_tuple, bi_list, it_tup, r_tup, r_ref, ix_tup, wp_ix_ref, ixR_lst, ixR_dic, wp_set_ref, setR_dic, sl_tup, sl_ref, pk_int, r1_int, ck_bl, rk_rt, rk_nx, wp_mth, m_append, m_pop, Option.some.injEq, exists_eq_left', setAll, List.length_cons, List.length_nil, List.set_cons_succ, List.set_cons_zero, List.length_set, Nat.reduceAdd, Nat.reduceLT, if_true, Nat.zero_add]
    have c : xs ≠ [] := by simpa using c
    obtain ⟨ys, z, rfl⟩ : ∃ ys z, xs = ys ++ [z] := ⟨xs.dropLast, xs.getLast c, (List.dropLast_concat_getLast c).symm⟩
    have e3 : iv (ys ++ [z]) = iv ys ++ [.int z] := by simp [iv]
    have ly : ys.length ≤ 62 := by rw [List.length_append] at lx; simpa using lx
    refine ⟨(), by simp only [lstAt, ha2, e2], .int z, by rw [e3]; simp, by decide, ?_⟩
    have hq1 : ∀ o x p, ((L.set d o ++ [x]).set h p)[d]? = some o := fun o x p => by rw [List.getElem?_set_ne (Ne.symm ne), ha1]
    have hq2 : ∀ o x p, ((L.set d o ++ [x]).set h p)[h]? = some p := fun o x p => List.getElem?_set_self (by simp; omega)
    have hq3 : ∀ o x p r, (((L.set d o ++ [x]).set h p).set h r)[d]? = some o := fun o x p r => by rw [List.getElem?_set_ne (Ne.symm ne), hq1]
    have hq4 : ∀ o x p r, (((L.set d o ++ [x]).set h p).set h r)[h]? = some r := fun o x p r => List.getElem?_set_self (by simp; omega)
    have e4 : (iv (ys ++ [z])).dropLast = iv ys := by rw [e3, List.dropLast_concat]
    simp only [e4, wp_bind, wp_ret, wp_chk, wp_ofO, wp_look, wp_new, wp_setO, wp_br, v_var, v_lit, v_glo, v_bin, v_neg, v_cmp, v_cmp2, v_and, v_or, v_not, v_ife, v_tup, v_lst, v_dct0, v_dct, v_ix, v_slc, v_rev, v_bi, v_isi, v_mth, v_call, v_comp, vs_nil, vs_cons, vo_none, vo_some, vc_none, vc_some, vi_val, vi_rng1, vi_rng2, vt_tup, vt_sub, vts_nil, vts_cons, x_asg, x_par, x_aug, x_exp, x_ret, x_retN, x_ifs, x_for, x_whl, x_brk, x_cnt, x_pss, b_nil', b_cons', sq_nx, sq_rt, sq_bk, sq_ct, gv_0, gv_S, wt_0, wt_S, o_add, o_sub, o_mul, o_fdiv, o_mod, o_pow, o_addT, o_mulT, c_lt, c_le, c_gt, c_ge, wp_eq_int, wp_ne_int, n_bl, n_int, bi_int, bi_len, bi_tuple, bi_list, it_tup, r_tup, r_ref, ix_tup, wp_ix_ref, ixR_lst, ixR_dic, wp_set_ref, setR_dic, sl_tup, sl_ref, pk_int, r1_int, ck_bl, rk_rt, rk_nx, wp_mth, m_append, m_pop, Option.some.injEq, exists_eq_left', setAll, List.length_cons, List.length_nil, List.set_cons_succ, List.set_cons_zero, List.length_set, Nat.reduceAdd, Nat.reduceLT, if_true, Nat.zero_add]
    constructor
    · intro c
      simp only [hq1, hq2, at3_0, wp_bind, wp_ret, wp_chk, wp_ofO, wp_look, wp_new, wp_setO, wp_br, v_var, v_lit, v_glo, v_bin, v_neg, v_cmp, v_cmp2, v_and, v_or, v_not, v_ife, v_tup, v_lst, v_dct0, v_dct, v_ix, v_slc, v_rev, v_bi, v_isi, v_mth, v_call, v_comp, vs_nil, vs_cons, vo_none, vo_some, vc_none, vc_some, vi_val, vi_rng1, vi_rng2, vt_tup, vt_sub, vts_nil, vts_cons, x_asg, x_par, x_aug, x_exp, x_ret, x_retN, x_ifs, x_for, x_whl, x_brk, x_cnt, x_pss, b_nil', b_cons', sq_nx, sq_rt, sq_bk, sq_ct, gv_0, gv_S, wt_0, wt_S, o_add, o_sub, o_mul, o_fdiv, o_mod, o_pow, o_addT, o_mulT, c_lt, c_le, c_gt, c_ge, wp_eq_int, wp_ne_int, n_bl, n_int, bi_int, bi_len, bi_tuple, bi_list, it_tup, r_tup, r_ref, ix_tup, wp_ix_ref, ixR_lst, ixR_dic, wp_set_ref, setR_dic, sl_tup, sl_ref, pk_int, r1_int, ck_bl, rk_rt, rk_nx, wp_mth, m_append, m_pop, Option.some.injEq, exists_eq_left', setAll, List.length_cons, List.length_nil, List.set_cons_succ, List.set_cons_zero, List.length_set, Nat.reduceAdd, Nat.reduceLT, if_true, Nat.zero_add]
      refine ⟨(), by simp only [lstAt, hq2], hn2, ?_, decide_eq_true hn, q _ _ (Int.emod_nonneg _ (by omega)) (Int.emod_lt_of_pos _ hn) ⟨ne, ys ++ [z / n], m, ?_, ?_, ?_⟩ ?_⟩
      · rw [iv_len]
        exact decide_eq_true (Nat.lt_of_le_of_lt ly (by decide))
      · rw [List.length_append]
        simpa using ly
      · rw [hq3]
        rfl
      · rw [hq4]
        simp [iv]
      · exact ((Fr.setD.trans (Fr.grow ⟨_, rfl⟩)).trans Fr.setH).trans Fr.setH
    · intro c
      refine ⟨by decide, draw_tail (t := (t : Int) + 1) hn ⟨by omega, by omega⟩ (hq1 _ _ _) fun z' z0 z1 => q z' _ z0 z1 ⟨ne, ys, m, by omega, ?_, ?_⟩ ?_⟩
      · rw [hq1]
        rfl
      · rw [hq2]
      · exact (Fr.setD.trans (Fr.grow ⟨_, rfl⟩)).trans Fr.setH
  · intro c
    refine draw_tail (t := (t : Int) + 1) hn ⟨by omega, by omega⟩ (ha1 _ _) fun z z0 z1 => q z _ z0 z1 ⟨ne, xs, m, lx, ?_, ?_⟩ ?_
    · rw [ha1]
      rfl
    · rw [ha2, e2]
    · exact Fr.setD.trans (Fr.grow ⟨_, rfl⟩)
end K35


namespace K35
open PySem Mv
def okV (L : LH) (v : LV) : Prop := ∃ ts, tyOf L v = some ts
def isInt : LV → Bool
  | .int _ => true
  | _ => false
def isBool : LV → Bool
  | .bl _ => true
  | _ => false
def isStr : LV → Bool
  | .str _ => true
  | _ => false
def isTup : LV → Bool
  | .tup _ => true
  | _ => false
theorem ty_int {L : LH} {v : LV} {ts : List Ty} (h : tyOf L v = some ts) : decide (Ty.int ∈ ts) = (isInt v || isBool v) ∧ decide (Ty.bool ∈ ts) = isBool v ∧ decide (Ty.str ∈ ts) = isStr v ∧ decide (Ty.tuple ∈ ts) = isTup v := by
  cases v with
  | ref n =>
    unfold tyOf at h
    dsimp only at h
    split at h
    · cases h
      exact ⟨rfl, rfl, rfl, rfl⟩
    · cases h
      exact ⟨rfl, rfl, rfl, rfl⟩
    · cases h
  | _ =>
    cases h
    exact ⟨rfl, rfl, rfl, rfl⟩
theorem isi_i {L : LH} {v : LV} {Q : LV → LH → Prop} (h : okV L v) (q : Q (.bl (isInt v || isBool v)) L) : wp (isiV v .int) L Q := by
  obtain ⟨ts, e⟩ := h
  exact wp_isi e (by rw [(ty_int e).1]; exact q)
theorem isi_b {L : LH} {v : LV} {Q : LV → LH → Prop} (h : okV L v) (q : Q (.bl (isBool v)) L) : wp (isiV v .bool) L Q := by
  obtain ⟨ts, e⟩ := h
  exact wp_isi e (by rw [(ty_int e).2.1]; exact q)
theorem isi_s {L : LH} {v : LV} {Q : LV → LH → Prop} (h : okV L v) (q : Q (.bl (isStr v)) L) : wp (isiV v .str) L Q := by
  obtain ⟨ts, e⟩ := h
  exact wp_isi e (by rw [(ty_int e).2.2.1]; exact q)
theorem isi_t {L : LH} {v : LV} {Q : LV → LH → Prop} (h : okV L v) (q : Q (.bl (isTup v)) L) : wp (isiV v .tuple) L Q := by
  obtain ⟨ts, e⟩ := h
  exact wp_isi e (by rw [(ty_int e).2.2.2]; exact q)
theorem is_integer_ok {k : Nat} {v : LV} {L : LH} {Q : LV → LH → Prop} (h : okV L v) (q : Q (.bl (isInt v)) L) : wp (run prog (k + 1) 0 [v]) L Q := by
  show wp (callFn (run prog k) f_is_integer [v]) L Q
  rw [call_eq, wp_chk]
  refine ⟨rfl, ?_⟩
  show wp (M.bind (evB _ _ [some v]) retK) L Q
  simp only [f_is_integer, wp_bind, wp_ret, wp_chk, wp_ofO, wp_look, wp_new, wp_setO, wp_br, v_var, v_lit, v_glo, v_bin, v_neg, v_cmp, v_cmp2, v_and, v_or, v_not, v_ife, v_tup, v_lst, v_dct0, v_dct, v_ix, v_slc, v_rev, v_bi, v_isi, v_mth, v_call, v_comp, vs_nil, vs_cons, vo_none, vo_some, vc_none, vc_some, vi_val, vi_rng1, vi_rng2, vt_tup, vt_sub, vts_nil, vts_cons, x_asg, x_par, x_aug, x_exp, x_ret, x_retN, x_ifs, x_for, x_whl, x_brk, x_cnt, x_pss, b_nil', b_cons', sq_nx, sq_rt, sq_bk, sq_ct, gv_0, gv_S, wt_0, wt_S, o_add, o_sub, o_mul, o_fdiv, o_mod, o_pow, o_addT, o_mulT, c_lt, c_le, c_gt, c_ge, wp_eq_int, wp_ne_int, n_bl, n_int, bi_int, bi_len, bi_tuple, bi_list, it_tup, r_tup, r_ref, ix_tup, wp_ix_ref, ixR_lst, ixR_dic, wp_set_ref, setR_dic, sl_tup, sl_ref, pk_int, r1_int, ck_bl, rk_rt, rk_nx, wp_mth, m_append, m_pop, Option.some.injEq, exists_eq_left', setAll, List.length_cons, List.length_nil, List.set_cons_succ, List.set_cons_zero, List.length_set, Nat.reduceAdd, Nat.reduceLT, if_true, Nat.zero_add, reduceCtorEq, false_implies, true_implies, eq_self, and_true, true_and, Bool.true_eq_false, Bool.false_eq_true]
  refine isi_i h ?_
  cases v with
  | int i => simp only [isInt, isBool, Bool.true_or, wp_bind, wp_ret, wp_chk, wp_ofO, wp_look, wp_new, wp_setO, wp_br, v_var, v_lit, v_glo, v_bin, v_neg, v_cmp, v_cmp2, v_and, v_or, v_not, v_ife, v_tup, v_lst, v_dct0, v_dct, v_ix, v_slc, v_rev, v_bi, v_isi, v_mth, v_call, v_comp, vs_nil, vs_cons, vo_none, vo_some, vc_none, vc_some, vi_val, vi_rng1, vi_rng2, vt_tup, vt_sub, vts_nil, vts_cons, x_asg, x_par, x_aug, x_exp, x_ret, x_retN, x_ifs, x_for, x_whl, x_brk, x_cnt, x_pss, b_nil', b_cons', sq_nx, sq_rt, sq_bk, sq_ct, gv_0, gv_S, wt_0, wt_S, o_add, o_sub, o_mul, o_fdiv, o_mod, o_pow, o_addT, o_mulT, c_lt, c_le, c_gt, c_ge, wp_eq_int, wp_ne_int, n_bl, n_int, bi_int, bi_len, bi_tuple, bi_list, it_tup, r_tup, r_ref, ix_tup, wp_ix_ref, ixR_lst, ixR_dic, wp_set_ref, setR_dic, sl_tup, sl_ref, pk_int, r1_int, ck_bl, rk_rt, rk_nx, wp_mth, m_append, m_pop, Option.some.injEq, exists_eq_left', setAll, List.length_cons, List.length_nil, List.set_cons_succ, List.set_cons_zero, List.length_set, Nat.reduceAdd, Nat.reduceLT, if_true, Nat.zero_add, reduceCtorEq, false_implies, true_implies, eq_self, and_true, true_and, Bool.true_eq_false, Bool.false_eq_true]; exact isi_b h (by simp only [isBool, wp_bind, wp_ret, wp_chk, wp_ofO, wp_look, wp_new, wp_setO, wp_br, v_var, v_lit, v_glo, v_bin, v_neg, v_cmp, v_cmp2, v_and, v_or, v_not, v_ife, v_tup, v_lst, v_dct0, v_dct, v_ix, v_slc, v_rev, v_bi, v_isi, v_mth, v_call, v_comp, vs_nil, vs_cons, vo_none, vo_some, vc_none, vc_some, vi_val, vi_rng1, vi_rng2, vt_tup, vt_sub, vts_nil, vts_cons, x_asg, x_par, x_aug, x_exp, x_ret, x_retN, x_ifs, x_for, x_whl, x_brk, x_cnt, x_pss, b_nil', b_cons', sq_nx, sq_rt, sq_bk, sq_ct, gv_0, gv_S, wt_0, wt_S, o_add, o_sub, o_mul, o_fdiv, o_mod, o_pow, o_addT, o_mulT, c_lt, c_le, c_gt, c_ge, wp_eq_int, wp_ne_int, n_bl, n_int, bi_int, bi_len, bi_tuple, bi_list, it_tup, r_tup, r_ref, ix_tup, wp_ix_ref, ixR_lst, ixR_dic, wp_set_ref, setR_dic, sl_tup, sl_ref, pk_int, r1_int, ck_bl, rk_rt, rk_nx, wp_mth, m_append, m_pop, Option.some.injEq, exists_eq_left', setAll, List.length_cons, List.length_nil, List.set_cons_succ, List.set_cons_zero, List.length_set, Nat.reduceAdd, Nat.reduceLT, if_true, Nat.zero_add, reduceCtorEq, false_implies, true_implies, eq_self, and_true, true_and, Bool.true_eq_false, Bool.false_eq_true]; exact q)
  | bl b => simp only [isInt, isBool, Bool.or_true, wp_bind, wp_ret, wp_chk, wp_ofO, wp_look, wp_new, wp_setO, wp_br, v_var, v_lit, v_glo, v_bin, v_neg, v_cmp, v_cmp2, v_and, v_or, v_not, v_ife, v_tup, v_lst, v_dct0, v_dct, v_ix, v_slc, v_rev, v_bi, v_isi, v_mth, v_call, v_comp, vs_nil, vs_cons, vo_none, vo_some, vc_none, vc_some, vi_val, vi_rng1, vi_rng2, vt_tup, vt_sub, vts_nil, vts_cons, x_asg, x_par, x_aug, x_exp, x_ret, x_retN, x_ifs, x_for, x_whl, x_brk, x_cnt, x_pss, b_nil', b_cons', sq_nx, sq_rt, sq_bk, sq_ct, gv_0, gv_S, wt_0, wt_S, o_add, o_sub, o_mul, o_fdiv, o_mod, o_pow, o_addT, o_mulT, c_lt, c_le, c_gt, c_ge, wp_eq_int, wp_ne_int, n_bl, n_int, bi_int, bi_len, bi_tuple, bi_list, it_tup, r_tup, r_ref, ix_tup, wp_ix_ref, ixR_lst, ixR_dic, wp_set_ref, setR_dic, sl_tup, sl_ref, pk_int, r1_int, ck_bl, rk_rt, rk_nx, wp_mth, m_append, m_pop, Option.some.injEq, exists_eq_left', setAll, List.length_cons, List.length_nil, List.set_cons_succ, List.set_cons_zero, List.length_set, Nat.reduceAdd, Nat.reduceLT, if_true, Nat.zero_add, reduceCtorEq, false_implies, true_implies, eq_self, and_true, true_and, Bool.true_eq_false, Bool.false_eq_true]; exact isi_b h (by simp only [isBool, wp_bind, wp_ret, wp_chk, wp_ofO, wp_look, wp_new, wp_setO, wp_br, v_var, v_lit, v_glo, v_bin, v_neg, v_cmp, v_cmp2, v_and, v_or, v_not, v_ife, v_tup, v_lst, v_dct0, v_dct, v_ix, v_slc, v_rev, v_bi, v_isi, v_mth, v_call, v_comp, vs_nil, vs_cons, vo_none, vo_some, vc_none, vc_some, vi_val, vi_rng1, vi_rng2, vt_tup, vt_sub, vts_nil, vts_cons, x_asg, x_par, x_aug, x_exp, x_ret, x_retN, x_ifs, x_for, x_whl, x_brk, x_cnt, x_pss, b_nil', b_cons', sq_nx, sq_rt, sq_bk, sq_ct, gv_0, gv_S, wt_0, wt_S, o_add, o_sub, o_mul, o_fdiv, o_mod, o_pow, o_addT, o_mulT, c_lt, c_le, c_gt, c_ge, wp_eq_int, wp_ne_int, n_bl, n_int, bi_int, bi_len, bi_tuple, bi_list, it_tup, r_tup, r_ref, ix_tup, wp_ix_ref, ixR_lst, ixR_dic, wp_set_ref, setR_dic, sl_tup, sl_ref, pk_int, r1_int, ck_bl, rk_rt, rk_nx, wp_mth, m_append, m_pop, Option.some.injEq, exists_eq_left', setAll, List.length_cons, List.length_nil, List.set_cons_succ, List.set_cons_zero, List.length_set, Nat.reduceAdd, Nat.reduceLT, if_true, Nat.zero_add, reduceCtorEq, false_implies, true_implies, eq_self, and_true, true_and, Bool.true_eq_false, Bool.false_eq_true]; exact q)
  | _ => simpa only [isInt, isBool, Bool.or_false, wp_bind, wp_ret, wp_chk, wp_ofO, wp_look, wp_new, wp_setO, wp_br, v_var, v_lit, v_glo, v_bin, v_neg, v_cmp, v_cmp2, v_and, v_or, v_not, v_ife, v_tup, v_lst, v_dct0, v_dct, v_ix, v_slc, v_rev, v_bi, v_isi, v_mth, v_call, v_comp, vs_nil, vs_cons, vo_none, vo_some, vc_none, vc_some, vi_val, vi_rng1, vi_rng2, vt_tup, vt_sub, vts_nil, vts_cons, x_asg, x_par, x_aug, x_exp, x_ret, x_retN, x_ifs, x_for, x_whl, x_brk, x_cnt, x_pss, b_nil', b_cons', sq_nx, sq_rt, sq_bk, sq_ct, gv_0, gv_S, wt_0, wt_S, o_add, o_sub, o_mul, o_fdiv, o_mod, o_pow, o_addT, o_mulT, c_lt, c_le, c_gt, c_ge, wp_eq_int, wp_ne_int, n_bl, n_int, bi_int, bi_len, bi_tuple, bi_list, it_tup, r_tup, r_ref, ix_tup, wp_ix_ref, ixR_lst, ixR_dic, wp_set_ref, setR_dic, sl_tup, sl_ref, pk_int, r1_int, ck_bl, rk_rt, rk_nx, wp_mth, m_append, m_pop, Option.some.injEq, exists_eq_left', setAll, List.length_cons, List.length_nil, List.set_cons_succ, List.set_cons_zero, List.length_set, Nat.reduceAdd, Nat.reduceLT, if_true, Nat.zero_add, reduceCtorEq, false_implies, true_implies, eq_self, and_true, true_and, Bool.true_eq_false, Bool.false_eq_true] using q
theorem l_is_integer_ok {k : Nat} {v : LV} {L : LH} {Q : LV → LH → Prop} (h : okV L v) (q : Q (.bl (isInt v)) L) : wp (run prog (k + 1) 11 [v]) L Q := by
  show wp (callFn (run prog k) f_l_is_integer [v]) L Q
  rw [call_eq, wp_chk]
  refine ⟨rfl, ?_⟩
  show wp (M.bind (evB _ _ [some v]) retK) L Q
  simp only [f_l_is_integer, wp_bind, wp_ret, wp_chk, wp_ofO, wp_look, wp_new, wp_setO, wp_br, v_var, v_lit, v_glo, v_bin, v_neg, v_cmp, v_cmp2, v_and, v_or, v_not, v_ife, v_tup, v_lst, v_dct0, v_dct, v_ix, v_slc, v_rev, v_bi, v_isi, v_mth, v_call, v_comp, vs_nil, vs_cons, vo_none, vo_some, vc_none, vc_some, vi_val, vi_rng1, vi_rng2, vt_tup, vt_sub, vts_nil, vts_cons, x_asg, x_par, x_aug, x_exp, x_ret, x_retN, x_ifs, x_for, x_whl, x_brk, x_cnt, x_pss, b_nil', b_cons', sq_nx, sq_rt, sq_bk, sq_ct, gv_0, gv_S, wt_0, wt_S, o_add, o_sub, o_mul, o_fdiv, o_mod, o_pow, o_addT, o_mulT, c_lt, c_le, c_gt, c_ge, wp_eq_int, wp_ne_int, n_bl, n_int, bi_int, bi_len, bi_tuple, bi_list, it_tup, r_tup, r_ref, ix_tup, wp_ix_ref, ixR_lst, ixR_dic, wp_set_ref, setR_dic, sl_tup, sl_ref, pk_int, r1_int, ck_bl, rk_rt, rk_nx, wp_mth, m_append, m_pop, Option.some.injEq, exists_eq_left', setAll, List.length_cons, List.length_nil, List.set_cons_succ, List.set_cons_zero, List.length_set, Nat.reduceAdd, Nat.reduceLT, if_true, Nat.zero_add, reduceCtorEq, false_implies, true_implies, eq_self, and_true, true_and, Bool.true_eq_false, Bool.false_eq_true]
  refine isi_i h ?_
  cases v with
  | int i => simp only [isInt, isBool, Bool.true_or, wp_bind, wp_ret, wp_chk, wp_ofO, wp_look, wp_new, wp_setO, wp_br, v_var, v_lit, v_glo, v_bin, v_neg, v_cmp, v_cmp2, v_and, v_or, v_not, v_ife, v_tup, v_lst, v_dct0, v_dct, v_ix, v_slc, v_rev, v_bi, v_isi, v_mth, v_call, v_comp, vs_nil, vs_cons, vo_none, vo_some, vc_none, vc_some, vi_val, vi_rng1, vi_rng2, vt_tup, vt_sub, vts_nil, vts_cons, x_asg, x_par, x_aug, x_exp, x_ret, x_retN, x_ifs, x_for, x_whl, x_brk, x_cnt, x_pss, b_nil', b_cons', sq_nx, sq_rt, sq_bk, sq_ct, gv_0, gv_S, wt_0, wt_S, o_add, o_sub, o_mul, o_fdiv, o_mod, o_pow, o_addT, o_mulT, c_lt, c_le, c_gt, c_ge, wp_eq_int, wp_ne_int, n_bl, n_int, bi_int, bi_len, bi_tuple, bi_list, it_tup, r_tup, r_ref, ix_tup, wp_ix_ref, ixR_lst, ixR_dic, wp_set_ref, setR_dic, sl_tup, sl_ref, pk_int, r1_int, ck_bl, rk_rt, rk_nx, wp_mth, m_append, m_pop, Option.some.injEq, exists_eq_left', setAll, List.length_cons, List.length_nil, List.set_cons_succ, List.set_cons_zero, List.length_set, Nat.reduceAdd, Nat.reduceLT, if_true, Nat.zero_add, reduceCtorEq, false_implies, true_implies, eq_self, and_true, true_and, Bool.true_eq_false, Bool.false_eq_true]; exact isi_b h (by simp only [isBool, wp_bind, wp_ret, wp_chk, wp_ofO, wp_look, wp_new, wp_setO, wp_br, v_var, v_lit, v_glo, v_bin, v_neg, v_cmp, v_cmp2, v_and, v_or, v_not, v_ife, v_tup, v_lst, v_dct0, v_dct, v_ix, v_slc, v_rev, v_bi, v_isi, v_mth, v_call, v_comp, vs_nil, vs_cons, vo_none, vo_some, vc_none, vc_some, vi_val, vi_rng1, vi_rng2, vt_tup, vt_sub, vts_nil, vts_cons, x_asg, x_par, x_aug, x_exp, x_ret, x_retN, x_ifs, x_for, x_whl, x_brk, x_cnt, x_pss, b_nil', b_cons', sq_nx, sq_rt, sq_bk, sq_ct, gv_0, gv_S, wt_0, wt_S, o_add, o_sub, o_mul, o_fdiv, o_mod, o_pow, o_addT, o_mulT, c_lt, c_le, c_gt, c_ge, wp_eq_int, wp_ne_int, n_bl, n_int, bi_int, bi_len, bi_tuple, bi_list, it_tup, r_tup, r_ref, ix_tup, wp_ix_ref, ixR_lst, ixR_dic, wp_set_ref, setR_dic, sl_tup, sl_ref, pk_int, r1_int, ck_bl, rk_rt, rk_nx, wp_mth, m_append, m_pop, Option.some.injEq, exists_eq_left', setAll, List.length_cons, List.length_nil, List.set_cons_succ, List.set_cons_zero, List.length_set, Nat.reduceAdd, Nat.reduceLT, if_true, Nat.zero_add, reduceCtorEq, false_implies, true_implies, eq_self, and_true, true_and, Bool.true_eq_false, Bool.false_eq_true]; exact q)
  | bl b => simp only [isInt, isBool, Bool.or_true, wp_bind, wp_ret, wp_chk, wp_ofO, wp_look, wp_new, wp_setO, wp_br, v_var, v_lit, v_glo, v_bin, v_neg, v_cmp, v_cmp2, v_and, v_or, v_not, v_ife, v_tup, v_lst, v_dct0, v_dct, v_ix, v_slc, v_rev, v_bi, v_isi, v_mth, v_call, v_comp, vs_nil, vs_cons, vo_none, vo_some, vc_none, vc_some, vi_val, vi_rng1, vi_rng2, vt_tup, vt_sub, vts_nil, vts_cons, x_asg, x_par, x_aug, x_exp, x_ret, x_retN, x_ifs, x_for, x_whl, x_brk, x_cnt, x_pss, b_nil', b_cons', sq_nx, sq_rt, sq_bk, sq_ct, gv_0, gv_S, wt_0, wt_S, o_add, o_sub, o_mul, o_fdiv, o_mod, o_pow, o_addT, o_mulT, c_lt, c_le, c_gt, c_ge, wp_eq_int, wp_ne_int, n_bl, n_int, bi_int, bi_len, bi_tuple, bi_list, it_tup, r_tup, r_ref, ix_tup, wp_ix_ref, ixR_lst, ixR_dic, wp_set_ref, setR_dic, sl_tup, sl_ref, pk_int, r1_int, ck_bl, rk_rt, rk_nx, wp_mth, m_append, m_pop, Option.some.injEq, exists_eq_left', setAll, List.length_cons, List.length_nil, List.set_cons_succ, List.set_cons_zero, List.length_set, Nat.reduceAdd, Nat.reduceLT, if_true, Nat.zero_add, reduceCtorEq, false_implies, true_implies, eq_self, and_true, true_and, Bool.true_eq_false, Bool.false_eq_true]; exact isi_b h (by simp only [isBool, wp_bind, wp_ret, wp_chk, wp_ofO, wp_look, wp_new, wp_setO, wp_br, v_var, v_lit, v_glo, v_bin, v_neg, v_cmp, v_cmp2, v_and, v_or, v_not, v_ife, v_tup, v_lst, v_dct0, v_dct, v_ix, v_slc, v_rev, v_bi, v_isi, v_mth, v_call, v_comp, vs_nil, vs_cons, vo_none, vo_some, vc_none, vc_some, vi_val, vi_rng1, vi_rng2, vt_tup, vt_sub, vts_nil, vts_cons, x_asg, x_par, x_aug, x_exp, x_ret, x_retN, x_ifs, x_for, x_whl, x_brk, x_cnt, x_pss, b_nil', b_cons', sq_nx, sq_rt, sq_bk, sq_ct, gv_0, gv_S, wt_0, wt_S, o_add, o_sub, o_mul, o_fdiv, o_mod, o_pow, o_addT, o_mulT, c_lt, c_le, c_gt, c_ge, wp_eq_int, wp_ne_int, n_bl, n_int, bi_int, bi_len, bi_tuple, bi_list, it_tup, r_tup, r_ref, ix_tup, wp_ix_ref, ixR_lst, ixR_dic, wp_set_ref, setR_dic, sl_tup, sl_ref, pk_int, r1_int, ck_bl, rk_rt, rk_nx, wp_mth, m_append, m_pop, Option.some.injEq, exists_eq_left', setAll, List.length_cons, List.length_nil, List.set_cons_succ, List.set_cons_zero, List.length_set, Nat.reduceAdd, Nat.reduceLT, if_true, Nat.zero_add, reduceCtorEq, false_implies, true_implies, eq_self, and_true, true_and, Bool.true_eq_false, Bool.false_eq_true]; exact q)
  | _ => simpa only [isInt, isBool, Bool.or_false, wp_bind, wp_ret, wp_chk, wp_ofO, wp_look, wp_new, wp_setO, wp_br, v_var, v_lit, v_glo, v_bin, v_neg, v_cmp, v_cmp2, v_and, v_or, v_not, v_ife, v_tup, v_lst, v_dct0, v_dct, v_ix, v_slc, v_rev, v_bi, v_isi, v_mth, v_call, v_comp, vs_nil, vs_cons, vo_none, vo_some, vc_none, vc_some, vi_val, vi_rng1, vi_rng2, vt_tup, vt_sub, vts_nil, vts_cons, x_asg, x_par, x_aug, x_exp, x_ret, x_retN, x_ifs, x_for, x_whl, x_brk, x_cnt, x_pss, b_nil', b_cons', sq_nx, sq_rt, sq_bk, sq_ct, gv_0, gv_S, wt_0, wt_S, o_add, o_sub, o_mul, o_fdiv, o_mod, o_pow, o_addT, o_mulT, c_lt, c_le, c_gt, c_ge, wp_eq_int, wp_ne_int, n_bl, n_int, bi_int, bi_len, bi_tuple, bi_list, it_tup, r_tup, r_ref, ix_tup, wp_ix_ref, ixR_lst, ixR_dic, wp_set_ref, setR_dic, sl_tup, sl_ref, pk_int, r1_int, ck_bl, rk_rt, rk_nx, wp_mth, m_append, m_pop, Option.some.injEq, exists_eq_left', setAll, List.length_cons, List.length_nil, List.set_cons_succ, List.set_cons_zero, List.length_set, Nat.reduceAdd, Nat.reduceLT, if_true, Nat.zero_add, reduceCtorEq, false_implies, true_implies, eq_self, and_true, true_and, Bool.true_eq_false, Bool.false_eq_true] using q
/-- an int from least to greatest -/
def inB (a b : Int) : LV → Bool
  | .int i => decide (a ≤ i) && decide (i ≤ b)
  | _ => false
theorem is_between_ok {k : Nat} {v : LV} {a b : Int} {L : LH} {Q : LV → LH → Prop} (h : okV L v) (q : Q (.bl (inB a b v)) L) : wp (run prog (k + 2) 1 [v, .int a, .int b]) L Q := by
  show wp (callFn (run prog (k + 1)) f_is_between [v, .int a, .int b]) L Q
  rw [call_eq, wp_chk]
  refine ⟨rfl, ?_⟩
  show wp (M.bind (evB _ _ [some v, some (.int a), some (.int b)]) retK) L Q
  simp only [f_is_between, pm0, wp_bind, wp_ret, wp_chk, wp_ofO, wp_look, wp_new, wp_setO, wp_br, v_var, v_lit, v_glo, v_bin, v_neg, v_cmp, v_cmp2, v_and, v_or, v_not, v_ife, v_tup, v_lst, v_dct0, v_dct, v_ix, v_slc, v_rev, v_bi, v_isi, v_mth, v_call, v_comp, vs_nil, vs_cons, vo_none, vo_some, vc_none, vc_some, vi_val, vi_rng1, vi_rng2, vt_tup, vt_sub, vts_nil, vts_cons, x_asg, x_par, x_aug, x_exp, x_ret, x_retN, x_ifs, x_for, x_whl, x_brk, x_cnt, x_pss, b_nil', b_cons', sq_nx, sq_rt, sq_bk, sq_ct, gv_0, gv_S, wt_0, wt_S, o_add, o_sub, o_mul, o_fdiv, o_mod, o_pow, o_addT, o_mulT, c_lt, c_le, c_gt, c_ge, wp_eq_int, wp_ne_int, n_bl, n_int, bi_int, bi_len, bi_tuple, bi_list, it_tup, r_tup, r_ref, ix_tup, wp_ix_ref, ixR_lst, ixR_dic, wp_set_ref, setR_dic, sl_tup, sl_ref, pk_int, r1_int, ck_bl, rk_rt, rk_nx, wp_mth, m_append, m_pop, Option.some.injEq, exists_eq_left', setAll, List.length_cons, List.length_nil, List.set_cons_succ, List.set_cons_zero, List.length_set, Nat.reduceAdd, Nat.reduceLT, if_true, Nat.zero_add, reduceCtorEq, false_implies, true_implies, eq_self, and_true, true_and, Bool.true_eq_false, Bool.false_eq_true]
  refine is_integer_ok h ?_
  cases v with
  | int i =>
    simp only [isInt, wp_bind, wp_ret, wp_chk, wp_ofO, wp_look, wp_new, wp_setO, wp_br, v_var, v_lit, v_glo, v_bin, v_neg, v_cmp, v_cmp2, v_and, v_or, v_not, v_ife, v_tup, v_lst, v_dct0, v_dct, v_ix, v_slc, v_rev, v_bi, v_isi, v_mth, v_call, v_comp, vs_nil, vs_cons, vo_none, vo_some, vc_none, vc_some, vi_val, vi_rng1, vi_rng2, vt_tup, vt_sub, vts_nil, vts_cons, x_asg, x_par, x_aug, x_exp, x_ret, x_retN, x_ifs, x_for, x_whl, x_brk, x_cnt, x_pss, b_nil', b_cons', sq_nx, sq_rt, sq_bk, sq_ct, gv_0, gv_S, wt_0, wt_S, o_add, o_sub, o_mul, o_fdiv, o_mod, o_pow, o_addT, o_mulT, c_lt, c_le, c_gt, c_ge, wp_eq_int, wp_ne_int, n_bl, n_int, bi_int, bi_len, bi_tuple, bi_list, it_tup, r_tup, r_ref, ix_tup, wp_ix_ref, ixR_lst, ixR_dic, wp_set_ref, setR_dic, sl_tup, sl_ref, pk_int, r1_int, ck_bl, rk_rt, rk_nx, wp_mth, m_append, m_pop, Option.some.injEq, exists_eq_left', setAll, List.length_cons, List.length_nil, List.set_cons_succ, List.set_cons_zero, List.length_set, Nat.reduceAdd, Nat.reduceLT, if_true, Nat.zero_add, reduceCtorEq, false_implies, true_implies, eq_self, and_true, true_and, Bool.true_eq_false, Bool.false_eq_true]
    have q : Q (.bl (decide (a ≤ i) && decide (i ≤ b))) L := q
    constructor
    · intro c
      rw [c, Bool.true_and] at q
      exact q
    · intro c
      rw [c, Bool.false_and] at q
      exact q
  | _ => simpa only [isInt, inB, wp_bind, wp_ret, wp_chk, wp_ofO, wp_look, wp_new, wp_setO, wp_br, v_var, v_lit, v_glo, v_bin, v_neg, v_cmp, v_cmp2, v_and, v_or, v_not, v_ife, v_tup, v_lst, v_dct0, v_dct, v_ix, v_slc, v_rev, v_bi, v_isi, v_mth, v_call, v_comp, vs_nil, vs_cons, vo_none, vo_some, vc_none, vc_some, vi_val, vi_rng1, vi_rng2, vt_tup, vt_sub, vts_nil, vts_cons, x_asg, x_par, x_aug, x_exp, x_ret, x_retN, x_ifs, x_for, x_whl, x_brk, x_cnt, x_pss, b_nil', b_cons', sq_nx, sq_rt, sq_bk, sq_ct, gv_0, gv_S, wt_0, wt_S, o_add, o_sub, o_mul, o_fdiv, o_mod, o_pow, o_addT, o_mulT, c_lt, c_le, c_gt, c_ge, wp_eq_int, wp_ne_int, n_bl, n_int, bi_int, bi_len, bi_tuple, bi_list, it_tup, r_tup, r_ref, ix_tup, wp_ix_ref, ixR_lst, ixR_dic, wp_set_ref, setR_dic, sl_tup, sl_ref, pk_int, r1_int, ck_bl, rk_rt, rk_nx, wp_mth, m_append, m_pop, Option.some.injEq, exists_eq_left', setAll, List.length_cons, List.length_nil, List.set_cons_succ, List.set_cons_zero, List.length_set, Nat.reduceAdd, Nat.reduceLT, if_true, Nat.zero_add, reduceCtorEq, false_implies, true_implies, eq_self, and_true, true_and, Bool.true_eq_false, Bool.false_eq_true] using q
def isWay : LV → Bool
  | .str s => decide (s = Str.ofString "right") || decide (s = Str.ofString "left")
  | _ => false
theorem in_two {s a b : Str} : inSeq (.str s) [.str a, .str b] = (decide (s = a) || decide (s = b)) := by
  show ((a == s) || ((b == s) || false)) = _
  rw [Bool.or_false]
  have e : ∀ x y : Str, (x == y) = decide (y = x) := fun x y => by
    by_cases h : y = x
    · rw [h]; simp
    · rw [decide_eq_false h]
      simp only [beq_eq_false_iff_ne, ne_eq]
      exact fun z => h z.symm
  rw [e, e]
theorem wp_inn {x y : LV} {ys : List LV} {L : LH} {Q : LV → LH → Prop} (e : Mv.items L y = some ys) (f : (flat x && ys.all flat) = true) (q : Q (.bl (inSeq x ys)) L) : wp (cmpV .inn x y) L Q :=
  wp_look.mpr ⟨ys, e, wp_chk.mpr ⟨f, wp_ret.mpr q⟩⟩
theorem wp_nin {x y : LV} {ys : List LV} {L : LH} {Q : LV → LH → Prop} (e : Mv.items L y = some ys) (f : (flat x && ys.all flat) = true) (q : Q (.bl (!inSeq x ys)) L) : wp (cmpV .nin x y) L Q :=
  wp_look.mpr ⟨ys, e, wp_chk.mpr ⟨f, wp_ret.mpr q⟩⟩
theorem is_way_ok {k : Nat} {v : LV} {L : LH} {Q : LV → LH → Prop} (h : okV L v) (q : Q (.bl (isWay v)) L) : wp (run prog (k + 1) 2 [v]) L Q := by
  show wp (callFn (run prog k) f_is_way [v]) L Q
  rw [call_eq, wp_chk]
  refine ⟨rfl, ?_⟩
  show wp (M.bind (evB _ _ [some v]) retK) L Q
  simp only [f_is_way, wp_bind, wp_ret, wp_chk, wp_ofO, wp_look, wp_new, wp_setO, wp_br, v_var, v_lit, v_glo, v_bin, v_neg, v_cmp, v_cmp2, v_and, v_or, v_not, v_ife, v_tup, v_lst, v_dct0, v_dct, v_ix, v_slc, v_rev, v_bi, v_isi, v_mth, v_call, v_comp, vs_nil, vs_cons, vo_none, vo_some, vc_none, vc_some, vi_val, vi_rng1, vi_rng2, vt_tup, vt_sub, vts_nil, vts_cons, x_asg, x_par, x_aug, x_exp, x_ret, x_retN, x_ifs, x_for, x_whl, x_brk, x_cnt, x_pss, b_nil', b_cons', sq_nx, sq_rt, sq_bk, sq_ct, gv_0, gv_S, wt_0, wt_S, o_add, o_sub, o_mul, o_fdiv, o_mod, o_pow, o_addT, o_mulT, c_lt, c_le, c_gt, c_ge, wp_eq_int, wp_ne_int, n_bl, n_int, bi_int, bi_len, bi_tuple, bi_list, it_tup, r_tup, r_ref, ix_tup, wp_ix_ref, ixR_lst, ixR_dic, wp_set_ref, setR_dic, sl_tup, sl_ref, pk_int, r1_int, ck_bl, rk_rt, rk_nx, wp_mth, m_append, m_pop, Option.some.injEq, exists_eq_left', setAll, List.length_cons, List.length_nil, List.set_cons_succ, List.set_cons_zero, List.length_set, Nat.reduceAdd, Nat.reduceLT, if_true, Nat.zero_add, reduceCtorEq, false_implies, true_implies, eq_self, and_true, true_and, Bool.true_eq_false, Bool.false_eq_true]
  refine isi_s h ?_
  cases v with
  | str s =>
    simp only [isStr, wp_bind, wp_ret, wp_chk, wp_ofO, wp_look, wp_new, wp_setO, wp_br, v_var, v_lit, v_glo, v_bin, v_neg, v_cmp, v_cmp2, v_and, v_or, v_not, v_ife, v_tup, v_lst, v_dct0, v_dct, v_ix, v_slc, v_rev, v_bi, v_isi, v_mth, v_call, v_comp, vs_nil, vs_cons, vo_none, vo_some, vc_none, vc_some, vi_val, vi_rng1, vi_rng2, vt_tup, vt_sub, vts_nil, vts_cons, x_asg, x_par, x_aug, x_exp, x_ret, x_retN, x_ifs, x_for, x_whl, x_brk, x_cnt, x_pss, b_nil', b_cons', sq_nx, sq_rt, sq_bk, sq_ct, gv_0, gv_S, wt_0, wt_S, o_add, o_sub, o_mul, o_fdiv, o_mod, o_pow, o_addT, o_mulT, c_lt, c_le, c_gt, c_ge, wp_eq_int, wp_ne_int, n_bl, n_int, bi_int, bi_len, bi_tuple, bi_list, it_tup, r_tup, r_ref, ix_tup, wp_ix_ref, ixR_lst, ixR_dic, wp_set_ref, setR_dic, sl_tup, sl_ref, pk_int, r1_int, ck_bl, rk_rt, rk_nx, wp_mth, m_append, m_pop, Option.some.injEq, exists_eq_left', setAll, List.length_cons, List.length_nil, List.set_cons_succ, List.set_cons_zero, List.length_set, Nat.reduceAdd, Nat.reduceLT, if_true, Nat.zero_add, reduceCtorEq, false_implies, true_implies, eq_self, and_true, true_and, Bool.true_eq_false, Bool.false_eq_true]
    refine ⟨by decide, wp_inn (ys := [.str (Str.ofString "right"), .str (Str.ofString "left")]) rfl rfl ?_⟩
    rw [in_two]
    exact q
  | _ => simp only [isStr, wp_bind, wp_ret, wp_chk, wp_ofO, wp_look, wp_new, wp_setO, wp_br, v_var, v_lit, v_glo, v_bin, v_neg, v_cmp, v_cmp2, v_and, v_or, v_not, v_ife, v_tup, v_lst, v_dct0, v_dct, v_ix, v_slc, v_rev, v_bi, v_isi, v_mth, v_call, v_comp, vs_nil, vs_cons, vo_none, vo_some, vc_none, vc_some, vi_val, vi_rng1, vi_rng2, vt_tup, vt_sub, vts_nil, vts_cons, x_asg, x_par, x_aug, x_exp, x_ret, x_retN, x_ifs, x_for, x_whl, x_brk, x_cnt, x_pss, b_nil', b_cons', sq_nx, sq_rt, sq_bk, sq_ct, gv_0, gv_S, wt_0, wt_S, o_add, o_sub, o_mul, o_fdiv, o_mod, o_pow, o_addT, o_mulT, c_lt, c_le, c_gt, c_ge, wp_eq_int, wp_ne_int, n_bl, n_int, bi_int, bi_len, bi_tuple, bi_list, it_tup, r_tup, r_ref, ix_tup, wp_ix_ref, ixR_lst, ixR_dic, wp_set_ref, setR_dic, sl_tup, sl_ref, pk_int, r1_int, ck_bl, rk_rt, rk_nx, wp_mth, m_append, m_pop, Option.some.injEq, exists_eq_left', setAll, List.length_cons, List.length_nil, List.set_cons_succ, List.set_cons_zero, List.length_set, Nat.reduceAdd, Nat.reduceLT, if_true, Nat.zero_add, reduceCtorEq, false_implies, true_implies, eq_self, and_true, true_and, Bool.true_eq_false, Bool.false_eq_true]; exact q
/-- purse times signs to the width, at most 100000; else 0 -/
def itemsF (s p : Int) (w : Nat) : Int := if p * s ^ w ≤ 100000 then p * s ^ w else 0
theorem pow_mono {s p : Int} (hs : 1 < s) (hp : 1 ≤ p) : ∀ {i j : Nat}, i ≤ j → p * s ^ i ≤ p * s ^ j := by
  intro i j h
  obtain ⟨d, rfl⟩ := Nat.exists_eq_add_of_le h
  have h1 : (1 : Int) ≤ s ^ d := Int.pow_pos (by omega)
  have h2 : 0 < s ^ i := Int.pow_pos (by omega)
  have h3 : s ^ i * 1 ≤ s ^ i * s ^ d := Int.mul_le_mul_of_nonneg_left h1 (by omega)
  rw [Int.mul_one] at h3
  rw [Int.pow_add]
  exact Int.mul_le_mul_of_nonneg_left h3 (by omega)
theorem mulOk_small {i j : Int} (h : (-(2 ^ 64) < i ∧ i < 2 ^ 64)) : decide ((-(2 ^ 64) < i ∧ i < 2 ^ 64) ∨ (-(2 ^ 64) < j ∧ j < 2 ^ 64)) = true := decide_eq_true (.inl h)
theorem a_mul {i j : Int} : augV .mul (.int i) (.int j) = M.chk (decide ((-(2 ^ 64) < i ∧ i < 2 ^ 64) ∨ (-(2 ^ 64) < j ∧ j < 2 ^ 64))) (M.ret (.int (i * j))) := rfl
end K35


namespace K35
open PySem Mv
theorem pow_big {s p : Int} (hs : 1 < s) (hp : 1 ≤ p) {w : Nat} (hw : 17 ≤ w) : 100000 < p * s ^ w := by
  have h1 := pow_mono hs hp hw
  have h2 : (2 : Int) ^ 17 ≤ s ^ 17 := by
    have e : 2 ^ 17 ≤ s.toNat ^ 17 := Nat.pow_le_pow_left (by omega) 17
    have e3 : ((s.toNat ^ 17 : Nat) : Int) = s ^ 17 := by rw [Int.natCast_pow, Int.toNat_of_nonneg (by omega)]
    have e4 : (2 : Nat) ^ 17 = 131072 := by decide
    have e5 : (2 : Int) ^ 17 = 131072 := by decide
    omega
  have h3 : 1 * s ^ 17 ≤ p * s ^ 17 := Int.mul_le_mul_of_nonneg_right hp (by have := h2; omega)
  have e5 : (2 : Int) ^ 17 = 131072 := by decide
  omega
theorem itemsF_no {s p : Int} (hs : 1 < s) (hp : 1 ≤ p) {i w : Nat} (h : i ≤ w) (b : 100000 < p * s ^ i) : itemsF s p w = 0 := by
  unfold itemsF
  have := pow_mono hs hp h
  rw [if_neg (by omega)]
theorem items_of_ok {k : Nat} {s p w : Int} {L : LH} {Q : LV → LH → Prop} (hs : 1 < s ∧ s < 100) (hp : 1 ≤ p) (hw : 1 ≤ w) (q : Q (.int (itemsF s p w.toNat)) L) : wp (run prog (k + 1) 3 [.int s, .int p, .int w]) L Q := by
  show wp (callFn (run prog k) f_items_of [.int s, .int p, .int w]) L Q
  rw [call_eq, wp_chk]
  refine ⟨rfl, ?_⟩
  show wp (M.bind (evB _ _ [some (.int s), some (.int p), some (.int w), none, none]) retK) L Q
  by_cases h1 : 100000 < p
  · have d1 : decide (100000 < p) = true := decide_eq_true h1
    simp only [f_items_of, d1, wp_bind, wp_ret, wp_chk, wp_ofO, wp_look, wp_new, wp_setO, wp_br, v_var, v_lit, v_glo, v_bin, v_neg, v_cmp, v_cmp2, v_and, v_or, v_not, v_ife, v_tup, v_lst, v_dct0, v_dct, v_ix, v_slc, v_rev, v_bi, v_isi, v_mth, v_call, v_comp, vs_nil, vs_cons, vo_none, vo_some, vc_none, vc_some, vi_val, vi_rng1, vi_rng2, vt_tup, vt_sub, vts_nil, vts_cons, x_asg, x_par, x_aug, x_exp, x_ret, x_retN, x_ifs, x_for, x_whl, x_brk, x_cnt, x_pss, b_nil', b_cons', sq_nx, sq_rt, sq_bk, sq_ct, gv_0, gv_S, wt_0, wt_S, o_add, o_sub, o_mul, o_fdiv, o_mod, o_pow, o_addT, o_mulT, c_lt, c_le, c_gt, c_ge, wp_eq_int, wp_ne_int, n_bl, n_int, bi_int, bi_len, bi_tuple, bi_list, it_tup, r_tup, r_ref, ix_tup, wp_ix_ref, ixR_lst, ixR_dic, wp_set_ref, setR_dic, sl_tup, sl_ref, pk_int, r1_int, ck_bl, rk_rt, rk_nx, wp_mth, m_append, m_pop, Option.some.injEq, exists_eq_left', setAll, List.length_cons, List.length_nil, List.set_cons_succ, List.set_cons_zero, List.length_set, Nat.reduceAdd, Nat.reduceLT, if_true, Nat.zero_add, reduceCtorEq, false_implies, true_implies, eq_self, and_true, true_and, Bool.true_eq_false, Bool.false_eq_true]
    rw [itemsF_no hs.1 hp (Nat.zero_le _) (by simpa using h1)] at q
    exact q
  · have d1 : decide (100000 < p) = false := decide_eq_false h1
    by_cases h2 : 100000 < w
    · have d2 : decide (100000 < w) = true := decide_eq_true h2
      simp only [f_items_of, d1, d2, wp_bind, wp_ret, wp_chk, wp_ofO, wp_look, wp_new, wp_setO, wp_br, v_var, v_lit, v_glo, v_bin, v_neg, v_cmp, v_cmp2, v_and, v_or, v_not, v_ife, v_tup, v_lst, v_dct0, v_dct, v_ix, v_slc, v_rev, v_bi, v_isi, v_mth, v_call, v_comp, vs_nil, vs_cons, vo_none, vo_some, vc_none, vc_some, vi_val, vi_rng1, vi_rng2, vt_tup, vt_sub, vts_nil, vts_cons, x_asg, x_par, x_aug, x_exp, x_ret, x_retN, x_ifs, x_for, x_whl, x_brk, x_cnt, x_pss, b_nil', b_cons', sq_nx, sq_rt, sq_bk, sq_ct, gv_0, gv_S, wt_0, wt_S, o_add, o_sub, o_mul, o_fdiv, o_mod, o_pow, o_addT, o_mulT, c_lt, c_le, c_gt, c_ge, wp_eq_int, wp_ne_int, n_bl, n_int, bi_int, bi_len, bi_tuple, bi_list, it_tup, r_tup, r_ref, ix_tup, wp_ix_ref, ixR_lst, ixR_dic, wp_set_ref, setR_dic, sl_tup, sl_ref, pk_int, r1_int, ck_bl, rk_rt, rk_nx, wp_mth, m_append, m_pop, Option.some.injEq, exists_eq_left', setAll, List.length_cons, List.length_nil, List.set_cons_succ, List.set_cons_zero, List.length_set, Nat.reduceAdd, Nat.reduceLT, if_true, Nat.zero_add, reduceCtorEq, false_implies, true_implies, eq_self, and_true, true_and, Bool.true_eq_false, Bool.false_eq_true]
      rw [itemsF_no hs.1 hp (Nat.le_refl _) (pow_big hs.1 hp (by omega))] at q
      exact q
    · have d2 : decide (100000 < w) = false := decide_eq_false h2
      simp only [f_items_of, d1, d2, wp_bind, wp_ret, wp_chk, wp_ofO, wp_look, wp_new, wp_setO, wp_br, v_var, v_lit, v_glo, v_bin, v_neg, v_cmp, v_cmp2, v_and, v_or, v_not, v_ife, v_tup, v_lst, v_dct0, v_dct, v_ix, v_slc, v_rev, v_bi, v_isi, v_mth, v_call, v_comp, vs_nil, vs_cons, vo_none, vo_some, vc_none, vc_some, vi_val, vi_rng1, vi_rng2, vt_tup, vt_sub, vts_nil, vts_cons, x_asg, x_par, x_aug, x_exp, x_ret, x_retN, x_ifs, x_for, x_whl, x_brk, x_cnt, x_pss, b_nil', b_cons', sq_nx, sq_rt, sq_bk, sq_ct, gv_0, gv_S, wt_0, wt_S, o_add, o_sub, o_mul, o_fdiv, o_mod, o_pow, o_addT, o_mulT, c_lt, c_le, c_gt, c_ge, wp_eq_int, wp_ne_int, n_bl, n_int, bi_int, bi_len, bi_tuple, bi_list, it_tup, r_tup, r_ref, ix_tup, wp_ix_ref, ixR_lst, ixR_dic, wp_set_ref, setR_dic, sl_tup, sl_ref, pk_int, r1_int, ck_bl, rk_rt, rk_nx, wp_mth, m_append, m_pop, Option.some.injEq, exists_eq_left', setAll, List.length_cons, List.length_nil, List.set_cons_succ, List.set_cons_zero, List.length_set, Nat.reduceAdd, Nat.reduceLT, if_true, Nat.zero_add, reduceCtorEq, false_implies, true_implies, eq_self, and_true, true_and, Bool.true_eq_false, Bool.false_eq_true]
      refine ⟨by simp only [ints62]; exact decide_eq_true (by omega), ?_⟩
      have e0 : (rngV 0 w.toNat).len = w.toNat := by simp [Src.len, rngV]
      refine wp_for (fun i σ L' => (∃ d, σ = [some (.int s), some (.int p), some (.int w), some (.int (p * s ^ i)), d] ∧ p * s ^ i ≤ 100000) ∧ L' = L) ⟨⟨none, by simp, by simpa using h1⟩, rfl⟩ ?_ ?_
      · rintro i σ L' hi ⟨⟨d, rfl, hb⟩, rfl⟩
        rw [e0] at hi
        refine ⟨.int i, by simp [Src.at, rngV, hi], ?_⟩
        simp only [a_mul, wp_bind, wp_ret, wp_chk, wp_ofO, wp_look, wp_new, wp_setO, wp_br, v_var, v_lit, v_glo, v_bin, v_neg, v_cmp, v_cmp2, v_and, v_or, v_not, v_ife, v_tup, v_lst, v_dct0, v_dct, v_ix, v_slc, v_rev, v_bi, v_isi, v_mth, v_call, v_comp, vs_nil, vs_cons, vo_none, vo_some, vc_none, vc_some, vi_val, vi_rng1, vi_rng2, vt_tup, vt_sub, vts_nil, vts_cons, x_asg, x_par, x_aug, x_exp, x_ret, x_retN, x_ifs, x_for, x_whl, x_brk, x_cnt, x_pss, b_nil', b_cons', sq_nx, sq_rt, sq_bk, sq_ct, gv_0, gv_S, wt_0, wt_S, o_add, o_sub, o_mul, o_fdiv, o_mod, o_pow, o_addT, o_mulT, c_lt, c_le, c_gt, c_ge, wp_eq_int, wp_ne_int, n_bl, n_int, bi_int, bi_len, bi_tuple, bi_list, it_tup, r_tup, r_ref, ix_tup, wp_ix_ref, ixR_lst, ixR_dic, wp_set_ref, setR_dic, sl_tup, sl_ref, pk_int, r1_int, ck_bl, rk_rt, rk_nx, wp_mth, m_append, m_pop, Option.some.injEq, exists_eq_left', setAll, List.length_cons, List.length_nil, List.set_cons_succ, List.set_cons_zero, List.length_set, Nat.reduceAdd, Nat.reduceLT, if_true, Nat.zero_add, reduceCtorEq, false_implies, true_implies, eq_self, and_true, true_and, Bool.true_eq_false, Bool.false_eq_true]
        have e1 : p * s ^ i * s = p * s ^ (i + 1) := by rw [Int.pow_succ, Int.mul_assoc]
        refine ⟨decide_eq_true (.inr (by omega)), ?_⟩
        rw [e1]
        constructor
        · intro c
          have c : 100000 < p * s ^ (i + 1) := of_decide_eq_true c
          rw [itemsF_no hs.1 hp (show i + 1 ≤ w.toNat by omega) c] at q
          simp only [turnQ, wp_bind, wp_ret, wp_chk, wp_ofO, wp_look, wp_new, wp_setO, wp_br, v_var, v_lit, v_glo, v_bin, v_neg, v_cmp, v_cmp2, v_and, v_or, v_not, v_ife, v_tup, v_lst, v_dct0, v_dct, v_ix, v_slc, v_rev, v_bi, v_isi, v_mth, v_call, v_comp, vs_nil, vs_cons, vo_none, vo_some, vc_none, vc_some, vi_val, vi_rng1, vi_rng2, vt_tup, vt_sub, vts_nil, vts_cons, x_asg, x_par, x_aug, x_exp, x_ret, x_retN, x_ifs, x_for, x_whl, x_brk, x_cnt, x_pss, b_nil', b_cons', sq_nx, sq_rt, sq_bk, sq_ct, gv_0, gv_S, wt_0, wt_S, o_add, o_sub, o_mul, o_fdiv, o_mod, o_pow, o_addT, o_mulT, c_lt, c_le, c_gt, c_ge, wp_eq_int, wp_ne_int, n_bl, n_int, bi_int, bi_len, bi_tuple, bi_list, it_tup, r_tup, r_ref, ix_tup, wp_ix_ref, ixR_lst, ixR_dic, wp_set_ref, setR_dic, sl_tup, sl_ref, pk_int, r1_int, ck_bl, rk_rt, rk_nx, wp_mth, m_append, m_pop, Option.some.injEq, exists_eq_left', setAll, List.length_cons, List.length_nil, List.set_cons_succ, List.set_cons_zero, List.length_set, Nat.reduceAdd, Nat.reduceLT, if_true, Nat.zero_add, reduceCtorEq, false_implies, true_implies, eq_self, and_true, true_and, Bool.true_eq_false, Bool.false_eq_true]
          exact q
        · intro c
          have c := of_decide_eq_false c
          exact ⟨⟨_, rfl, by omega⟩, rfl⟩
      · rintro σ L' ⟨⟨d, rfl, hb⟩, rfl⟩
        rw [e0] at hb
        refine ⟨rfl, ?_⟩
        simp only [wp_bind, wp_ret, wp_chk, wp_ofO, wp_look, wp_new, wp_setO, wp_br, v_var, v_lit, v_glo, v_bin, v_neg, v_cmp, v_cmp2, v_and, v_or, v_not, v_ife, v_tup, v_lst, v_dct0, v_dct, v_ix, v_slc, v_rev, v_bi, v_isi, v_mth, v_call, v_comp, vs_nil, vs_cons, vo_none, vo_some, vc_none, vc_some, vi_val, vi_rng1, vi_rng2, vt_tup, vt_sub, vts_nil, vts_cons, x_asg, x_par, x_aug, x_exp, x_ret, x_retN, x_ifs, x_for, x_whl, x_brk, x_cnt, x_pss, b_nil', b_cons', sq_nx, sq_rt, sq_bk, sq_ct, gv_0, gv_S, wt_0, wt_S, o_add, o_sub, o_mul, o_fdiv, o_mod, o_pow, o_addT, o_mulT, c_lt, c_le, c_gt, c_ge, wp_eq_int, wp_ne_int, n_bl, n_int, bi_int, bi_len, bi_tuple, bi_list, it_tup, r_tup, r_ref, ix_tup, wp_ix_ref, ixR_lst, ixR_dic, wp_set_ref, setR_dic, sl_tup, sl_ref, pk_int, r1_int, ck_bl, rk_rt, rk_nx, wp_mth, m_append, m_pop, Option.some.injEq, exists_eq_left', setAll, List.length_cons, List.length_nil, List.set_cons_succ, List.set_cons_zero, List.length_set, Nat.reduceAdd, Nat.reduceLT, if_true, Nat.zero_add, reduceCtorEq, false_implies, true_implies, eq_self, and_true, true_and, Bool.true_eq_false, Bool.false_eq_true]
        rw [e0]
        unfold itemsF at q
        rw [if_pos hb] at q
        exact q
/-- a table: a tuple of so many items, each from -1 to below their number -/
def isTab (n : Int) : LV → Bool
  | .tup xs => decide ((xs.length : Int) = n) && xs.all (inB (-1) (n - 1))
  | _ => false
theorem all_bl (f : LV → Bool) (xs : List LV) : blL (xs.map fun x => LV.bl (f x)) = some (xs.map f) := by
  induction xs with
  | nil => rfl
  | cons x xs ih =>
    show (blL (xs.map fun x => LV.bl (f x))).map (f x :: ·) = _
    rw [ih]
    rfl
theorem take_one {α : Type} {xs : List α} {i : Nat} {x : α} (h : xs[i]? = some x) : xs.take (i + 1) = xs.take i ++ [x] := by
  rw [List.take_succ, h]
  rfl
theorem okV.grow {L L' : LH} {v : LV} (h : okV L v) (g : Grow L L') : okV L' v := by
  obtain ⟨ts, e⟩ := h
  obtain ⟨E, rfl⟩ := g
  cases v with
  | ref n =>
    unfold tyOf at e
    dsimp only at e
    cases e1 : L[n]? with
    | none => rw [e1] at e; cases e
    | some o =>
      rw [e1] at e
      refine ⟨ts, ?_⟩
      unfold tyOf
      dsimp only
      rw [List.getElem?_append_left (lt_of e1), e1]
      exact e
  | _ => exact ⟨ts, e⟩
theorem len_tup {L : LH} {xs : List LV} : lenV L (.tup xs) = some xs.length := rfl
theorem is_table_ok {k : Nat} {n : Int} {v : LV} {L : LH} {Q : LV → LH → Prop} (h : okV L v) (hi : ∀ xs, v = .tup xs → xs.length < sizeLine ∧ ∀ x ∈ xs, okV L x) (q : ∀ L', Grow L L' → Q (.bl (isTab n v)) L') : wp (run prog (k + 3) 4 [.int n, v]) L Q := by
  show wp (callFn (run prog (k + 2)) f_is_table [.int n, v]) L Q
  rw [call_eq, wp_chk]
  refine ⟨rfl, ?_⟩
  show wp (M.bind (evB _ _ [some (.int n), some v, none]) retK) L Q
  simp only [f_is_table, wp_bind, wp_ret, wp_chk, wp_ofO, wp_look, wp_new, wp_setO, wp_br, v_var, v_lit, v_glo, v_bin, v_neg, v_cmp, v_cmp2, v_and, v_or, v_not, v_ife, v_tup, v_lst, v_dct0, v_dct, v_ix, v_slc, v_rev, v_bi, v_isi, v_mth, v_call, v_comp, vs_nil, vs_cons, vo_none, vo_some, vc_none, vc_some, vi_val, vi_rng1, vi_rng2, vt_tup, vt_sub, vts_nil, vts_cons, x_asg, x_par, x_aug, x_exp, x_ret, x_retN, x_ifs, x_for, x_whl, x_brk, x_cnt, x_pss, b_nil', b_cons', sq_nx, sq_rt, sq_bk, sq_ct, gv_0, gv_S, wt_0, wt_S, o_add, o_sub, o_mul, o_fdiv, o_mod, o_pow, o_addT, o_mulT, c_lt, c_le, c_gt, c_ge, wp_eq_int, wp_ne_int, n_bl, n_int, bi_int, bi_len, bi_tuple, bi_list, it_tup, r_tup, r_ref, ix_tup, wp_ix_ref, ixR_lst, ixR_dic, wp_set_ref, setR_dic, sl_tup, sl_ref, pk_int, r1_int, ck_bl, rk_rt, rk_nx, wp_mth, m_append, m_pop, Option.some.injEq, exists_eq_left', setAll, List.length_cons, List.length_nil, List.set_cons_succ, List.set_cons_zero, List.length_set, Nat.reduceAdd, Nat.reduceLT, if_true, Nat.zero_add, reduceCtorEq, false_implies, true_implies, eq_self, and_true, true_and, Bool.true_eq_false, Bool.false_eq_true]
  refine isi_t h ?_
  cases v with
  | tup xs =>
    obtain ⟨hz, hx⟩ := hi xs rfl
    simp only [isTup, Bool.not_true, len_tup, wp_bind, wp_ret, wp_chk, wp_ofO, wp_look, wp_new, wp_setO, wp_br, v_var, v_lit, v_glo, v_bin, v_neg, v_cmp, v_cmp2, v_and, v_or, v_not, v_ife, v_tup, v_lst, v_dct0, v_dct, v_ix, v_slc, v_rev, v_bi, v_isi, v_mth, v_call, v_comp, vs_nil, vs_cons, vo_none, vo_some, vc_none, vc_some, vi_val, vi_rng1, vi_rng2, vt_tup, vt_sub, vts_nil, vts_cons, x_asg, x_par, x_aug, x_exp, x_ret, x_retN, x_ifs, x_for, x_whl, x_brk, x_cnt, x_pss, b_nil', b_cons', sq_nx, sq_rt, sq_bk, sq_ct, gv_0, gv_S, wt_0, wt_S, o_add, o_sub, o_mul, o_fdiv, o_mod, o_pow, o_addT, o_mulT, c_lt, c_le, c_gt, c_ge, wp_eq_int, wp_ne_int, n_bl, n_int, bi_int, bi_len, bi_tuple, bi_list, it_tup, r_tup, r_ref, ix_tup, wp_ix_ref, ixR_lst, ixR_dic, wp_set_ref, setR_dic, sl_tup, sl_ref, pk_int, r1_int, ck_bl, rk_rt, rk_nx, wp_mth, m_append, m_pop, Option.some.injEq, exists_eq_left', setAll, List.length_cons, List.length_nil, List.set_cons_succ, List.set_cons_zero, List.length_set, Nat.reduceAdd, Nat.reduceLT, if_true, Nat.zero_add, reduceCtorEq, false_implies, true_implies, eq_self, and_true, true_and, Bool.true_eq_false, Bool.false_eq_true]
    by_cases hl : (xs.length : Int) = n
    · have d1 : decide ((xs.length : Int) = n) = true := decide_eq_true hl
      simp only [d1, Bool.not_true, wp_bind, wp_ret, wp_chk, wp_ofO, wp_look, wp_new, wp_setO, wp_br, v_var, v_lit, v_glo, v_bin, v_neg, v_cmp, v_cmp2, v_and, v_or, v_not, v_ife, v_tup, v_lst, v_dct0, v_dct, v_ix, v_slc, v_rev, v_bi, v_isi, v_mth, v_call, v_comp, vs_nil, vs_cons, vo_none, vo_some, vc_none, vc_some, vi_val, vi_rng1, vi_rng2, vt_tup, vt_sub, vts_nil, vts_cons, x_asg, x_par, x_aug, x_exp, x_ret, x_retN, x_ifs, x_for, x_whl, x_brk, x_cnt, x_pss, b_nil', b_cons', sq_nx, sq_rt, sq_bk, sq_ct, gv_0, gv_S, wt_0, wt_S, o_add, o_sub, o_mul, o_fdiv, o_mod, o_pow, o_addT, o_mulT, c_lt, c_le, c_gt, c_ge, wp_eq_int, wp_ne_int, n_bl, n_int, bi_int, bi_len, bi_tuple, bi_list, it_tup, r_tup, r_ref, ix_tup, wp_ix_ref, ixR_lst, ixR_dic, wp_set_ref, setR_dic, sl_tup, sl_ref, pk_int, r1_int, ck_bl, rk_rt, rk_nx, wp_mth, m_append, m_pop, Option.some.injEq, exists_eq_left', setAll, List.length_cons, List.length_nil, List.set_cons_succ, List.set_cons_zero, List.length_set, Nat.reduceAdd, Nat.reduceLT, if_true, Nat.zero_add, reduceCtorEq, false_implies, true_implies, eq_self, and_true, true_and, Bool.true_eq_false, Bool.false_eq_true]
      rw [← wp_new (Q := fun a L1 => wp (compK _ _ a) L1 _), ← wp_bind]
      refine wp_comp (fun i ys L' => ys = (xs.take i).map (fun x => LV.bl (inB (-1) (n - 1) x)) ∧ ∃ zs, L' = L ++ [.lst zs]) ⟨rfl, _, rfl⟩ ?_ ?_
      · rintro i ys L' hi eD ⟨rfl, zs, rfl⟩
        have hi : i < xs.length := hi
        have gx : xs[i]? = some xs[i] := List.getElem?_eq_getElem hi
        refine ⟨xs[i], gx, ?_⟩
        simp only [turnC, wipeL, wp_if, n_int, pm012, wp_bind, wp_ret, wp_chk, wp_ofO, wp_look, wp_new, wp_setO, wp_br, v_var, v_lit, v_glo, v_bin, v_neg, v_cmp, v_cmp2, v_and, v_or, v_not, v_ife, v_tup, v_lst, v_dct0, v_dct, v_ix, v_slc, v_rev, v_bi, v_isi, v_mth, v_call, v_comp, vs_nil, vs_cons, vo_none, vo_some, vc_none, vc_some, vi_val, vi_rng1, vi_rng2, vt_tup, vt_sub, vts_nil, vts_cons, x_asg, x_par, x_aug, x_exp, x_ret, x_retN, x_ifs, x_for, x_whl, x_brk, x_cnt, x_pss, b_nil', b_cons', sq_nx, sq_rt, sq_bk, sq_ct, gv_0, gv_S, wt_0, wt_S, o_add, o_sub, o_mul, o_fdiv, o_mod, o_pow, o_addT, o_mulT, c_lt, c_le, c_gt, c_ge, wp_eq_int, wp_ne_int, n_bl, n_int, bi_int, bi_len, bi_tuple, bi_list, it_tup, r_tup, r_ref, ix_tup, wp_ix_ref, ixR_lst, ixR_dic, wp_set_ref, setR_dic, sl_tup, sl_ref, pk_int, r1_int, ck_bl, rk_rt, rk_nx, wp_mth, m_append, m_pop, Option.some.injEq, exists_eq_left', setAll, List.length_cons, List.length_nil, List.set_cons_succ, List.set_cons_zero, List.length_set, Nat.reduceAdd, Nat.reduceLT, if_true, Nat.zero_add, reduceCtorEq, false_implies, true_implies, eq_self, and_true, true_and, Bool.true_eq_false, Bool.false_eq_true]
        refine is_between_ok ((hx _ (List.getElem_mem hi)).grow ⟨_, rfl⟩) ⟨eD, ?_, ?_, (xs.take i).map (fun x => LV.bl (inB (-1) (n - 1) x)) ++ [LV.bl (inB (-1) (n - 1) xs[i])], ?_⟩
        · simp only [List.length_map, List.length_take]
          omega
        · rw [take_one gx, List.map_append]
          rfl
        · simp
      · rintro ys L' eD ⟨rfl, zs, rfl⟩
        refine ⟨rfl, ?_⟩
        refine wp_look.mpr ⟨(xs.map (inB (-1) (n - 1))), ?_, ?_⟩
        · have e := items_lst eD
          rw [e]
          have et : xs.take (Src.fixed xs).len = xs := List.take_of_length_le (Nat.le_refl _)
          rw [et]
          exact all_bl _ xs
        · simp only [wp_bind, wp_ret, wp_chk, wp_ofO, wp_look, wp_new, wp_setO, wp_br, v_var, v_lit, v_glo, v_bin, v_neg, v_cmp, v_cmp2, v_and, v_or, v_not, v_ife, v_tup, v_lst, v_dct0, v_dct, v_ix, v_slc, v_rev, v_bi, v_isi, v_mth, v_call, v_comp, vs_nil, vs_cons, vo_none, vo_some, vc_none, vc_some, vi_val, vi_rng1, vi_rng2, vt_tup, vt_sub, vts_nil, vts_cons, x_asg, x_par, x_aug, x_exp, x_ret, x_retN, x_ifs, x_for, x_whl, x_brk, x_cnt, x_pss, b_nil', b_cons', sq_nx, sq_rt, sq_bk, sq_ct, gv_0, gv_S, wt_0, wt_S, o_add, o_sub, o_mul, o_fdiv, o_mod, o_pow, o_addT, o_mulT, c_lt, c_le, c_gt, c_ge, wp_eq_int, wp_ne_int, n_bl, n_int, bi_int, bi_len, bi_tuple, bi_list, it_tup, r_tup, r_ref, ix_tup, wp_ix_ref, ixR_lst, ixR_dic, wp_set_ref, setR_dic, sl_tup, sl_ref, pk_int, r1_int, ck_bl, rk_rt, rk_nx, wp_mth, m_append, m_pop, Option.some.injEq, exists_eq_left', setAll, List.length_cons, List.length_nil, List.set_cons_succ, List.set_cons_zero, List.length_set, Nat.reduceAdd, Nat.reduceLT, if_true, Nat.zero_add, reduceCtorEq, false_implies, true_implies, eq_self, and_true, true_and, Bool.true_eq_false, Bool.false_eq_true]
          have e2 : (xs.map (inB (-1) (n - 1))).all id = isTab n (.tup xs) := by
            show _ = (decide ((xs.length : Int) = n) && xs.all (inB (-1) (n - 1)))
            rw [d1, Bool.true_and, List.all_map]
            rfl
          rw [e2]
          exact q _ ⟨_, rfl⟩
    · have d1 : decide ((xs.length : Int) = n) = false := decide_eq_false hl
      simp only [d1, Bool.not_false, wp_bind, wp_ret, wp_chk, wp_ofO, wp_look, wp_new, wp_setO, wp_br, v_var, v_lit, v_glo, v_bin, v_neg, v_cmp, v_cmp2, v_and, v_or, v_not, v_ife, v_tup, v_lst, v_dct0, v_dct, v_ix, v_slc, v_rev, v_bi, v_isi, v_mth, v_call, v_comp, vs_nil, vs_cons, vo_none, vo_some, vc_none, vc_some, vi_val, vi_rng1, vi_rng2, vt_tup, vt_sub, vts_nil, vts_cons, x_asg, x_par, x_aug, x_exp, x_ret, x_retN, x_ifs, x_for, x_whl, x_brk, x_cnt, x_pss, b_nil', b_cons', sq_nx, sq_rt, sq_bk, sq_ct, gv_0, gv_S, wt_0, wt_S, o_add, o_sub, o_mul, o_fdiv, o_mod, o_pow, o_addT, o_mulT, c_lt, c_le, c_gt, c_ge, wp_eq_int, wp_ne_int, n_bl, n_int, bi_int, bi_len, bi_tuple, bi_list, it_tup, r_tup, r_ref, ix_tup, wp_ix_ref, ixR_lst, ixR_dic, wp_set_ref, setR_dic, sl_tup, sl_ref, pk_int, r1_int, ck_bl, rk_rt, rk_nx, wp_mth, m_append, m_pop, Option.some.injEq, exists_eq_left', setAll, List.length_cons, List.length_nil, List.set_cons_succ, List.set_cons_zero, List.length_set, Nat.reduceAdd, Nat.reduceLT, if_true, Nat.zero_add, reduceCtorEq, false_implies, true_implies, eq_self, and_true, true_and, Bool.true_eq_false, Bool.false_eq_true]
      have e2 : isTab n (.tup xs) = false := by
        show (decide ((xs.length : Int) = n) && xs.all (inB (-1) (n - 1))) = false
        rw [d1]
        rfl
      have q := q L (Grow.refl L)
      rw [e2] at q
      exact q
  | _ =>
    simp only [isTup, Bool.not_false, wp_bind, wp_ret, wp_chk, wp_ofO, wp_look, wp_new, wp_setO, wp_br, v_var, v_lit, v_glo, v_bin, v_neg, v_cmp, v_cmp2, v_and, v_or, v_not, v_ife, v_tup, v_lst, v_dct0, v_dct, v_ix, v_slc, v_rev, v_bi, v_isi, v_mth, v_call, v_comp, vs_nil, vs_cons, vo_none, vo_some, vc_none, vc_some, vi_val, vi_rng1, vi_rng2, vt_tup, vt_sub, vts_nil, vts_cons, x_asg, x_par, x_aug, x_exp, x_ret, x_retN, x_ifs, x_for, x_whl, x_brk, x_cnt, x_pss, b_nil', b_cons', sq_nx, sq_rt, sq_bk, sq_ct, gv_0, gv_S, wt_0, wt_S, o_add, o_sub, o_mul, o_fdiv, o_mod, o_pow, o_addT, o_mulT, c_lt, c_le, c_gt, c_ge, wp_eq_int, wp_ne_int, n_bl, n_int, bi_int, bi_len, bi_tuple, bi_list, it_tup, r_tup, r_ref, ix_tup, wp_ix_ref, ixR_lst, ixR_dic, wp_set_ref, setR_dic, sl_tup, sl_ref, pk_int, r1_int, ck_bl, rk_rt, rk_nx, wp_mth, m_append, m_pop, Option.some.injEq, exists_eq_left', setAll, List.length_cons, List.length_nil, List.set_cons_succ, List.set_cons_zero, List.length_set, Nat.reduceAdd, Nat.reduceLT, if_true, Nat.zero_add, reduceCtorEq, false_implies, true_implies, eq_self, and_true, true_and, Bool.true_eq_false, Bool.false_eq_true]
    exact q L (Grow.refl L)
end K35


namespace K35
open PySem Mv
theorem bi_min {i j : Int} : biV .min [.int i, .int j] = M.ret (.int (if j < i then j else i)) := rfl
/-- the law's own number of items, at most 100001 -/
def litems (s p : Int) (w : Nat) : Int := if itemsF s p w = 0 then 100001 else itemsF s p w
theorem l_items_ok {k : Nat} {s p w : Int} {L : LH} {Q : LV → LH → Prop} (hs : 1 < s ∧ s < 100) (hp : 1 ≤ p) (hw : 1 ≤ w) (q : Q (.int (litems s p w.toNat)) L) : wp (run prog (k + 1) 10 [.int s, .int p, .int w]) L Q := by
  show wp (callFn (run prog k) f_l_items [.int s, .int p, .int w]) L Q
  rw [call_eq, wp_chk]
  refine ⟨rfl, ?_⟩
  show wp (M.bind (evB _ _ [some (.int s), some (.int p), some (.int w), none, none]) retK) L Q
  obtain ⟨m, em, hm⟩ : ∃ m : Nat, (if (20 : Int) < w then 20 else w) = (m : Int) ∧ ((m = w.toNat ∧ m ≤ 20) ∨ (m = 20 ∧ 20 < w.toNat)) := by
    by_cases c : (20 : Int) < w
    · exact ⟨20, by rw [if_pos c]; rfl, .inr ⟨rfl, by omega⟩⟩
    · exact ⟨w.toNat, by rw [if_neg c]; omega, .inl ⟨rfl, by omega⟩⟩
  simp only [f_l_items, bi_min, em, wp_bind, wp_ret, wp_chk, wp_ofO, wp_look, wp_new, wp_setO, wp_br, v_var, v_lit, v_glo, v_bin, v_neg, v_cmp, v_cmp2, v_and, v_or, v_not, v_ife, v_tup, v_lst, v_dct0, v_dct, v_ix, v_slc, v_rev, v_bi, v_isi, v_mth, v_call, v_comp, vs_nil, vs_cons, vo_none, vo_some, vc_none, vc_some, vi_val, vi_rng1, vi_rng2, vt_tup, vt_sub, vts_nil, vts_cons, x_asg, x_par, x_aug, x_exp, x_ret, x_retN, x_ifs, x_for, x_whl, x_brk, x_cnt, x_pss, b_nil', b_cons', sq_nx, sq_rt, sq_bk, sq_ct, gv_0, gv_S, wt_0, wt_S, o_add, o_sub, o_mul, o_fdiv, o_mod, o_pow, o_addT, o_mulT, c_lt, c_le, c_gt, c_ge, wp_eq_int, wp_ne_int, n_bl, n_int, bi_int, bi_len, bi_tuple, bi_list, it_tup, r_tup, r_ref, ix_tup, wp_ix_ref, ixR_lst, ixR_dic, wp_set_ref, setR_dic, sl_tup, sl_ref, pk_int, r1_int, ck_bl, rk_rt, rk_nx, wp_mth, m_append, m_pop, Option.some.injEq, exists_eq_left', setAll, List.length_cons, List.length_nil, List.set_cons_succ, List.set_cons_zero, List.length_set, Nat.reduceAdd, Nat.reduceLT, if_true, Nat.zero_add, reduceCtorEq, false_implies, true_implies, eq_self, and_true, true_and, Bool.true_eq_false, Bool.false_eq_true]
  refine ⟨by simp only [ints62]; exact decide_eq_true (by omega), ?_⟩
  have e0 : (rngV 0 ((m : Int)).toNat).len = m := by simp [Src.len, rngV]
  refine wp_for (fun i σ L' => (∃ d, σ = [some (.int s), some (.int p), some (.int w), some (.int (p * s ^ i)), d]) ∧ L' = L) ⟨⟨none, by simp⟩, rfl⟩ ?_ ?_
  · rintro i σ L' hi ⟨⟨d, rfl⟩, rfl⟩
    rw [e0] at hi
    refine ⟨.int i, by simp [Src.at, rngV, hi], ?_⟩
    simp only [wp_bind, wp_ret, wp_chk, wp_ofO, wp_look, wp_new, wp_setO, wp_br, v_var, v_lit, v_glo, v_bin, v_neg, v_cmp, v_cmp2, v_and, v_or, v_not, v_ife, v_tup, v_lst, v_dct0, v_dct, v_ix, v_slc, v_rev, v_bi, v_isi, v_mth, v_call, v_comp, vs_nil, vs_cons, vo_none, vo_some, vc_none, vc_some, vi_val, vi_rng1, vi_rng2, vt_tup, vt_sub, vts_nil, vts_cons, x_asg, x_par, x_aug, x_exp, x_ret, x_retN, x_ifs, x_for, x_whl, x_brk, x_cnt, x_pss, b_nil', b_cons', sq_nx, sq_rt, sq_bk, sq_ct, gv_0, gv_S, wt_0, wt_S, o_add, o_sub, o_mul, o_fdiv, o_mod, o_pow, o_addT, o_mulT, c_lt, c_le, c_gt, c_ge, wp_eq_int, wp_ne_int, n_bl, n_int, bi_int, bi_len, bi_tuple, bi_list, it_tup, r_tup, r_ref, ix_tup, wp_ix_ref, ixR_lst, ixR_dic, wp_set_ref, setR_dic, sl_tup, sl_ref, pk_int, r1_int, ck_bl, rk_rt, rk_nx, wp_mth, m_append, m_pop, Option.some.injEq, exists_eq_left', setAll, List.length_cons, List.length_nil, List.set_cons_succ, List.set_cons_zero, List.length_set, Nat.reduceAdd, Nat.reduceLT, if_true, Nat.zero_add, reduceCtorEq, false_implies, true_implies, eq_self, and_true, true_and, Bool.true_eq_false, Bool.false_eq_true]
    exact ⟨mulOk_r (by omega), ⟨some (.int i), by rw [Int.pow_succ, Int.mul_assoc]⟩, rfl⟩
  · rintro σ L' ⟨⟨d, rfl⟩, rfl⟩
    refine ⟨rfl, ?_⟩
    simp only [bi_min, wp_bind, wp_ret, wp_chk, wp_ofO, wp_look, wp_new, wp_setO, wp_br, v_var, v_lit, v_glo, v_bin, v_neg, v_cmp, v_cmp2, v_and, v_or, v_not, v_ife, v_tup, v_lst, v_dct0, v_dct, v_ix, v_slc, v_rev, v_bi, v_isi, v_mth, v_call, v_comp, vs_nil, vs_cons, vo_none, vo_some, vc_none, vc_some, vi_val, vi_rng1, vi_rng2, vt_tup, vt_sub, vts_nil, vts_cons, x_asg, x_par, x_aug, x_exp, x_ret, x_retN, x_ifs, x_for, x_whl, x_brk, x_cnt, x_pss, b_nil', b_cons', sq_nx, sq_rt, sq_bk, sq_ct, gv_0, gv_S, wt_0, wt_S, o_add, o_sub, o_mul, o_fdiv, o_mod, o_pow, o_addT, o_mulT, c_lt, c_le, c_gt, c_ge, wp_eq_int, wp_ne_int, n_bl, n_int, bi_int, bi_len, bi_tuple, bi_list, it_tup, r_tup, r_ref, ix_tup, wp_ix_ref, ixR_lst, ixR_dic, wp_set_ref, setR_dic, sl_tup, sl_ref, pk_int, r1_int, ck_bl, rk_rt, rk_nx, wp_mth, m_append, m_pop, Option.some.injEq, exists_eq_left', setAll, List.length_cons, List.length_nil, List.set_cons_succ, List.set_cons_zero, List.length_set, Nat.reduceAdd, Nat.reduceLT, if_true, Nat.zero_add, reduceCtorEq, false_implies, true_implies, eq_self, and_true, true_and, Bool.true_eq_false, Bool.false_eq_true]
    rw [e0]
    have e : (if (100001 : Int) < p * s ^ m then 100001 else p * s ^ m) = litems s p w.toNat := by
      have pos : ∀ j : Nat, 0 < p * s ^ j := fun j => Int.mul_pos (by omega) (Int.pow_pos (by omega))
      unfold litems
      rcases hm with ⟨e, hm⟩ | ⟨e, hm⟩
      · subst e
        have := pos w.toNat
        unfold itemsF
        by_cases c : p * s ^ w.toNat ≤ 100000
        · rw [if_pos c, if_neg (by omega), if_neg (by omega)]
        · rw [if_neg c, if_pos rfl]
          by_cases c2 : 100001 < p * s ^ w.toNat
          · rw [if_pos c2]
          · rw [if_neg c2]
            omega
      · subst e
        have b := pow_big (s := s) (p := p) hs.1 hp (w := 20) (by decide)
        rw [itemsF_no hs.1 hp (Nat.le_of_lt hm) b, if_pos rfl]
        by_cases c2 : 100001 < p * s ^ 20
        · rw [if_pos c2]
        · rw [if_neg c2]
          omega
    rw [e]
    exact q
theorem l_is_table_ok {k : Nat} {n : Int} {v : LV} {L : LH} {Q : LV → LH → Prop} (h : okV L v) (hi : ∀ xs, v = .tup xs → xs.length < sizeLine ∧ ∀ x ∈ xs, okV L x) (q : Q (.bl (isTab n v)) L) : wp (run prog (k + 2) 12 [.int n, v]) L Q := by
  show wp (callFn (run prog (k + 1)) f_l_is_table [.int n, v]) L Q
  rw [call_eq, wp_chk]
  refine ⟨rfl, ?_⟩
  show wp (M.bind (evB _ _ [some (.int n), some v, none]) retK) L Q
  simp only [f_l_is_table, wp_bind, wp_ret, wp_chk, wp_ofO, wp_look, wp_new, wp_setO, wp_br, v_var, v_lit, v_glo, v_bin, v_neg, v_cmp, v_cmp2, v_and, v_or, v_not, v_ife, v_tup, v_lst, v_dct0, v_dct, v_ix, v_slc, v_rev, v_bi, v_isi, v_mth, v_call, v_comp, vs_nil, vs_cons, vo_none, vo_some, vc_none, vc_some, vi_val, vi_rng1, vi_rng2, vt_tup, vt_sub, vts_nil, vts_cons, x_asg, x_par, x_aug, x_exp, x_ret, x_retN, x_ifs, x_for, x_whl, x_brk, x_cnt, x_pss, b_nil', b_cons', sq_nx, sq_rt, sq_bk, sq_ct, gv_0, gv_S, wt_0, wt_S, o_add, o_sub, o_mul, o_fdiv, o_mod, o_pow, o_addT, o_mulT, c_lt, c_le, c_gt, c_ge, wp_eq_int, wp_ne_int, n_bl, n_int, bi_int, bi_len, bi_tuple, bi_list, it_tup, r_tup, r_ref, ix_tup, wp_ix_ref, ixR_lst, ixR_dic, wp_set_ref, setR_dic, sl_tup, sl_ref, pk_int, r1_int, ck_bl, rk_rt, rk_nx, wp_mth, m_append, m_pop, Option.some.injEq, exists_eq_left', setAll, List.length_cons, List.length_nil, List.set_cons_succ, List.set_cons_zero, List.length_set, Nat.reduceAdd, Nat.reduceLT, if_true, Nat.zero_add, reduceCtorEq, false_implies, true_implies, eq_self, and_true, true_and, Bool.true_eq_false, Bool.false_eq_true]
  refine isi_t h ?_
  cases v with
  | tup xs =>
    obtain ⟨hz, hx⟩ := hi xs rfl
    simp only [isTup, Bool.not_true, len_tup, wp_bind, wp_ret, wp_chk, wp_ofO, wp_look, wp_new, wp_setO, wp_br, v_var, v_lit, v_glo, v_bin, v_neg, v_cmp, v_cmp2, v_and, v_or, v_not, v_ife, v_tup, v_lst, v_dct0, v_dct, v_ix, v_slc, v_rev, v_bi, v_isi, v_mth, v_call, v_comp, vs_nil, vs_cons, vo_none, vo_some, vc_none, vc_some, vi_val, vi_rng1, vi_rng2, vt_tup, vt_sub, vts_nil, vts_cons, x_asg, x_par, x_aug, x_exp, x_ret, x_retN, x_ifs, x_for, x_whl, x_brk, x_cnt, x_pss, b_nil', b_cons', sq_nx, sq_rt, sq_bk, sq_ct, gv_0, gv_S, wt_0, wt_S, o_add, o_sub, o_mul, o_fdiv, o_mod, o_pow, o_addT, o_mulT, c_lt, c_le, c_gt, c_ge, wp_eq_int, wp_ne_int, n_bl, n_int, bi_int, bi_len, bi_tuple, bi_list, it_tup, r_tup, r_ref, ix_tup, wp_ix_ref, ixR_lst, ixR_dic, wp_set_ref, setR_dic, sl_tup, sl_ref, pk_int, r1_int, ck_bl, rk_rt, rk_nx, wp_mth, m_append, m_pop, Option.some.injEq, exists_eq_left', setAll, List.length_cons, List.length_nil, List.set_cons_succ, List.set_cons_zero, List.length_set, Nat.reduceAdd, Nat.reduceLT, if_true, Nat.zero_add, reduceCtorEq, false_implies, true_implies, eq_self, and_true, true_and, Bool.true_eq_false, Bool.false_eq_true]
    have eT : isTab n (.tup xs) = (decide ((xs.length : Int) = n) && xs.all (inB (-1) (n - 1))) := rfl
    by_cases hl : (xs.length : Int) = n
    · have d1 : decide ((xs.length : Int) = n) = true := decide_eq_true hl
      rw [eT, d1, Bool.true_and] at q
      simp only [d1, Bool.not_true, wp_bind, wp_ret, wp_chk, wp_ofO, wp_look, wp_new, wp_setO, wp_br, v_var, v_lit, v_glo, v_bin, v_neg, v_cmp, v_cmp2, v_and, v_or, v_not, v_ife, v_tup, v_lst, v_dct0, v_dct, v_ix, v_slc, v_rev, v_bi, v_isi, v_mth, v_call, v_comp, vs_nil, vs_cons, vo_none, vo_some, vc_none, vc_some, vi_val, vi_rng1, vi_rng2, vt_tup, vt_sub, vts_nil, vts_cons, x_asg, x_par, x_aug, x_exp, x_ret, x_retN, x_ifs, x_for, x_whl, x_brk, x_cnt, x_pss, b_nil', b_cons', sq_nx, sq_rt, sq_bk, sq_ct, gv_0, gv_S, wt_0, wt_S, o_add, o_sub, o_mul, o_fdiv, o_mod, o_pow, o_addT, o_mulT, c_lt, c_le, c_gt, c_ge, wp_eq_int, wp_ne_int, n_bl, n_int, bi_int, bi_len, bi_tuple, bi_list, it_tup, r_tup, r_ref, ix_tup, wp_ix_ref, ixR_lst, ixR_dic, wp_set_ref, setR_dic, sl_tup, sl_ref, pk_int, r1_int, ck_bl, rk_rt, rk_nx, wp_mth, m_append, m_pop, Option.some.injEq, exists_eq_left', setAll, List.length_cons, List.length_nil, List.set_cons_succ, List.set_cons_zero, List.length_set, Nat.reduceAdd, Nat.reduceLT, if_true, Nat.zero_add, reduceCtorEq, false_implies, true_implies, eq_self, and_true, true_and, Bool.true_eq_false, Bool.false_eq_true]
      refine wp_for (fun i σ L' => (∃ d, σ = [some (.int n), some (.tup xs), d]) ∧ L' = L ∧ ∀ j x, j < i → xs[j]? = some x → inB (-1) (n - 1) x = true) ⟨⟨none, rfl⟩, rfl, fun j x hj => by omega⟩ ?_ ?_
      · rintro i σ L' hi0 ⟨⟨d, rfl⟩, rfl, hb⟩
        have hi : i < xs.length := hi0
        have gx : xs[i]? = some xs[i] := List.getElem?_eq_getElem hi
        refine ⟨xs[i], gx, ?_⟩
        simp only [pm0, n_int, wp_bind, wp_ret, wp_chk, wp_ofO, wp_look, wp_new, wp_setO, wp_br, v_var, v_lit, v_glo, v_bin, v_neg, v_cmp, v_cmp2, v_and, v_or, v_not, v_ife, v_tup, v_lst, v_dct0, v_dct, v_ix, v_slc, v_rev, v_bi, v_isi, v_mth, v_call, v_comp, vs_nil, vs_cons, vo_none, vo_some, vc_none, vc_some, vi_val, vi_rng1, vi_rng2, vt_tup, vt_sub, vts_nil, vts_cons, x_asg, x_par, x_aug, x_exp, x_ret, x_retN, x_ifs, x_for, x_whl, x_brk, x_cnt, x_pss, b_nil', b_cons', sq_nx, sq_rt, sq_bk, sq_ct, gv_0, gv_S, wt_0, wt_S, o_add, o_sub, o_mul, o_fdiv, o_mod, o_pow, o_addT, o_mulT, c_lt, c_le, c_gt, c_ge, wp_eq_int, wp_ne_int, n_bl, n_int, bi_int, bi_len, bi_tuple, bi_list, it_tup, r_tup, r_ref, ix_tup, wp_ix_ref, ixR_lst, ixR_dic, wp_set_ref, setR_dic, sl_tup, sl_ref, pk_int, r1_int, ck_bl, rk_rt, rk_nx, wp_mth, m_append, m_pop, Option.some.injEq, exists_eq_left', setAll, List.length_cons, List.length_nil, List.set_cons_succ, List.set_cons_zero, List.length_set, Nat.reduceAdd, Nat.reduceLT, if_true, Nat.zero_add, reduceCtorEq, false_implies, true_implies, eq_self, and_true, true_and, Bool.true_eq_false, Bool.false_eq_true]
        refine l_is_integer_ok (hx _ (List.getElem_mem hi)) ?_
        have no : inB (-1) (n - 1) xs[i] = false → Q (.bl false) L' := fun z => by
          have e : xs.all (inB (-1) (n - 1)) = false := by
            rw [Bool.eq_false_iff]
            intro c
            have := List.all_eq_true.mp c _ (List.getElem_mem hi)
            rw [z] at this
            cases this
          rw [e] at q
          exact q
        have yes : inB (-1) (n - 1) xs[i] = true → ∀ j x, j < i + 1 → xs[j]? = some x → inB (-1) (n - 1) x = true := fun z j x hj e => by
          by_cases c : j = i
          · subst c
            rw [gx] at e
            cases e
            exact z
          · exact hb j x (by omega) e
        cases ex : xs[i] with
        | int z =>
          rw [ex] at no yes
          have ei : inB (-1) (n - 1) (.int z) = (decide (-1 ≤ z) && decide (z ≤ n - 1)) := rfl
          rw [ei] at no yes
          simp only [isInt, Bool.not_true, wp_bind, wp_ret, wp_chk, wp_ofO, wp_look, wp_new, wp_setO, wp_br, v_var, v_lit, v_glo, v_bin, v_neg, v_cmp, v_cmp2, v_and, v_or, v_not, v_ife, v_tup, v_lst, v_dct0, v_dct, v_ix, v_slc, v_rev, v_bi, v_isi, v_mth, v_call, v_comp, vs_nil, vs_cons, vo_none, vo_some, vc_none, vc_some, vi_val, vi_rng1, vi_rng2, vt_tup, vt_sub, vts_nil, vts_cons, x_asg, x_par, x_aug, x_exp, x_ret, x_retN, x_ifs, x_for, x_whl, x_brk, x_cnt, x_pss, b_nil', b_cons', sq_nx, sq_rt, sq_bk, sq_ct, gv_0, gv_S, wt_0, wt_S, o_add, o_sub, o_mul, o_fdiv, o_mod, o_pow, o_addT, o_mulT, c_lt, c_le, c_gt, c_ge, wp_eq_int, wp_ne_int, n_bl, n_int, bi_int, bi_len, bi_tuple, bi_list, it_tup, r_tup, r_ref, ix_tup, wp_ix_ref, ixR_lst, ixR_dic, wp_set_ref, setR_dic, sl_tup, sl_ref, pk_int, r1_int, ck_bl, rk_rt, rk_nx, wp_mth, m_append, m_pop, Option.some.injEq, exists_eq_left', setAll, List.length_cons, List.length_nil, List.set_cons_succ, List.set_cons_zero, List.length_set, Nat.reduceAdd, Nat.reduceLT, if_true, Nat.zero_add, reduceCtorEq, false_implies, true_implies, eq_self, and_true, true_and, Bool.true_eq_false, Bool.false_eq_true]
          by_cases c1 : z < -1
          · have a1 : decide (z < -1) = true := decide_eq_true c1
            simp only [a1, turnQ, wp_bind, wp_ret, wp_chk, wp_ofO, wp_look, wp_new, wp_setO, wp_br, v_var, v_lit, v_glo, v_bin, v_neg, v_cmp, v_cmp2, v_and, v_or, v_not, v_ife, v_tup, v_lst, v_dct0, v_dct, v_ix, v_slc, v_rev, v_bi, v_isi, v_mth, v_call, v_comp, vs_nil, vs_cons, vo_none, vo_some, vc_none, vc_some, vi_val, vi_rng1, vi_rng2, vt_tup, vt_sub, vts_nil, vts_cons, x_asg, x_par, x_aug, x_exp, x_ret, x_retN, x_ifs, x_for, x_whl, x_brk, x_cnt, x_pss, b_nil', b_cons', sq_nx, sq_rt, sq_bk, sq_ct, gv_0, gv_S, wt_0, wt_S, o_add, o_sub, o_mul, o_fdiv, o_mod, o_pow, o_addT, o_mulT, c_lt, c_le, c_gt, c_ge, wp_eq_int, wp_ne_int, n_bl, n_int, bi_int, bi_len, bi_tuple, bi_list, it_tup, r_tup, r_ref, ix_tup, wp_ix_ref, ixR_lst, ixR_dic, wp_set_ref, setR_dic, sl_tup, sl_ref, pk_int, r1_int, ck_bl, rk_rt, rk_nx, wp_mth, m_append, m_pop, Option.some.injEq, exists_eq_left', setAll, List.length_cons, List.length_nil, List.set_cons_succ, List.set_cons_zero, List.length_set, Nat.reduceAdd, Nat.reduceLT, if_true, Nat.zero_add, reduceCtorEq, false_implies, true_implies, eq_self, and_true, true_and, Bool.true_eq_false, Bool.false_eq_true]
            exact no (by rw [decide_eq_false (by omega : ¬ -1 ≤ z)]; rfl)
          · have a1 : decide (z < -1) = false := decide_eq_false c1
            simp only [a1, wp_bind, wp_ret, wp_chk, wp_ofO, wp_look, wp_new, wp_setO, wp_br, v_var, v_lit, v_glo, v_bin, v_neg, v_cmp, v_cmp2, v_and, v_or, v_not, v_ife, v_tup, v_lst, v_dct0, v_dct, v_ix, v_slc, v_rev, v_bi, v_isi, v_mth, v_call, v_comp, vs_nil, vs_cons, vo_none, vo_some, vc_none, vc_some, vi_val, vi_rng1, vi_rng2, vt_tup, vt_sub, vts_nil, vts_cons, x_asg, x_par, x_aug, x_exp, x_ret, x_retN, x_ifs, x_for, x_whl, x_brk, x_cnt, x_pss, b_nil', b_cons', sq_nx, sq_rt, sq_bk, sq_ct, gv_0, gv_S, wt_0, wt_S, o_add, o_sub, o_mul, o_fdiv, o_mod, o_pow, o_addT, o_mulT, c_lt, c_le, c_gt, c_ge, wp_eq_int, wp_ne_int, n_bl, n_int, bi_int, bi_len, bi_tuple, bi_list, it_tup, r_tup, r_ref, ix_tup, wp_ix_ref, ixR_lst, ixR_dic, wp_set_ref, setR_dic, sl_tup, sl_ref, pk_int, r1_int, ck_bl, rk_rt, rk_nx, wp_mth, m_append, m_pop, Option.some.injEq, exists_eq_left', setAll, List.length_cons, List.length_nil, List.set_cons_succ, List.set_cons_zero, List.length_set, Nat.reduceAdd, Nat.reduceLT, if_true, Nat.zero_add, reduceCtorEq, false_implies, true_implies, eq_self, and_true, true_and, Bool.true_eq_false, Bool.false_eq_true]
            by_cases c2 : n ≤ z
            · have a2 : decide (n ≤ z) = true := decide_eq_true c2
              simp only [a2, turnQ, wp_bind, wp_ret, wp_chk, wp_ofO, wp_look, wp_new, wp_setO, wp_br, v_var, v_lit, v_glo, v_bin, v_neg, v_cmp, v_cmp2, v_and, v_or, v_not, v_ife, v_tup, v_lst, v_dct0, v_dct, v_ix, v_slc, v_rev, v_bi, v_isi, v_mth, v_call, v_comp, vs_nil, vs_cons, vo_none, vo_some, vc_none, vc_some, vi_val, vi_rng1, vi_rng2, vt_tup, vt_sub, vts_nil, vts_cons, x_asg, x_par, x_aug, x_exp, x_ret, x_retN, x_ifs, x_for, x_whl, x_brk, x_cnt, x_pss, b_nil', b_cons', sq_nx, sq_rt, sq_bk, sq_ct, gv_0, gv_S, wt_0, wt_S, o_add, o_sub, o_mul, o_fdiv, o_mod, o_pow, o_addT, o_mulT, c_lt, c_le, c_gt, c_ge, wp_eq_int, wp_ne_int, n_bl, n_int, bi_int, bi_len, bi_tuple, bi_list, it_tup, r_tup, r_ref, ix_tup, wp_ix_ref, ixR_lst, ixR_dic, wp_set_ref, setR_dic, sl_tup, sl_ref, pk_int, r1_int, ck_bl, rk_rt, rk_nx, wp_mth, m_append, m_pop, Option.some.injEq, exists_eq_left', setAll, List.length_cons, List.length_nil, List.set_cons_succ, List.set_cons_zero, List.length_set, Nat.reduceAdd, Nat.reduceLT, if_true, Nat.zero_add, reduceCtorEq, false_implies, true_implies, eq_self, and_true, true_and, Bool.true_eq_false, Bool.false_eq_true]
              exact no (by rw [decide_eq_false (by omega : ¬ z ≤ n - 1), Bool.and_false])
            · have a2 : decide (n ≤ z) = false := decide_eq_false c2
              simp only [a2, turnQ, wp_bind, wp_ret, wp_chk, wp_ofO, wp_look, wp_new, wp_setO, wp_br, v_var, v_lit, v_glo, v_bin, v_neg, v_cmp, v_cmp2, v_and, v_or, v_not, v_ife, v_tup, v_lst, v_dct0, v_dct, v_ix, v_slc, v_rev, v_bi, v_isi, v_mth, v_call, v_comp, vs_nil, vs_cons, vo_none, vo_some, vc_none, vc_some, vi_val, vi_rng1, vi_rng2, vt_tup, vt_sub, vts_nil, vts_cons, x_asg, x_par, x_aug, x_exp, x_ret, x_retN, x_ifs, x_for, x_whl, x_brk, x_cnt, x_pss, b_nil', b_cons', sq_nx, sq_rt, sq_bk, sq_ct, gv_0, gv_S, wt_0, wt_S, o_add, o_sub, o_mul, o_fdiv, o_mod, o_pow, o_addT, o_mulT, c_lt, c_le, c_gt, c_ge, wp_eq_int, wp_ne_int, n_bl, n_int, bi_int, bi_len, bi_tuple, bi_list, it_tup, r_tup, r_ref, ix_tup, wp_ix_ref, ixR_lst, ixR_dic, wp_set_ref, setR_dic, sl_tup, sl_ref, pk_int, r1_int, ck_bl, rk_rt, rk_nx, wp_mth, m_append, m_pop, Option.some.injEq, exists_eq_left', setAll, List.length_cons, List.length_nil, List.set_cons_succ, List.set_cons_zero, List.length_set, Nat.reduceAdd, Nat.reduceLT, if_true, Nat.zero_add, reduceCtorEq, false_implies, true_implies, eq_self, and_true, true_and, Bool.true_eq_false, Bool.false_eq_true]
              exact ⟨⟨_, rfl⟩, yes (by rw [decide_eq_true (by omega : -1 ≤ z), decide_eq_true (by omega : z ≤ n - 1)]; rfl)⟩
        | _ =>
          rw [ex] at no
          simp only [isInt, Bool.not_false, turnQ, wp_bind, wp_ret, wp_chk, wp_ofO, wp_look, wp_new, wp_setO, wp_br, v_var, v_lit, v_glo, v_bin, v_neg, v_cmp, v_cmp2, v_and, v_or, v_not, v_ife, v_tup, v_lst, v_dct0, v_dct, v_ix, v_slc, v_rev, v_bi, v_isi, v_mth, v_call, v_comp, vs_nil, vs_cons, vo_none, vo_some, vc_none, vc_some, vi_val, vi_rng1, vi_rng2, vt_tup, vt_sub, vts_nil, vts_cons, x_asg, x_par, x_aug, x_exp, x_ret, x_retN, x_ifs, x_for, x_whl, x_brk, x_cnt, x_pss, b_nil', b_cons', sq_nx, sq_rt, sq_bk, sq_ct, gv_0, gv_S, wt_0, wt_S, o_add, o_sub, o_mul, o_fdiv, o_mod, o_pow, o_addT, o_mulT, c_lt, c_le, c_gt, c_ge, wp_eq_int, wp_ne_int, n_bl, n_int, bi_int, bi_len, bi_tuple, bi_list, it_tup, r_tup, r_ref, ix_tup, wp_ix_ref, ixR_lst, ixR_dic, wp_set_ref, setR_dic, sl_tup, sl_ref, pk_int, r1_int, ck_bl, rk_rt, rk_nx, wp_mth, m_append, m_pop, Option.some.injEq, exists_eq_left', setAll, List.length_cons, List.length_nil, List.set_cons_succ, List.set_cons_zero, List.length_set, Nat.reduceAdd, Nat.reduceLT, if_true, Nat.zero_add, reduceCtorEq, false_implies, true_implies, eq_self, and_true, true_and, Bool.true_eq_false, Bool.false_eq_true]
          exact no rfl
      · rintro σ L' ⟨⟨d, rfl⟩, rfl, hb⟩
        refine ⟨rfl, ?_⟩
        simp only [wp_bind, wp_ret, wp_chk, wp_ofO, wp_look, wp_new, wp_setO, wp_br, v_var, v_lit, v_glo, v_bin, v_neg, v_cmp, v_cmp2, v_and, v_or, v_not, v_ife, v_tup, v_lst, v_dct0, v_dct, v_ix, v_slc, v_rev, v_bi, v_isi, v_mth, v_call, v_comp, vs_nil, vs_cons, vo_none, vo_some, vc_none, vc_some, vi_val, vi_rng1, vi_rng2, vt_tup, vt_sub, vts_nil, vts_cons, x_asg, x_par, x_aug, x_exp, x_ret, x_retN, x_ifs, x_for, x_whl, x_brk, x_cnt, x_pss, b_nil', b_cons', sq_nx, sq_rt, sq_bk, sq_ct, gv_0, gv_S, wt_0, wt_S, o_add, o_sub, o_mul, o_fdiv, o_mod, o_pow, o_addT, o_mulT, c_lt, c_le, c_gt, c_ge, wp_eq_int, wp_ne_int, n_bl, n_int, bi_int, bi_len, bi_tuple, bi_list, it_tup, r_tup, r_ref, ix_tup, wp_ix_ref, ixR_lst, ixR_dic, wp_set_ref, setR_dic, sl_tup, sl_ref, pk_int, r1_int, ck_bl, rk_rt, rk_nx, wp_mth, m_append, m_pop, Option.some.injEq, exists_eq_left', setAll, List.length_cons, List.length_nil, List.set_cons_succ, List.set_cons_zero, List.length_set, Nat.reduceAdd, Nat.reduceLT, if_true, Nat.zero_add, reduceCtorEq, false_implies, true_implies, eq_self, and_true, true_and, Bool.true_eq_false, Bool.false_eq_true]
        have e : xs.all (inB (-1) (n - 1)) = true := by
          rw [List.all_eq_true]
          intro x hxm
          obtain ⟨j, hj, e⟩ := List.getElem_of_mem hxm
          exact hb j x hj (by rw [List.getElem?_eq_getElem hj, e])
        rw [e] at q
        exact q
    · have d1 : decide ((xs.length : Int) = n) = false := decide_eq_false hl
      simp only [d1, Bool.not_false, wp_bind, wp_ret, wp_chk, wp_ofO, wp_look, wp_new, wp_setO, wp_br, v_var, v_lit, v_glo, v_bin, v_neg, v_cmp, v_cmp2, v_and, v_or, v_not, v_ife, v_tup, v_lst, v_dct0, v_dct, v_ix, v_slc, v_rev, v_bi, v_isi, v_mth, v_call, v_comp, vs_nil, vs_cons, vo_none, vo_some, vc_none, vc_some, vi_val, vi_rng1, vi_rng2, vt_tup, vt_sub, vts_nil, vts_cons, x_asg, x_par, x_aug, x_exp, x_ret, x_retN, x_ifs, x_for, x_whl, x_brk, x_cnt, x_pss, b_nil', b_cons', sq_nx, sq_rt, sq_bk, sq_ct, gv_0, gv_S, wt_0, wt_S, o_add, o_sub, o_mul, o_fdiv, o_mod, o_pow, o_addT, o_mulT, c_lt, c_le, c_gt, c_ge, wp_eq_int, wp_ne_int, n_bl, n_int, bi_int, bi_len, bi_tuple, bi_list, it_tup, r_tup, r_ref, ix_tup, wp_ix_ref, ixR_lst, ixR_dic, wp_set_ref, setR_dic, sl_tup, sl_ref, pk_int, r1_int, ck_bl, rk_rt, rk_nx, wp_mth, m_append, m_pop, Option.some.injEq, exists_eq_left', setAll, List.length_cons, List.length_nil, List.set_cons_succ, List.set_cons_zero, List.length_set, Nat.reduceAdd, Nat.reduceLT, if_true, Nat.zero_add, reduceCtorEq, false_implies, true_implies, eq_self, and_true, true_and, Bool.true_eq_false, Bool.false_eq_true]
      rw [eT, d1] at q
      exact q
  | _ =>
    simp only [isTup, Bool.not_false, wp_bind, wp_ret, wp_chk, wp_ofO, wp_look, wp_new, wp_setO, wp_br, v_var, v_lit, v_glo, v_bin, v_neg, v_cmp, v_cmp2, v_and, v_or, v_not, v_ife, v_tup, v_lst, v_dct0, v_dct, v_ix, v_slc, v_rev, v_bi, v_isi, v_mth, v_call, v_comp, vs_nil, vs_cons, vo_none, vo_some, vc_none, vc_some, vi_val, vi_rng1, vi_rng2, vt_tup, vt_sub, vts_nil, vts_cons, x_asg, x_par, x_aug, x_exp, x_ret, x_retN, x_ifs, x_for, x_whl, x_brk, x_cnt, x_pss, b_nil', b_cons', sq_nx, sq_rt, sq_bk, sq_ct, gv_0, gv_S, wt_0, wt_S, o_add, o_sub, o_mul, o_fdiv, o_mod, o_pow, o_addT, o_mulT, c_lt, c_le, c_gt, c_ge, wp_eq_int, wp_ne_int, n_bl, n_int, bi_int, bi_len, bi_tuple, bi_list, it_tup, r_tup, r_ref, ix_tup, wp_ix_ref, ixR_lst, ixR_dic, wp_set_ref, setR_dic, sl_tup, sl_ref, pk_int, r1_int, ck_bl, rk_rt, rk_nx, wp_mth, m_append, m_pop, Option.some.injEq, exists_eq_left', setAll, List.length_cons, List.length_nil, List.set_cons_succ, List.set_cons_zero, List.length_set, Nat.reduceAdd, Nat.reduceLT, if_true, Nat.zero_add, reduceCtorEq, false_implies, true_implies, eq_self, and_true, true_and, Bool.true_eq_false, Bool.false_eq_true]
    exact q
end K35


namespace K35
open PySem Mv
/-- a value whose kind can be asked, and so its items, some levels down -/
def Nice : Nat → LH → LV → Prop
  | 0, L, v => okV L v
  | n + 1, L, v => okV L v ∧ ∀ xs, v = .tup xs → xs.length < sizeLine ∧ ∀ x ∈ xs, Nice n L x
theorem Nice.ok : ∀ {n : Nat} {L : LH} {v : LV}, Nice n L v → okV L v
  | 0, _, _, h => h
  | _ + 1, _, _, h => h.1
theorem Nice.grow : ∀ {n : Nat} {L L' : LH} {v : LV}, Nice n L v → Grow L L' → Nice n L' v
  | 0, _, _, _, h, g => okV.grow h g
  | n + 1, _, _, _, h, g => ⟨okV.grow h.1 g, fun xs e => ⟨(h.2 xs e).1, fun x hx => Nice.grow ((h.2 xs e).2 x hx) g⟩⟩
theorem Nice.tab {L : LH} {v : LV} (h : Nice 1 L v) : ∀ xs, v = .tup xs → xs.length < sizeLine ∧ ∀ x ∈ xs, okV L x := h.2
def tabsOk (s p w : Int) (ts : List LV) : Bool := !decide (itemsF s p w.toNat = 0) && (decide (1 ≤ (ts.length : Int)) && decide ((ts.length : Int) ≤ 12)) && ts.all (isTab (itemsF s p w.toNat))
def isSweep (s : Int) : LV → Bool
  | .tup [a, .int p, .int w, .tup ts] => isWay a && (decide (1 ≤ p) && decide (1 ≤ w)) && tabsOk s p w ts
  | _ => false
def sweepTail : List IS := f_is_sweep.body.drop 3
theorem sweep_tail {k : Nat} {s p w : Int} {v a t : LV} {L : LH} {Q : LV → LH → Prop} (hs : 1 < s ∧ s < 100) (hp : 1 ≤ p) (hw : 1 ≤ w) (h : Nice 2 L t) (q : ∀ L', Grow L L' → Q (.bl (match t with
    | .tup ts => tabsOk s p w ts
    | _ => false)) L') :
    wp (evB (run prog (k + 3)) sweepTail [some (.int s), some v, some a, some (.int p), some (.int w), some t, none, none]) L fun r L1 => wp (retK r) L1 Q := by
  simp only [sweepTail, f_is_sweep, List.drop_succ_cons, List.drop_zero, pm012, wp_bind, wp_ret, wp_chk, wp_ofO, wp_look, wp_new, wp_setO, wp_br, v_var, v_lit, v_glo, v_bin, v_neg, v_cmp, v_cmp2, v_and, v_or, v_not, v_ife, v_tup, v_lst, v_dct0, v_dct, v_ix, v_slc, v_rev, v_bi, v_isi, v_mth, v_call, v_comp, vs_nil, vs_cons, vo_none, vo_some, vc_none, vc_some, vi_val, vi_rng1, vi_rng2, vt_tup, vt_sub, vts_nil, vts_cons, x_asg, x_par, x_aug, x_exp, x_ret, x_retN, x_ifs, x_for, x_whl, x_brk, x_cnt, x_pss, b_nil', b_cons', sq_nx, sq_rt, sq_bk, sq_ct, gv_0, gv_S, wt_0, wt_S, o_add, o_sub, o_mul, o_fdiv, o_mod, o_pow, o_addT, o_mulT, c_lt, c_le, c_gt, c_ge, wp_eq_int, wp_ne_int, n_bl, n_int, bi_int, bi_len, bi_tuple, bi_list, it_tup, r_tup, r_ref, ix_tup, wp_ix_ref, ixR_lst, ixR_dic, wp_set_ref, setR_dic, sl_tup, sl_ref, pk_int, r1_int, ck_bl, rk_rt, rk_nx, wp_mth, m_append, m_pop, Option.some.injEq, exists_eq_left', setAll, List.length_cons, List.length_nil, List.set_cons_succ, List.set_cons_zero, List.length_set, Nat.reduceAdd, Nat.reduceLT, if_true, Nat.zero_add, reduceCtorEq, false_implies, true_implies, eq_self, and_true, true_and, Bool.true_eq_false, Bool.false_eq_true]
  refine items_of_ok hs hp hw ?_
  simp only [wp_bind, wp_ret, wp_chk, wp_ofO, wp_look, wp_new, wp_setO, wp_br, v_var, v_lit, v_glo, v_bin, v_neg, v_cmp, v_cmp2, v_and, v_or, v_not, v_ife, v_tup, v_lst, v_dct0, v_dct, v_ix, v_slc, v_rev, v_bi, v_isi, v_mth, v_call, v_comp, vs_nil, vs_cons, vo_none, vo_some, vc_none, vc_some, vi_val, vi_rng1, vi_rng2, vt_tup, vt_sub, vts_nil, vts_cons, x_asg, x_par, x_aug, x_exp, x_ret, x_retN, x_ifs, x_for, x_whl, x_brk, x_cnt, x_pss, b_nil', b_cons', sq_nx, sq_rt, sq_bk, sq_ct, gv_0, gv_S, wt_0, wt_S, o_add, o_sub, o_mul, o_fdiv, o_mod, o_pow, o_addT, o_mulT, c_lt, c_le, c_gt, c_ge, wp_eq_int, wp_ne_int, n_bl, n_int, bi_int, bi_len, bi_tuple, bi_list, it_tup, r_tup, r_ref, ix_tup, wp_ix_ref, ixR_lst, ixR_dic, wp_set_ref, setR_dic, sl_tup, sl_ref, pk_int, r1_int, ck_bl, rk_rt, rk_nx, wp_mth, m_append, m_pop, Option.some.injEq, exists_eq_left', setAll, List.length_cons, List.length_nil, List.set_cons_succ, List.set_cons_zero, List.length_set, Nat.reduceAdd, Nat.reduceLT, if_true, Nat.zero_add, reduceCtorEq, false_implies, true_implies, eq_self, and_true, true_and, Bool.true_eq_false, Bool.false_eq_true]
  generalize hn : itemsF s p w.toNat = n at q
  by_cases c0 : n = 0
  · have d0 : decide (n = 0) = true := decide_eq_true c0
    simp only [d0, wp_bind, wp_ret, wp_chk, wp_ofO, wp_look, wp_new, wp_setO, wp_br, v_var, v_lit, v_glo, v_bin, v_neg, v_cmp, v_cmp2, v_and, v_or, v_not, v_ife, v_tup, v_lst, v_dct0, v_dct, v_ix, v_slc, v_rev, v_bi, v_isi, v_mth, v_call, v_comp, vs_nil, vs_cons, vo_none, vo_some, vc_none, vc_some, vi_val, vi_rng1, vi_rng2, vt_tup, vt_sub, vts_nil, vts_cons, x_asg, x_par, x_aug, x_exp, x_ret, x_retN, x_ifs, x_for, x_whl, x_brk, x_cnt, x_pss, b_nil', b_cons', sq_nx, sq_rt, sq_bk, sq_ct, gv_0, gv_S, wt_0, wt_S, o_add, o_sub, o_mul, o_fdiv, o_mod, o_pow, o_addT, o_mulT, c_lt, c_le, c_gt, c_ge, wp_eq_int, wp_ne_int, n_bl, n_int, bi_int, bi_len, bi_tuple, bi_list, it_tup, r_tup, r_ref, ix_tup, wp_ix_ref, ixR_lst, ixR_dic, wp_set_ref, setR_dic, sl_tup, sl_ref, pk_int, r1_int, ck_bl, rk_rt, rk_nx, wp_mth, m_append, m_pop, Option.some.injEq, exists_eq_left', setAll, List.length_cons, List.length_nil, List.set_cons_succ, List.set_cons_zero, List.length_set, Nat.reduceAdd, Nat.reduceLT, if_true, Nat.zero_add, reduceCtorEq, false_implies, true_implies, eq_self, and_true, true_and, Bool.true_eq_false, Bool.false_eq_true]
    have q := q L (Grow.refl L)
    cases t with
    | tup ts =>
      have e : tabsOk s p w ts = false := by unfold tabsOk; rw [hn, d0]; rfl
      dsimp only at q
      rw [e] at q
      exact q
    | _ => exact q
  · have d0 : decide (n = 0) = false := decide_eq_false c0
    simp only [d0, wp_bind, wp_ret, wp_chk, wp_ofO, wp_look, wp_new, wp_setO, wp_br, v_var, v_lit, v_glo, v_bin, v_neg, v_cmp, v_cmp2, v_and, v_or, v_not, v_ife, v_tup, v_lst, v_dct0, v_dct, v_ix, v_slc, v_rev, v_bi, v_isi, v_mth, v_call, v_comp, vs_nil, vs_cons, vo_none, vo_some, vc_none, vc_some, vi_val, vi_rng1, vi_rng2, vt_tup, vt_sub, vts_nil, vts_cons, x_asg, x_par, x_aug, x_exp, x_ret, x_retN, x_ifs, x_for, x_whl, x_brk, x_cnt, x_pss, b_nil', b_cons', sq_nx, sq_rt, sq_bk, sq_ct, gv_0, gv_S, wt_0, wt_S, o_add, o_sub, o_mul, o_fdiv, o_mod, o_pow, o_addT, o_mulT, c_lt, c_le, c_gt, c_ge, wp_eq_int, wp_ne_int, n_bl, n_int, bi_int, bi_len, bi_tuple, bi_list, it_tup, r_tup, r_ref, ix_tup, wp_ix_ref, ixR_lst, ixR_dic, wp_set_ref, setR_dic, sl_tup, sl_ref, pk_int, r1_int, ck_bl, rk_rt, rk_nx, wp_mth, m_append, m_pop, Option.some.injEq, exists_eq_left', setAll, List.length_cons, List.length_nil, List.set_cons_succ, List.set_cons_zero, List.length_set, Nat.reduceAdd, Nat.reduceLT, if_true, Nat.zero_add, reduceCtorEq, false_implies, true_implies, eq_self, and_true, true_and, Bool.true_eq_false, Bool.false_eq_true]
    refine isi_t h.ok ?_
    cases t with
    | tup ts =>
      obtain ⟨hz, hx⟩ := h.2 ts rfl
      have eT : tabsOk s p w ts = ((decide (1 ≤ (ts.length : Int)) && decide ((ts.length : Int) ≤ 12)) && ts.all (isTab n)) := by unfold tabsOk; rw [hn, d0]; rfl
      dsimp only at q
      rw [eT] at q
      simp only [isTup, Bool.not_true, len_tup, wp_bind, wp_ret, wp_chk, wp_ofO, wp_look, wp_new, wp_setO, wp_br, v_var, v_lit, v_glo, v_bin, v_neg, v_cmp, v_cmp2, v_and, v_or, v_not, v_ife, v_tup, v_lst, v_dct0, v_dct, v_ix, v_slc, v_rev, v_bi, v_isi, v_mth, v_call, v_comp, vs_nil, vs_cons, vo_none, vo_some, vc_none, vc_some, vi_val, vi_rng1, vi_rng2, vt_tup, vt_sub, vts_nil, vts_cons, x_asg, x_par, x_aug, x_exp, x_ret, x_retN, x_ifs, x_for, x_whl, x_brk, x_cnt, x_pss, b_nil', b_cons', sq_nx, sq_rt, sq_bk, sq_ct, gv_0, gv_S, wt_0, wt_S, o_add, o_sub, o_mul, o_fdiv, o_mod, o_pow, o_addT, o_mulT, c_lt, c_le, c_gt, c_ge, wp_eq_int, wp_ne_int, n_bl, n_int, bi_int, bi_len, bi_tuple, bi_list, it_tup, r_tup, r_ref, ix_tup, wp_ix_ref, ixR_lst, ixR_dic, wp_set_ref, setR_dic, sl_tup, sl_ref, pk_int, r1_int, ck_bl, rk_rt, rk_nx, wp_mth, m_append, m_pop, Option.some.injEq, exists_eq_left', setAll, List.length_cons, List.length_nil, List.set_cons_succ, List.set_cons_zero, List.length_set, Nat.reduceAdd, Nat.reduceLT, if_true, Nat.zero_add, reduceCtorEq, false_implies, true_implies, eq_self, and_true, true_and, Bool.true_eq_false, Bool.false_eq_true]
      by_cases c1 : 1 ≤ (ts.length : Int)
      · have d1 : decide (1 ≤ (ts.length : Int)) = true := decide_eq_true c1
        by_cases c2 : (ts.length : Int) ≤ 12
        · have d2 : decide ((ts.length : Int) ≤ 12) = true := decide_eq_true c2
          rw [d1, d2, Bool.true_and, Bool.true_and] at q
          simp only [d1, d2, Bool.not_true, wp_bind, wp_ret, wp_chk, wp_ofO, wp_look, wp_new, wp_setO, wp_br, v_var, v_lit, v_glo, v_bin, v_neg, v_cmp, v_cmp2, v_and, v_or, v_not, v_ife, v_tup, v_lst, v_dct0, v_dct, v_ix, v_slc, v_rev, v_bi, v_isi, v_mth, v_call, v_comp, vs_nil, vs_cons, vo_none, vo_some, vc_none, vc_some, vi_val, vi_rng1, vi_rng2, vt_tup, vt_sub, vts_nil, vts_cons, x_asg, x_par, x_aug, x_exp, x_ret, x_retN, x_ifs, x_for, x_whl, x_brk, x_cnt, x_pss, b_nil', b_cons', sq_nx, sq_rt, sq_bk, sq_ct, gv_0, gv_S, wt_0, wt_S, o_add, o_sub, o_mul, o_fdiv, o_mod, o_pow, o_addT, o_mulT, c_lt, c_le, c_gt, c_ge, wp_eq_int, wp_ne_int, n_bl, n_int, bi_int, bi_len, bi_tuple, bi_list, it_tup, r_tup, r_ref, ix_tup, wp_ix_ref, ixR_lst, ixR_dic, wp_set_ref, setR_dic, sl_tup, sl_ref, pk_int, r1_int, ck_bl, rk_rt, rk_nx, wp_mth, m_append, m_pop, Option.some.injEq, exists_eq_left', setAll, List.length_cons, List.length_nil, List.set_cons_succ, List.set_cons_zero, List.length_set, Nat.reduceAdd, Nat.reduceLT, if_true, Nat.zero_add, reduceCtorEq, false_implies, true_implies, eq_self, and_true, true_and, Bool.true_eq_false, Bool.false_eq_true]
          rw [← wp_new (Q := fun a L1 => wp (compK _ _ a) L1 _), ← wp_bind]
          refine wp_comp (fun i ys L' => ys = (ts.take i).map (fun x => LV.bl (isTab n x)) ∧ Grow L L') ⟨rfl, ⟨_, rfl⟩⟩ ?_ ?_
          · rintro i ys L' hi eD ⟨rfl, g⟩
            have hi2 : i < ts.length := hi
            have gx : ts[i]? = some ts[i] := List.getElem?_eq_getElem hi2
            have nx := (hx _ (List.getElem_mem hi2)).grow g
            refine ⟨ts[i], gx, ?_⟩
            simp only [turnC, wipeL, wp_if, pm01, wp_bind, wp_ret, wp_chk, wp_ofO, wp_look, wp_new, wp_setO, wp_br, v_var, v_lit, v_glo, v_bin, v_neg, v_cmp, v_cmp2, v_and, v_or, v_not, v_ife, v_tup, v_lst, v_dct0, v_dct, v_ix, v_slc, v_rev, v_bi, v_isi, v_mth, v_call, v_comp, vs_nil, vs_cons, vo_none, vo_some, vc_none, vc_some, vi_val, vi_rng1, vi_rng2, vt_tup, vt_sub, vts_nil, vts_cons, x_asg, x_par, x_aug, x_exp, x_ret, x_retN, x_ifs, x_for, x_whl, x_brk, x_cnt, x_pss, b_nil', b_cons', sq_nx, sq_rt, sq_bk, sq_ct, gv_0, gv_S, wt_0, wt_S, o_add, o_sub, o_mul, o_fdiv, o_mod, o_pow, o_addT, o_mulT, c_lt, c_le, c_gt, c_ge, wp_eq_int, wp_ne_int, n_bl, n_int, bi_int, bi_len, bi_tuple, bi_list, it_tup, r_tup, r_ref, ix_tup, wp_ix_ref, ixR_lst, ixR_dic, wp_set_ref, setR_dic, sl_tup, sl_ref, pk_int, r1_int, ck_bl, rk_rt, rk_nx, wp_mth, m_append, m_pop, Option.some.injEq, exists_eq_left', setAll, List.length_cons, List.length_nil, List.set_cons_succ, List.set_cons_zero, List.length_set, Nat.reduceAdd, Nat.reduceLT, if_true, Nat.zero_add, reduceCtorEq, false_implies, true_implies, eq_self, and_true, true_and, Bool.true_eq_false, Bool.false_eq_true]
            refine is_table_ok nx.ok nx.tab fun L2 g2 => ?_
            obtain ⟨E, rfl⟩ := g2
            refine ⟨?_, ?_, ?_, ?_⟩
            · rw [List.getElem?_append_left (lt_of eD)]
              exact eD
            · simp only [List.length_map, List.length_take]
              omega
            · rw [take_one gx, List.map_append]
              rfl
            · exact Grow.set (g.trans ⟨_, rfl⟩) (Nat.le_refl _)
          · rintro ys L' eD ⟨rfl, g⟩
            refine ⟨rfl, ?_⟩
            have et : ts.take (Src.fixed ts).len = ts := List.take_of_length_le (Nat.le_refl _)
            refine wp_look.mpr ⟨ts.map (isTab n), ?_, ?_⟩
            · have e := items_lst eD
              rw [e, et]
              exact all_bl _ ts
            · simp only [wp_bind, wp_ret, wp_chk, wp_ofO, wp_look, wp_new, wp_setO, wp_br, v_var, v_lit, v_glo, v_bin, v_neg, v_cmp, v_cmp2, v_and, v_or, v_not, v_ife, v_tup, v_lst, v_dct0, v_dct, v_ix, v_slc, v_rev, v_bi, v_isi, v_mth, v_call, v_comp, vs_nil, vs_cons, vo_none, vo_some, vc_none, vc_some, vi_val, vi_rng1, vi_rng2, vt_tup, vt_sub, vts_nil, vts_cons, x_asg, x_par, x_aug, x_exp, x_ret, x_retN, x_ifs, x_for, x_whl, x_brk, x_cnt, x_pss, b_nil', b_cons', sq_nx, sq_rt, sq_bk, sq_ct, gv_0, gv_S, wt_0, wt_S, o_add, o_sub, o_mul, o_fdiv, o_mod, o_pow, o_addT, o_mulT, c_lt, c_le, c_gt, c_ge, wp_eq_int, wp_ne_int, n_bl, n_int, bi_int, bi_len, bi_tuple, bi_list, it_tup, r_tup, r_ref, ix_tup, wp_ix_ref, ixR_lst, ixR_dic, wp_set_ref, setR_dic, sl_tup, sl_ref, pk_int, r1_int, ck_bl, rk_rt, rk_nx, wp_mth, m_append, m_pop, Option.some.injEq, exists_eq_left', setAll, List.length_cons, List.length_nil, List.set_cons_succ, List.set_cons_zero, List.length_set, Nat.reduceAdd, Nat.reduceLT, if_true, Nat.zero_add, reduceCtorEq, false_implies, true_implies, eq_self, and_true, true_and, Bool.true_eq_false, Bool.false_eq_true]
              have e2 : (ts.map (isTab n)).all id = ts.all (isTab n) := by rw [List.all_map]; rfl
              rw [e2]
              exact q _ g
        · have d2 : decide ((ts.length : Int) ≤ 12) = false := decide_eq_false c2
          rw [d1, d2] at q
          simp only [d1, d2, Bool.not_false, wp_bind, wp_ret, wp_chk, wp_ofO, wp_look, wp_new, wp_setO, wp_br, v_var, v_lit, v_glo, v_bin, v_neg, v_cmp, v_cmp2, v_and, v_or, v_not, v_ife, v_tup, v_lst, v_dct0, v_dct, v_ix, v_slc, v_rev, v_bi, v_isi, v_mth, v_call, v_comp, vs_nil, vs_cons, vo_none, vo_some, vc_none, vc_some, vi_val, vi_rng1, vi_rng2, vt_tup, vt_sub, vts_nil, vts_cons, x_asg, x_par, x_aug, x_exp, x_ret, x_retN, x_ifs, x_for, x_whl, x_brk, x_cnt, x_pss, b_nil', b_cons', sq_nx, sq_rt, sq_bk, sq_ct, gv_0, gv_S, wt_0, wt_S, o_add, o_sub, o_mul, o_fdiv, o_mod, o_pow, o_addT, o_mulT, c_lt, c_le, c_gt, c_ge, wp_eq_int, wp_ne_int, n_bl, n_int, bi_int, bi_len, bi_tuple, bi_list, it_tup, r_tup, r_ref, ix_tup, wp_ix_ref, ixR_lst, ixR_dic, wp_set_ref, setR_dic, sl_tup, sl_ref, pk_int, r1_int, ck_bl, rk_rt, rk_nx, wp_mth, m_append, m_pop, Option.some.injEq, exists_eq_left', setAll, List.length_cons, List.length_nil, List.set_cons_succ, List.set_cons_zero, List.length_set, Nat.reduceAdd, Nat.reduceLT, if_true, Nat.zero_add, reduceCtorEq, false_implies, true_implies, eq_self, and_true, true_and, Bool.true_eq_false, Bool.false_eq_true]
          exact q L (Grow.refl L)
      · have d1 : decide (1 ≤ (ts.length : Int)) = false := decide_eq_false c1
        rw [d1] at q
        simp only [d1, Bool.not_false, wp_bind, wp_ret, wp_chk, wp_ofO, wp_look, wp_new, wp_setO, wp_br, v_var, v_lit, v_glo, v_bin, v_neg, v_cmp, v_cmp2, v_and, v_or, v_not, v_ife, v_tup, v_lst, v_dct0, v_dct, v_ix, v_slc, v_rev, v_bi, v_isi, v_mth, v_call, v_comp, vs_nil, vs_cons, vo_none, vo_some, vc_none, vc_some, vi_val, vi_rng1, vi_rng2, vt_tup, vt_sub, vts_nil, vts_cons, x_asg, x_par, x_aug, x_exp, x_ret, x_retN, x_ifs, x_for, x_whl, x_brk, x_cnt, x_pss, b_nil', b_cons', sq_nx, sq_rt, sq_bk, sq_ct, gv_0, gv_S, wt_0, wt_S, o_add, o_sub, o_mul, o_fdiv, o_mod, o_pow, o_addT, o_mulT, c_lt, c_le, c_gt, c_ge, wp_eq_int, wp_ne_int, n_bl, n_int, bi_int, bi_len, bi_tuple, bi_list, it_tup, r_tup, r_ref, ix_tup, wp_ix_ref, ixR_lst, ixR_dic, wp_set_ref, setR_dic, sl_tup, sl_ref, pk_int, r1_int, ck_bl, rk_rt, rk_nx, wp_mth, m_append, m_pop, Option.some.injEq, exists_eq_left', setAll, List.length_cons, List.length_nil, List.set_cons_succ, List.set_cons_zero, List.length_set, Nat.reduceAdd, Nat.reduceLT, if_true, Nat.zero_add, reduceCtorEq, false_implies, true_implies, eq_self, and_true, true_and, Bool.true_eq_false, Bool.false_eq_true]
        exact q L (Grow.refl L)
    | _ =>
      simp only [isTup, Bool.not_false, wp_bind, wp_ret, wp_chk, wp_ofO, wp_look, wp_new, wp_setO, wp_br, v_var, v_lit, v_glo, v_bin, v_neg, v_cmp, v_cmp2, v_and, v_or, v_not, v_ife, v_tup, v_lst, v_dct0, v_dct, v_ix, v_slc, v_rev, v_bi, v_isi, v_mth, v_call, v_comp, vs_nil, vs_cons, vo_none, vo_some, vc_none, vc_some, vi_val, vi_rng1, vi_rng2, vt_tup, vt_sub, vts_nil, vts_cons, x_asg, x_par, x_aug, x_exp, x_ret, x_retN, x_ifs, x_for, x_whl, x_brk, x_cnt, x_pss, b_nil', b_cons', sq_nx, sq_rt, sq_bk, sq_ct, gv_0, gv_S, wt_0, wt_S, o_add, o_sub, o_mul, o_fdiv, o_mod, o_pow, o_addT, o_mulT, c_lt, c_le, c_gt, c_ge, wp_eq_int, wp_ne_int, n_bl, n_int, bi_int, bi_len, bi_tuple, bi_list, it_tup, r_tup, r_ref, ix_tup, wp_ix_ref, ixR_lst, ixR_dic, wp_set_ref, setR_dic, sl_tup, sl_ref, pk_int, r1_int, ck_bl, rk_rt, rk_nx, wp_mth, m_append, m_pop, Option.some.injEq, exists_eq_left', setAll, List.length_cons, List.length_nil, List.set_cons_succ, List.set_cons_zero, List.length_set, Nat.reduceAdd, Nat.reduceLT, if_true, Nat.zero_add, reduceCtorEq, false_implies, true_implies, eq_self, and_true, true_and, Bool.true_eq_false, Bool.false_eq_true]
      exact q L (Grow.refl L)
end K35


namespace K35
open PySem Mv
theorem isSweep_no {s : Int} {xs : List LV} (h : xs.length ≠ 4) : isSweep s (.tup xs) = false := by
  unfold isSweep
  split
  · rename_i e
    cases e
    exact absurd rfl h
  · rfl
theorem is_sweep_ok {k : Nat} {s : Int} {v : LV} {L : LH} {Q : LV → LH → Prop} (hs : 1 < s ∧ s < 100) (h : Nice 3 L v) (q : ∀ L', Grow L L' → Q (.bl (isSweep s v)) L') : wp (run prog (k + 4) 5 [.int s, v]) L Q := by
  show wp (callFn (run prog (k + 3)) f_is_sweep [.int s, v]) L Q
  rw [call_eq, wp_chk]
  refine ⟨rfl, ?_⟩
  show wp (M.bind (evB _ (f_is_sweep.body.take 3 ++ sweepTail) [some (.int s), some v, none, none, none, none, none, none]) retK) L Q
  rw [b_app]
  simp only [f_is_sweep, List.take_succ_cons, List.take_zero, pm0, wp_bind, wp_ret, wp_chk, wp_ofO, wp_look, wp_new, wp_setO, wp_br, v_var, v_lit, v_glo, v_bin, v_neg, v_cmp, v_cmp2, v_and, v_or, v_not, v_ife, v_tup, v_lst, v_dct0, v_dct, v_ix, v_slc, v_rev, v_bi, v_isi, v_mth, v_call, v_comp, vs_nil, vs_cons, vo_none, vo_some, vc_none, vc_some, vi_val, vi_rng1, vi_rng2, vt_tup, vt_sub, vts_nil, vts_cons, x_asg, x_par, x_aug, x_exp, x_ret, x_retN, x_ifs, x_for, x_whl, x_brk, x_cnt, x_pss, b_nil', b_cons', sq_nx, sq_rt, sq_bk, sq_ct, gv_0, gv_S, wt_0, wt_S, o_add, o_sub, o_mul, o_fdiv, o_mod, o_pow, o_addT, o_mulT, c_lt, c_le, c_gt, c_ge, wp_eq_int, wp_ne_int, n_bl, n_int, bi_int, bi_len, bi_tuple, bi_list, it_tup, r_tup, r_ref, ix_tup, wp_ix_ref, ixR_lst, ixR_dic, wp_set_ref, setR_dic, sl_tup, sl_ref, pk_int, r1_int, ck_bl, rk_rt, rk_nx, wp_mth, m_append, m_pop, Option.some.injEq, exists_eq_left', setAll, List.length_cons, List.length_nil, List.set_cons_succ, List.set_cons_zero, List.length_set, Nat.reduceAdd, Nat.reduceLT, if_true, Nat.zero_add, reduceCtorEq, false_implies, true_implies, eq_self, and_true, true_and, Bool.true_eq_false, Bool.false_eq_true]
  refine isi_t h.ok ?_
  cases v with
  | tup xs =>
    obtain ⟨hz, hx⟩ := h.2 xs rfl
    simp only [isTup, Bool.not_true, len_tup, wp_bind, wp_ret, wp_chk, wp_ofO, wp_look, wp_new, wp_setO, wp_br, v_var, v_lit, v_glo, v_bin, v_neg, v_cmp, v_cmp2, v_and, v_or, v_not, v_ife, v_tup, v_lst, v_dct0, v_dct, v_ix, v_slc, v_rev, v_bi, v_isi, v_mth, v_call, v_comp, vs_nil, vs_cons, vo_none, vo_some, vc_none, vc_some, vi_val, vi_rng1, vi_rng2, vt_tup, vt_sub, vts_nil, vts_cons, x_asg, x_par, x_aug, x_exp, x_ret, x_retN, x_ifs, x_for, x_whl, x_brk, x_cnt, x_pss, b_nil', b_cons', sq_nx, sq_rt, sq_bk, sq_ct, gv_0, gv_S, wt_0, wt_S, o_add, o_sub, o_mul, o_fdiv, o_mod, o_pow, o_addT, o_mulT, c_lt, c_le, c_gt, c_ge, wp_eq_int, wp_ne_int, n_bl, n_int, bi_int, bi_len, bi_tuple, bi_list, it_tup, r_tup, r_ref, ix_tup, wp_ix_ref, ixR_lst, ixR_dic, wp_set_ref, setR_dic, sl_tup, sl_ref, pk_int, r1_int, ck_bl, rk_rt, rk_nx, wp_mth, m_append, m_pop, Option.some.injEq, exists_eq_left', setAll, List.length_cons, List.length_nil, List.set_cons_succ, List.set_cons_zero, List.length_set, Nat.reduceAdd, Nat.reduceLT, if_true, Nat.zero_add, reduceCtorEq, false_implies, true_implies, eq_self, and_true, true_and, Bool.true_eq_false, Bool.false_eq_true]
    by_cases hl : xs.length = 4
    · match xs, hl, hx with
      | [a, b, c, t], _, hx =>
        have na := hx a (by simp)
        have nb := hx b (by simp)
        have nc := hx c (by simp)
        have nt := hx t (by simp)
        have q0 := q L (Grow.refl L)
        simp only [Mv.items, ITs.len, pm0, wp_bind, wp_ret, wp_chk, wp_ofO, wp_look, wp_new, wp_setO, wp_br, v_var, v_lit, v_glo, v_bin, v_neg, v_cmp, v_cmp2, v_and, v_or, v_not, v_ife, v_tup, v_lst, v_dct0, v_dct, v_ix, v_slc, v_rev, v_bi, v_isi, v_mth, v_call, v_comp, vs_nil, vs_cons, vo_none, vo_some, vc_none, vc_some, vi_val, vi_rng1, vi_rng2, vt_tup, vt_sub, vts_nil, vts_cons, x_asg, x_par, x_aug, x_exp, x_ret, x_retN, x_ifs, x_for, x_whl, x_brk, x_cnt, x_pss, b_nil', b_cons', sq_nx, sq_rt, sq_bk, sq_ct, gv_0, gv_S, wt_0, wt_S, o_add, o_sub, o_mul, o_fdiv, o_mod, o_pow, o_addT, o_mulT, c_lt, c_le, c_gt, c_ge, wp_eq_int, wp_ne_int, n_bl, n_int, bi_int, bi_len, bi_tuple, bi_list, it_tup, r_tup, r_ref, ix_tup, wp_ix_ref, ixR_lst, ixR_dic, wp_set_ref, setR_dic, sl_tup, sl_ref, pk_int, r1_int, ck_bl, rk_rt, rk_nx, wp_mth, m_append, m_pop, Option.some.injEq, exists_eq_left', setAll, List.length_cons, List.length_nil, List.set_cons_succ, List.set_cons_zero, List.length_set, Nat.reduceAdd, Nat.reduceLT, if_true, Nat.zero_add, reduceCtorEq, false_implies, true_implies, eq_self, and_true, true_and, Bool.true_eq_false, Bool.false_eq_true]
        have d4 : decide ((((0 + 1 + 1 + 1 + 1 : Nat)) : Int) = 4) = true := by decide
        have d4' : decide (((4 : Nat) : Int) = 4) = true := by decide
        simp only [d4, d4', decide_true, Bool.not_true, wp_bind, wp_ret, wp_chk, wp_ofO, wp_look, wp_new, wp_setO, wp_br, v_var, v_lit, v_glo, v_bin, v_neg, v_cmp, v_cmp2, v_and, v_or, v_not, v_ife, v_tup, v_lst, v_dct0, v_dct, v_ix, v_slc, v_rev, v_bi, v_isi, v_mth, v_call, v_comp, vs_nil, vs_cons, vo_none, vo_some, vc_none, vc_some, vi_val, vi_rng1, vi_rng2, vt_tup, vt_sub, vts_nil, vts_cons, x_asg, x_par, x_aug, x_exp, x_ret, x_retN, x_ifs, x_for, x_whl, x_brk, x_cnt, x_pss, b_nil', b_cons', sq_nx, sq_rt, sq_bk, sq_ct, gv_0, gv_S, wt_0, wt_S, o_add, o_sub, o_mul, o_fdiv, o_mod, o_pow, o_addT, o_mulT, c_lt, c_le, c_gt, c_ge, wp_eq_int, wp_ne_int, n_bl, n_int, bi_int, bi_len, bi_tuple, bi_list, it_tup, r_tup, r_ref, ix_tup, wp_ix_ref, ixR_lst, ixR_dic, wp_set_ref, setR_dic, sl_tup, sl_ref, pk_int, r1_int, ck_bl, rk_rt, rk_nx, wp_mth, m_append, m_pop, Option.some.injEq, exists_eq_left', setAll, List.length_cons, List.length_nil, List.set_cons_succ, List.set_cons_zero, List.length_set, Nat.reduceAdd, Nat.reduceLT, if_true, Nat.zero_add, reduceCtorEq, false_implies, true_implies, eq_self, and_true, true_and, Bool.true_eq_false, Bool.false_eq_true]
        refine is_way_ok na.ok ?_
        simp only [pm0, wp_bind, wp_ret, wp_chk, wp_ofO, wp_look, wp_new, wp_setO, wp_br, v_var, v_lit, v_glo, v_bin, v_neg, v_cmp, v_cmp2, v_and, v_or, v_not, v_ife, v_tup, v_lst, v_dct0, v_dct, v_ix, v_slc, v_rev, v_bi, v_isi, v_mth, v_call, v_comp, vs_nil, vs_cons, vo_none, vo_some, vc_none, vc_some, vi_val, vi_rng1, vi_rng2, vt_tup, vt_sub, vts_nil, vts_cons, x_asg, x_par, x_aug, x_exp, x_ret, x_retN, x_ifs, x_for, x_whl, x_brk, x_cnt, x_pss, b_nil', b_cons', sq_nx, sq_rt, sq_bk, sq_ct, gv_0, gv_S, wt_0, wt_S, o_add, o_sub, o_mul, o_fdiv, o_mod, o_pow, o_addT, o_mulT, c_lt, c_le, c_gt, c_ge, wp_eq_int, wp_ne_int, n_bl, n_int, bi_int, bi_len, bi_tuple, bi_list, it_tup, r_tup, r_ref, ix_tup, wp_ix_ref, ixR_lst, ixR_dic, wp_set_ref, setR_dic, sl_tup, sl_ref, pk_int, r1_int, ck_bl, rk_rt, rk_nx, wp_mth, m_append, m_pop, Option.some.injEq, exists_eq_left', setAll, List.length_cons, List.length_nil, List.set_cons_succ, List.set_cons_zero, List.length_set, Nat.reduceAdd, Nat.reduceLT, if_true, Nat.zero_add, reduceCtorEq, false_implies, true_implies, eq_self, and_true, true_and, Bool.true_eq_false, Bool.false_eq_true]
        have eS : ∀ b c t, isSweep s (.tup [a, b, c, t]) = (isWay a && (match b, c, t with
            | .int p, .int w, .tup ts => (decide (1 ≤ p) && decide (1 ≤ w)) && tabsOk s p w ts
            | _, _, _ => false)) := fun b c t => by
          cases b <;> first
            | (cases c <;> first
              | (cases t <;> first
                | exact (Bool.and_assoc ..)
                | exact (Bool.and_false _).symm)
              | exact (Bool.and_false _).symm)
            | exact (Bool.and_false _).symm
        rw [eS] at q0
        cases ha : isWay a with
        | false =>
          rw [ha, Bool.false_and] at q0
          simp only [Bool.not_false, wp_bind, wp_ret, wp_chk, wp_ofO, wp_look, wp_new, wp_setO, wp_br, v_var, v_lit, v_glo, v_bin, v_neg, v_cmp, v_cmp2, v_and, v_or, v_not, v_ife, v_tup, v_lst, v_dct0, v_dct, v_ix, v_slc, v_rev, v_bi, v_isi, v_mth, v_call, v_comp, vs_nil, vs_cons, vo_none, vo_some, vc_none, vc_some, vi_val, vi_rng1, vi_rng2, vt_tup, vt_sub, vts_nil, vts_cons, x_asg, x_par, x_aug, x_exp, x_ret, x_retN, x_ifs, x_for, x_whl, x_brk, x_cnt, x_pss, b_nil', b_cons', sq_nx, sq_rt, sq_bk, sq_ct, gv_0, gv_S, wt_0, wt_S, o_add, o_sub, o_mul, o_fdiv, o_mod, o_pow, o_addT, o_mulT, c_lt, c_le, c_gt, c_ge, wp_eq_int, wp_ne_int, n_bl, n_int, bi_int, bi_len, bi_tuple, bi_list, it_tup, r_tup, r_ref, ix_tup, wp_ix_ref, ixR_lst, ixR_dic, wp_set_ref, setR_dic, sl_tup, sl_ref, pk_int, r1_int, ck_bl, rk_rt, rk_nx, wp_mth, m_append, m_pop, Option.some.injEq, exists_eq_left', setAll, List.length_cons, List.length_nil, List.set_cons_succ, List.set_cons_zero, List.length_set, Nat.reduceAdd, Nat.reduceLT, if_true, Nat.zero_add, reduceCtorEq, false_implies, true_implies, eq_self, and_true, true_and, Bool.true_eq_false, Bool.false_eq_true]
          exact q0
        | true =>
          rw [ha, Bool.true_and] at q0
          simp only [Bool.not_true, pm0, wp_bind, wp_ret, wp_chk, wp_ofO, wp_look, wp_new, wp_setO, wp_br, v_var, v_lit, v_glo, v_bin, v_neg, v_cmp, v_cmp2, v_and, v_or, v_not, v_ife, v_tup, v_lst, v_dct0, v_dct, v_ix, v_slc, v_rev, v_bi, v_isi, v_mth, v_call, v_comp, vs_nil, vs_cons, vo_none, vo_some, vc_none, vc_some, vi_val, vi_rng1, vi_rng2, vt_tup, vt_sub, vts_nil, vts_cons, x_asg, x_par, x_aug, x_exp, x_ret, x_retN, x_ifs, x_for, x_whl, x_brk, x_cnt, x_pss, b_nil', b_cons', sq_nx, sq_rt, sq_bk, sq_ct, gv_0, gv_S, wt_0, wt_S, o_add, o_sub, o_mul, o_fdiv, o_mod, o_pow, o_addT, o_mulT, c_lt, c_le, c_gt, c_ge, wp_eq_int, wp_ne_int, n_bl, n_int, bi_int, bi_len, bi_tuple, bi_list, it_tup, r_tup, r_ref, ix_tup, wp_ix_ref, ixR_lst, ixR_dic, wp_set_ref, setR_dic, sl_tup, sl_ref, pk_int, r1_int, ck_bl, rk_rt, rk_nx, wp_mth, m_append, m_pop, Option.some.injEq, exists_eq_left', setAll, List.length_cons, List.length_nil, List.set_cons_succ, List.set_cons_zero, List.length_set, Nat.reduceAdd, Nat.reduceLT, if_true, Nat.zero_add, reduceCtorEq, false_implies, true_implies, eq_self, and_true, true_and, Bool.true_eq_false, Bool.false_eq_true]
          refine is_integer_ok nb.ok ?_
          cases b with
          | int p =>
            simp only [isInt, Bool.not_true, pm0, wp_bind, wp_ret, wp_chk, wp_ofO, wp_look, wp_new, wp_setO, wp_br, v_var, v_lit, v_glo, v_bin, v_neg, v_cmp, v_cmp2, v_and, v_or, v_not, v_ife, v_tup, v_lst, v_dct0, v_dct, v_ix, v_slc, v_rev, v_bi, v_isi, v_mth, v_call, v_comp, vs_nil, vs_cons, vo_none, vo_some, vc_none, vc_some, vi_val, vi_rng1, vi_rng2, vt_tup, vt_sub, vts_nil, vts_cons, x_asg, x_par, x_aug, x_exp, x_ret, x_retN, x_ifs, x_for, x_whl, x_brk, x_cnt, x_pss, b_nil', b_cons', sq_nx, sq_rt, sq_bk, sq_ct, gv_0, gv_S, wt_0, wt_S, o_add, o_sub, o_mul, o_fdiv, o_mod, o_pow, o_addT, o_mulT, c_lt, c_le, c_gt, c_ge, wp_eq_int, wp_ne_int, n_bl, n_int, bi_int, bi_len, bi_tuple, bi_list, it_tup, r_tup, r_ref, ix_tup, wp_ix_ref, ixR_lst, ixR_dic, wp_set_ref, setR_dic, sl_tup, sl_ref, pk_int, r1_int, ck_bl, rk_rt, rk_nx, wp_mth, m_append, m_pop, Option.some.injEq, exists_eq_left', setAll, List.length_cons, List.length_nil, List.set_cons_succ, List.set_cons_zero, List.length_set, Nat.reduceAdd, Nat.reduceLT, if_true, Nat.zero_add, reduceCtorEq, false_implies, true_implies, eq_self, and_true, true_and, Bool.true_eq_false, Bool.false_eq_true]
            refine is_integer_ok nc.ok ?_
            cases c with
            | int w =>
              simp only [isInt, Bool.not_true, wp_bind, wp_ret, wp_chk, wp_ofO, wp_look, wp_new, wp_setO, wp_br, v_var, v_lit, v_glo, v_bin, v_neg, v_cmp, v_cmp2, v_and, v_or, v_not, v_ife, v_tup, v_lst, v_dct0, v_dct, v_ix, v_slc, v_rev, v_bi, v_isi, v_mth, v_call, v_comp, vs_nil, vs_cons, vo_none, vo_some, vc_none, vc_some, vi_val, vi_rng1, vi_rng2, vt_tup, vt_sub, vts_nil, vts_cons, x_asg, x_par, x_aug, x_exp, x_ret, x_retN, x_ifs, x_for, x_whl, x_brk, x_cnt, x_pss, b_nil', b_cons', sq_nx, sq_rt, sq_bk, sq_ct, gv_0, gv_S, wt_0, wt_S, o_add, o_sub, o_mul, o_fdiv, o_mod, o_pow, o_addT, o_mulT, c_lt, c_le, c_gt, c_ge, wp_eq_int, wp_ne_int, n_bl, n_int, bi_int, bi_len, bi_tuple, bi_list, it_tup, r_tup, r_ref, ix_tup, wp_ix_ref, ixR_lst, ixR_dic, wp_set_ref, setR_dic, sl_tup, sl_ref, pk_int, r1_int, ck_bl, rk_rt, rk_nx, wp_mth, m_append, m_pop, Option.some.injEq, exists_eq_left', setAll, List.length_cons, List.length_nil, List.set_cons_succ, List.set_cons_zero, List.length_set, Nat.reduceAdd, Nat.reduceLT, if_true, Nat.zero_add, reduceCtorEq, false_implies, true_implies, eq_self, and_true, true_and, Bool.true_eq_false, Bool.false_eq_true]
              by_cases c1 : p < 1
              · have d1 : decide (p < 1) = true := decide_eq_true c1
                simp only [d1, wp_bind, wp_ret, wp_chk, wp_ofO, wp_look, wp_new, wp_setO, wp_br, v_var, v_lit, v_glo, v_bin, v_neg, v_cmp, v_cmp2, v_and, v_or, v_not, v_ife, v_tup, v_lst, v_dct0, v_dct, v_ix, v_slc, v_rev, v_bi, v_isi, v_mth, v_call, v_comp, vs_nil, vs_cons, vo_none, vo_some, vc_none, vc_some, vi_val, vi_rng1, vi_rng2, vt_tup, vt_sub, vts_nil, vts_cons, x_asg, x_par, x_aug, x_exp, x_ret, x_retN, x_ifs, x_for, x_whl, x_brk, x_cnt, x_pss, b_nil', b_cons', sq_nx, sq_rt, sq_bk, sq_ct, gv_0, gv_S, wt_0, wt_S, o_add, o_sub, o_mul, o_fdiv, o_mod, o_pow, o_addT, o_mulT, c_lt, c_le, c_gt, c_ge, wp_eq_int, wp_ne_int, n_bl, n_int, bi_int, bi_len, bi_tuple, bi_list, it_tup, r_tup, r_ref, ix_tup, wp_ix_ref, ixR_lst, ixR_dic, wp_set_ref, setR_dic, sl_tup, sl_ref, pk_int, r1_int, ck_bl, rk_rt, rk_nx, wp_mth, m_append, m_pop, Option.some.injEq, exists_eq_left', setAll, List.length_cons, List.length_nil, List.set_cons_succ, List.set_cons_zero, List.length_set, Nat.reduceAdd, Nat.reduceLT, if_true, Nat.zero_add, reduceCtorEq, false_implies, true_implies, eq_self, and_true, true_and, Bool.true_eq_false, Bool.false_eq_true]
                have e0 : decide (1 ≤ p) = false := decide_eq_false (by omega)
                cases t <;> first
                  | exact q0
                  | (dsimp only at q0; rw [e0] at q0; exact q0)
              · have d1 : decide (p < 1) = false := decide_eq_false c1
                by_cases c2 : w < 1
                · have d2 : decide (w < 1) = true := decide_eq_true c2
                  simp only [d1, d2, wp_bind, wp_ret, wp_chk, wp_ofO, wp_look, wp_new, wp_setO, wp_br, v_var, v_lit, v_glo, v_bin, v_neg, v_cmp, v_cmp2, v_and, v_or, v_not, v_ife, v_tup, v_lst, v_dct0, v_dct, v_ix, v_slc, v_rev, v_bi, v_isi, v_mth, v_call, v_comp, vs_nil, vs_cons, vo_none, vo_some, vc_none, vc_some, vi_val, vi_rng1, vi_rng2, vt_tup, vt_sub, vts_nil, vts_cons, x_asg, x_par, x_aug, x_exp, x_ret, x_retN, x_ifs, x_for, x_whl, x_brk, x_cnt, x_pss, b_nil', b_cons', sq_nx, sq_rt, sq_bk, sq_ct, gv_0, gv_S, wt_0, wt_S, o_add, o_sub, o_mul, o_fdiv, o_mod, o_pow, o_addT, o_mulT, c_lt, c_le, c_gt, c_ge, wp_eq_int, wp_ne_int, n_bl, n_int, bi_int, bi_len, bi_tuple, bi_list, it_tup, r_tup, r_ref, ix_tup, wp_ix_ref, ixR_lst, ixR_dic, wp_set_ref, setR_dic, sl_tup, sl_ref, pk_int, r1_int, ck_bl, rk_rt, rk_nx, wp_mth, m_append, m_pop, Option.some.injEq, exists_eq_left', setAll, List.length_cons, List.length_nil, List.set_cons_succ, List.set_cons_zero, List.length_set, Nat.reduceAdd, Nat.reduceLT, if_true, Nat.zero_add, reduceCtorEq, false_implies, true_implies, eq_self, and_true, true_and, Bool.true_eq_false, Bool.false_eq_true]
                  have e0 : decide (1 ≤ w) = false := decide_eq_false (by omega)
                  cases t <;> first
                    | exact q0
                    | (dsimp only at q0; rw [e0, Bool.and_false] at q0; exact q0)
                · have d2 : decide (w < 1) = false := decide_eq_false c2
                  simp only [d1, d2, wp_bind, wp_ret, wp_chk, wp_ofO, wp_look, wp_new, wp_setO, wp_br, v_var, v_lit, v_glo, v_bin, v_neg, v_cmp, v_cmp2, v_and, v_or, v_not, v_ife, v_tup, v_lst, v_dct0, v_dct, v_ix, v_slc, v_rev, v_bi, v_isi, v_mth, v_call, v_comp, vs_nil, vs_cons, vo_none, vo_some, vc_none, vc_some, vi_val, vi_rng1, vi_rng2, vt_tup, vt_sub, vts_nil, vts_cons, x_asg, x_par, x_aug, x_exp, x_ret, x_retN, x_ifs, x_for, x_whl, x_brk, x_cnt, x_pss, b_nil', b_cons', sq_nx, sq_rt, sq_bk, sq_ct, gv_0, gv_S, wt_0, wt_S, o_add, o_sub, o_mul, o_fdiv, o_mod, o_pow, o_addT, o_mulT, c_lt, c_le, c_gt, c_ge, wp_eq_int, wp_ne_int, n_bl, n_int, bi_int, bi_len, bi_tuple, bi_list, it_tup, r_tup, r_ref, ix_tup, wp_ix_ref, ixR_lst, ixR_dic, wp_set_ref, setR_dic, sl_tup, sl_ref, pk_int, r1_int, ck_bl, rk_rt, rk_nx, wp_mth, m_append, m_pop, Option.some.injEq, exists_eq_left', setAll, List.length_cons, List.length_nil, List.set_cons_succ, List.set_cons_zero, List.length_set, Nat.reduceAdd, Nat.reduceLT, if_true, Nat.zero_add, reduceCtorEq, false_implies, true_implies, eq_self, and_true, true_and, Bool.true_eq_false, Bool.false_eq_true]
                  refine sweep_tail hs (by omega) (by omega) nt fun L' g => ?_
                  have q1 := q L' g
                  rw [eS, ha, Bool.true_and] at q1
                  have e1 : decide (1 ≤ p) = true := decide_eq_true (by omega)
                  have e2 : decide (1 ≤ w) = true := decide_eq_true (by omega)
                  cases t <;> first
                    | exact q1
                    | (dsimp only at q1; rw [e1, e2] at q1; exact q1)
            | _ =>
              simp only [isInt, Bool.not_false, wp_bind, wp_ret, wp_chk, wp_ofO, wp_look, wp_new, wp_setO, wp_br, v_var, v_lit, v_glo, v_bin, v_neg, v_cmp, v_cmp2, v_and, v_or, v_not, v_ife, v_tup, v_lst, v_dct0, v_dct, v_ix, v_slc, v_rev, v_bi, v_isi, v_mth, v_call, v_comp, vs_nil, vs_cons, vo_none, vo_some, vc_none, vc_some, vi_val, vi_rng1, vi_rng2, vt_tup, vt_sub, vts_nil, vts_cons, x_asg, x_par, x_aug, x_exp, x_ret, x_retN, x_ifs, x_for, x_whl, x_brk, x_cnt, x_pss, b_nil', b_cons', sq_nx, sq_rt, sq_bk, sq_ct, gv_0, gv_S, wt_0, wt_S, o_add, o_sub, o_mul, o_fdiv, o_mod, o_pow, o_addT, o_mulT, c_lt, c_le, c_gt, c_ge, wp_eq_int, wp_ne_int, n_bl, n_int, bi_int, bi_len, bi_tuple, bi_list, it_tup, r_tup, r_ref, ix_tup, wp_ix_ref, ixR_lst, ixR_dic, wp_set_ref, setR_dic, sl_tup, sl_ref, pk_int, r1_int, ck_bl, rk_rt, rk_nx, wp_mth, m_append, m_pop, Option.some.injEq, exists_eq_left', setAll, List.length_cons, List.length_nil, List.set_cons_succ, List.set_cons_zero, List.length_set, Nat.reduceAdd, Nat.reduceLT, if_true, Nat.zero_add, reduceCtorEq, false_implies, true_implies, eq_self, and_true, true_and, Bool.true_eq_false, Bool.false_eq_true]
              exact q0
          | _ =>
            simp only [isInt, Bool.not_false, wp_bind, wp_ret, wp_chk, wp_ofO, wp_look, wp_new, wp_setO, wp_br, v_var, v_lit, v_glo, v_bin, v_neg, v_cmp, v_cmp2, v_and, v_or, v_not, v_ife, v_tup, v_lst, v_dct0, v_dct, v_ix, v_slc, v_rev, v_bi, v_isi, v_mth, v_call, v_comp, vs_nil, vs_cons, vo_none, vo_some, vc_none, vc_some, vi_val, vi_rng1, vi_rng2, vt_tup, vt_sub, vts_nil, vts_cons, x_asg, x_par, x_aug, x_exp, x_ret, x_retN, x_ifs, x_for, x_whl, x_brk, x_cnt, x_pss, b_nil', b_cons', sq_nx, sq_rt, sq_bk, sq_ct, gv_0, gv_S, wt_0, wt_S, o_add, o_sub, o_mul, o_fdiv, o_mod, o_pow, o_addT, o_mulT, c_lt, c_le, c_gt, c_ge, wp_eq_int, wp_ne_int, n_bl, n_int, bi_int, bi_len, bi_tuple, bi_list, it_tup, r_tup, r_ref, ix_tup, wp_ix_ref, ixR_lst, ixR_dic, wp_set_ref, setR_dic, sl_tup, sl_ref, pk_int, r1_int, ck_bl, rk_rt, rk_nx, wp_mth, m_append, m_pop, Option.some.injEq, exists_eq_left', setAll, List.length_cons, List.length_nil, List.set_cons_succ, List.set_cons_zero, List.length_set, Nat.reduceAdd, Nat.reduceLT, if_true, Nat.zero_add, reduceCtorEq, false_implies, true_implies, eq_self, and_true, true_and, Bool.true_eq_false, Bool.false_eq_true]
            exact q0
    · have d1 : decide ((xs.length : Int) = 4) = false := decide_eq_false (by omega)
      simp only [d1, Bool.not_false, wp_bind, wp_ret, wp_chk, wp_ofO, wp_look, wp_new, wp_setO, wp_br, v_var, v_lit, v_glo, v_bin, v_neg, v_cmp, v_cmp2, v_and, v_or, v_not, v_ife, v_tup, v_lst, v_dct0, v_dct, v_ix, v_slc, v_rev, v_bi, v_isi, v_mth, v_call, v_comp, vs_nil, vs_cons, vo_none, vo_some, vc_none, vc_some, vi_val, vi_rng1, vi_rng2, vt_tup, vt_sub, vts_nil, vts_cons, x_asg, x_par, x_aug, x_exp, x_ret, x_retN, x_ifs, x_for, x_whl, x_brk, x_cnt, x_pss, b_nil', b_cons', sq_nx, sq_rt, sq_bk, sq_ct, gv_0, gv_S, wt_0, wt_S, o_add, o_sub, o_mul, o_fdiv, o_mod, o_pow, o_addT, o_mulT, c_lt, c_le, c_gt, c_ge, wp_eq_int, wp_ne_int, n_bl, n_int, bi_int, bi_len, bi_tuple, bi_list, it_tup, r_tup, r_ref, ix_tup, wp_ix_ref, ixR_lst, ixR_dic, wp_set_ref, setR_dic, sl_tup, sl_ref, pk_int, r1_int, ck_bl, rk_rt, rk_nx, wp_mth, m_append, m_pop, Option.some.injEq, exists_eq_left', setAll, List.length_cons, List.length_nil, List.set_cons_succ, List.set_cons_zero, List.length_set, Nat.reduceAdd, Nat.reduceLT, if_true, Nat.zero_add, reduceCtorEq, false_implies, true_implies, eq_self, and_true, true_and, Bool.true_eq_false, Bool.false_eq_true]
      have q0 := q L (Grow.refl L)
      rw [isSweep_no hl] at q0
      exact q0
  | _ =>
    simp only [isTup, Bool.not_false, wp_bind, wp_ret, wp_chk, wp_ofO, wp_look, wp_new, wp_setO, wp_br, v_var, v_lit, v_glo, v_bin, v_neg, v_cmp, v_cmp2, v_and, v_or, v_not, v_ife, v_tup, v_lst, v_dct0, v_dct, v_ix, v_slc, v_rev, v_bi, v_isi, v_mth, v_call, v_comp, vs_nil, vs_cons, vo_none, vo_some, vc_none, vc_some, vi_val, vi_rng1, vi_rng2, vt_tup, vt_sub, vts_nil, vts_cons, x_asg, x_par, x_aug, x_exp, x_ret, x_retN, x_ifs, x_for, x_whl, x_brk, x_cnt, x_pss, b_nil', b_cons', sq_nx, sq_rt, sq_bk, sq_ct, gv_0, gv_S, wt_0, wt_S, o_add, o_sub, o_mul, o_fdiv, o_mod, o_pow, o_addT, o_mulT, c_lt, c_le, c_gt, c_ge, wp_eq_int, wp_ne_int, n_bl, n_int, bi_int, bi_len, bi_tuple, bi_list, it_tup, r_tup, r_ref, ix_tup, wp_ix_ref, ixR_lst, ixR_dic, wp_set_ref, setR_dic, sl_tup, sl_ref, pk_int, r1_int, ck_bl, rk_rt, rk_nx, wp_mth, m_append, m_pop, Option.some.injEq, exists_eq_left', setAll, List.length_cons, List.length_nil, List.set_cons_succ, List.set_cons_zero, List.length_set, Nat.reduceAdd, Nat.reduceLT, if_true, Nat.zero_add, reduceCtorEq, false_implies, true_implies, eq_self, and_true, true_and, Bool.true_eq_false, Bool.false_eq_true]
    exact q L (Grow.refl L)
end K35


namespace K35
open PySem Mv
theorem optAll_mono {α β : Type} {f g : α → Option β} : ∀ {xs : List α} {ys : List β}, (∀ x ∈ xs, ∀ y, f x = some y → g x = some y) → optAll f xs = some ys → optAll g xs = some ys
  | [], _, _, e => e
  | x :: xs, ys, h, e => by
    unfold optAll at e ⊢
    cases e1 : f x with
    | none => rw [e1] at e; cases e
    | some y =>
      cases e2 : optAll f xs with
      | none => rw [e1, e2] at e; cases e
      | some zs =>
        rw [e1, e2] at e
        rw [h x (List.mem_cons_self ..) y e1, optAll_mono (fun z hz => h z (List.mem_cons_of_mem _ hz)) e2]
        exact e
/-- data stay where the heap grows -/
theorem toD_grow {L L' : LH} (g : Grow L L') : ∀ (n : Nat) (v : LV) (d : PyData), toD L n v = some d → toD L' n v = some d
  | 0, _, _, e => by cases e
  | n + 1, v, d, e => by
    cases v with
    | tup xs =>
      obtain ⟨ds, e1, e2⟩ := Option.map_eq_some_iff.mp (show (optAll (toD L n) xs).map PyData.tuple = some d from e)
      show (optAll (toD L' n) xs).map PyData.tuple = some d
      rw [optAll_mono (fun x _ y => toD_grow g n x y) e1, ← e2]
      rfl
    | ref k =>
      obtain ⟨E, rfl⟩ := g
      unfold toD at e ⊢
      dsimp only at e ⊢
      cases eL : L[k]? with
      | none => rw [eL] at e; cases e
      | some o =>
        rw [List.getElem?_append_left (lt_of eL), eL]
        rw [eL] at e
        cases o with
        | lst xs =>
          obtain ⟨ds, e1, e2⟩ := Option.map_eq_some_iff.mp (show (optAll (toD L n) xs).map PyData.list = some d from e)
          show (optAll (toD (L ++ E) n) xs).map PyData.list = some d
          rw [optAll_mono (fun x _ y => toD_grow ⟨E, rfl⟩ n x y) e1, ← e2]
          rfl
        | frz ns => exact e
        | dic _ => cases e
    | _ => exact e
end K35


namespace K35
open PySem Mv
def Dat (L : LH) (t : LV) : Prop := ∃ d, toD L 65 t = some d ∧ d.canLay0 = true ∧ d.depth ≤ 62
theorem Dat.grow {L L' : LH} {t : LV} (h : Dat L t) (g : Grow L L') : Dat L' t := by
  obtain ⟨d, e, h1, h2⟩ := h
  exact ⟨d, toD_grow g _ _ _ e, h1, h2⟩
theorem dats {L : LH} : ∀ {xs : List LV}, (∀ x ∈ xs, Dat L x) → ∃ ds, optAll (toD L 65) xs = some ds ∧ PyData.canLayAll0 ds = true ∧ PyData.depthAll ds ≤ 62 ∧ ds.length = xs.length
  | [], _ => ⟨[], rfl, by simp [PyData.canLayAll0], by simp [PyData.depthAll], rfl⟩
  | x :: xs, h => by
    obtain ⟨d, e, h1, h2⟩ := h x (List.mem_cons_self ..)
    obtain ⟨ds, e2, i1, i2, i3⟩ := dats fun y hy => h y (List.mem_cons_of_mem _ hy)
    refine ⟨d :: ds, ?_, by simp [PyData.canLayAll0, h1, i1], by simp only [PyData.depthAll]; omega, by simp [i3]⟩
    unfold optAll
    rw [e, e2]
theorem bad_eq {L : LH} {a b : Nat} {xs : List LV} (h : ∀ x ∈ xs, Dat L x) (e1 : L[a]? = some (.lst xs)) (e2 : L[b]? = some (.lst [])) : Mv.eqV L (.ref a) (.ref b) = some xs.isEmpty := by
  obtain ⟨ds, e, i1, i2, i3⟩ := dats h
  have d1 : toD L 66 (.ref a) = some (.list ds) := by
    unfold toD
    simp only [e1]
    rw [e]
    rfl
  have d2 : toD L 66 (.ref b) = some (.list []) := by
    unfold toD
    simp only [e2]
    rfl
  show eqVd L _ _ = _
  unfold eqVd
  rw [d1, d2]
  have s1 : SeqAt.shaped (.list ds) = true := by
    simp only [SeqAt.shaped, PyData.canLay0, i1, PyData.depth, Bool.true_and]
    exact decide_eq_true (by omega)
  have s2 : SeqAt.shaped (.list []) = true := by simp [SeqAt.shaped, PyData.canLay0, PyData.canLayAll0, PyData.depth, PyData.depthAll]
  simp only [s1, s2, Bool.and_self, if_true]
  cases xs with
  | nil =>
    have : ds = [] := List.length_eq_zero_iff.mp (by simpa using i3)
    subst this
    simp [PyData.eqv, PyData.eqvAll]
  | cons x xs =>
    cases ds with
    | nil => simp at i3
    | cons d ds => simp [PyData.eqv, PyData.eqvAll]
def dueTail : List IS := f_l_due.body.drop 4
theorem due_tail {k : Nat} {s p w : Int} {v a t : LV} {L : LH} {Q : LV → LH → Prop} (hs : 1 < s ∧ s < 100) (hp : 1 ≤ p) (hw : 1 ≤ w) (h : Nice 2 L t) (hd : ∀ ts, t = .tup ts → ∀ x ∈ ts, Dat L x) (q : ∀ L', Grow L L' → Q (.bl (match t with
    | .tup ts => tabsOk s p w ts
    | _ => false)) L') :
    wp (evB (run prog (k + 3)) dueTail [some (.int s), some v, some a, some (.int p), some (.int w), some t, none, none]) L fun r L1 => wp (retK r) L1 Q := by
  simp only [dueTail, f_l_due, List.drop_succ_cons, List.drop_zero, pm012, wp_bind, wp_ret, wp_chk, wp_ofO, wp_look, wp_new, wp_setO, wp_br, v_var, v_lit, v_glo, v_bin, v_neg, v_cmp, v_cmp2, v_and, v_or, v_not, v_ife, v_tup, v_lst, v_dct0, v_dct, v_ix, v_slc, v_rev, v_bi, v_isi, v_mth, v_call, v_comp, vs_nil, vs_cons, vo_none, vo_some, vc_none, vc_some, vi_val, vi_rng1, vi_rng2, vt_tup, vt_sub, vts_nil, vts_cons, x_asg, x_par, x_aug, x_exp, x_ret, x_retN, x_ifs, x_for, x_whl, x_brk, x_cnt, x_pss, b_nil', b_cons', sq_nx, sq_rt, sq_bk, sq_ct, gv_0, gv_S, wt_0, wt_S, o_add, o_sub, o_mul, o_fdiv, o_mod, o_pow, o_addT, o_mulT, c_lt, c_le, c_gt, c_ge, wp_eq_int, wp_ne_int, n_bl, n_int, bi_int, bi_len, bi_tuple, bi_list, it_tup, r_tup, r_ref, ix_tup, wp_ix_ref, ixR_lst, ixR_dic, wp_set_ref, setR_dic, sl_tup, sl_ref, pk_int, r1_int, ck_bl, rk_rt, rk_nx, wp_mth, m_append, m_pop, Option.some.injEq, exists_eq_left', setAll, List.length_cons, List.length_nil, List.set_cons_succ, List.set_cons_zero, List.length_set, Nat.reduceAdd, Nat.reduceLT, if_true, Nat.zero_add, reduceCtorEq, false_implies, true_implies, eq_self, and_true, true_and, Bool.true_eq_false, Bool.false_eq_true]
  refine l_items_ok hs hp hw ?_
  simp only [wp_bind, wp_ret, wp_chk, wp_ofO, wp_look, wp_new, wp_setO, wp_br, v_var, v_lit, v_glo, v_bin, v_neg, v_cmp, v_cmp2, v_and, v_or, v_not, v_ife, v_tup, v_lst, v_dct0, v_dct, v_ix, v_slc, v_rev, v_bi, v_isi, v_mth, v_call, v_comp, vs_nil, vs_cons, vo_none, vo_some, vc_none, vc_some, vi_val, vi_rng1, vi_rng2, vt_tup, vt_sub, vts_nil, vts_cons, x_asg, x_par, x_aug, x_exp, x_ret, x_retN, x_ifs, x_for, x_whl, x_brk, x_cnt, x_pss, b_nil', b_cons', sq_nx, sq_rt, sq_bk, sq_ct, gv_0, gv_S, wt_0, wt_S, o_add, o_sub, o_mul, o_fdiv, o_mod, o_pow, o_addT, o_mulT, c_lt, c_le, c_gt, c_ge, wp_eq_int, wp_ne_int, n_bl, n_int, bi_int, bi_len, bi_tuple, bi_list, it_tup, r_tup, r_ref, ix_tup, wp_ix_ref, ixR_lst, ixR_dic, wp_set_ref, setR_dic, sl_tup, sl_ref, pk_int, r1_int, ck_bl, rk_rt, rk_nx, wp_mth, m_append, m_pop, Option.some.injEq, exists_eq_left', setAll, List.length_cons, List.length_nil, List.set_cons_succ, List.set_cons_zero, List.length_set, Nat.reduceAdd, Nat.reduceLT, if_true, Nat.zero_add, reduceCtorEq, false_implies, true_implies, eq_self, and_true, true_and, Bool.true_eq_false, Bool.false_eq_true]
  have eL : litems s p w.toNat = if itemsF s p w.toNat = 0 then 100001 else itemsF s p w.toNat := rfl
  have le : itemsF s p w.toNat ≤ 100000 := by
    unfold itemsF
    split <;> omega
  generalize hn : itemsF s p w.toNat = n at q eL le
  by_cases c0 : n = 0
  · rw [if_pos c0] at eL
    rw [eL]
    have d0 : decide ((100000 : Int) < 100001) = true := by decide
    simp only [d0, wp_bind, wp_ret, wp_chk, wp_ofO, wp_look, wp_new, wp_setO, wp_br, v_var, v_lit, v_glo, v_bin, v_neg, v_cmp, v_cmp2, v_and, v_or, v_not, v_ife, v_tup, v_lst, v_dct0, v_dct, v_ix, v_slc, v_rev, v_bi, v_isi, v_mth, v_call, v_comp, vs_nil, vs_cons, vo_none, vo_some, vc_none, vc_some, vi_val, vi_rng1, vi_rng2, vt_tup, vt_sub, vts_nil, vts_cons, x_asg, x_par, x_aug, x_exp, x_ret, x_retN, x_ifs, x_for, x_whl, x_brk, x_cnt, x_pss, b_nil', b_cons', sq_nx, sq_rt, sq_bk, sq_ct, gv_0, gv_S, wt_0, wt_S, o_add, o_sub, o_mul, o_fdiv, o_mod, o_pow, o_addT, o_mulT, c_lt, c_le, c_gt, c_ge, wp_eq_int, wp_ne_int, n_bl, n_int, bi_int, bi_len, bi_tuple, bi_list, it_tup, r_tup, r_ref, ix_tup, wp_ix_ref, ixR_lst, ixR_dic, wp_set_ref, setR_dic, sl_tup, sl_ref, pk_int, r1_int, ck_bl, rk_rt, rk_nx, wp_mth, m_append, m_pop, Option.some.injEq, exists_eq_left', setAll, List.length_cons, List.length_nil, List.set_cons_succ, List.set_cons_zero, List.length_set, Nat.reduceAdd, Nat.reduceLT, if_true, Nat.zero_add, reduceCtorEq, false_implies, true_implies, eq_self, and_true, true_and, Bool.true_eq_false, Bool.false_eq_true]
    have q := q L (Grow.refl L)
    cases t with
    | tup ts =>
      have e : tabsOk s p w ts = false := by unfold tabsOk; rw [hn, decide_eq_true c0]; rfl
      dsimp only at q
      rw [e] at q
      exact q
    | _ => exact q
  · rw [if_neg c0] at eL
    rw [eL]
    have d0 : decide ((100000 : Int) < n) = false := decide_eq_false (by omega)
    simp only [d0, wp_bind, wp_ret, wp_chk, wp_ofO, wp_look, wp_new, wp_setO, wp_br, v_var, v_lit, v_glo, v_bin, v_neg, v_cmp, v_cmp2, v_and, v_or, v_not, v_ife, v_tup, v_lst, v_dct0, v_dct, v_ix, v_slc, v_rev, v_bi, v_isi, v_mth, v_call, v_comp, vs_nil, vs_cons, vo_none, vo_some, vc_none, vc_some, vi_val, vi_rng1, vi_rng2, vt_tup, vt_sub, vts_nil, vts_cons, x_asg, x_par, x_aug, x_exp, x_ret, x_retN, x_ifs, x_for, x_whl, x_brk, x_cnt, x_pss, b_nil', b_cons', sq_nx, sq_rt, sq_bk, sq_ct, gv_0, gv_S, wt_0, wt_S, o_add, o_sub, o_mul, o_fdiv, o_mod, o_pow, o_addT, o_mulT, c_lt, c_le, c_gt, c_ge, wp_eq_int, wp_ne_int, n_bl, n_int, bi_int, bi_len, bi_tuple, bi_list, it_tup, r_tup, r_ref, ix_tup, wp_ix_ref, ixR_lst, ixR_dic, wp_set_ref, setR_dic, sl_tup, sl_ref, pk_int, r1_int, ck_bl, rk_rt, rk_nx, wp_mth, m_append, m_pop, Option.some.injEq, exists_eq_left', setAll, List.length_cons, List.length_nil, List.set_cons_succ, List.set_cons_zero, List.length_set, Nat.reduceAdd, Nat.reduceLT, if_true, Nat.zero_add, reduceCtorEq, false_implies, true_implies, eq_self, and_true, true_and, Bool.true_eq_false, Bool.false_eq_true]
    refine isi_t h.ok ?_
    cases t with
    | tup ts =>
      obtain ⟨hz, hx⟩ := h.2 ts rfl
      have hd := hd ts rfl
      have eT : tabsOk s p w ts = ((decide (1 ≤ (ts.length : Int)) && decide ((ts.length : Int) ≤ 12)) && ts.all (isTab n)) := by unfold tabsOk; rw [hn, decide_eq_false c0]; rfl
      dsimp only at q
      rw [eT] at q
      simp only [isTup, Bool.not_true, len_tup, wp_bind, wp_ret, wp_chk, wp_ofO, wp_look, wp_new, wp_setO, wp_br, v_var, v_lit, v_glo, v_bin, v_neg, v_cmp, v_cmp2, v_and, v_or, v_not, v_ife, v_tup, v_lst, v_dct0, v_dct, v_ix, v_slc, v_rev, v_bi, v_isi, v_mth, v_call, v_comp, vs_nil, vs_cons, vo_none, vo_some, vc_none, vc_some, vi_val, vi_rng1, vi_rng2, vt_tup, vt_sub, vts_nil, vts_cons, x_asg, x_par, x_aug, x_exp, x_ret, x_retN, x_ifs, x_for, x_whl, x_brk, x_cnt, x_pss, b_nil', b_cons', sq_nx, sq_rt, sq_bk, sq_ct, gv_0, gv_S, wt_0, wt_S, o_add, o_sub, o_mul, o_fdiv, o_mod, o_pow, o_addT, o_mulT, c_lt, c_le, c_gt, c_ge, wp_eq_int, wp_ne_int, n_bl, n_int, bi_int, bi_len, bi_tuple, bi_list, it_tup, r_tup, r_ref, ix_tup, wp_ix_ref, ixR_lst, ixR_dic, wp_set_ref, setR_dic, sl_tup, sl_ref, pk_int, r1_int, ck_bl, rk_rt, rk_nx, wp_mth, m_append, m_pop, Option.some.injEq, exists_eq_left', setAll, List.length_cons, List.length_nil, List.set_cons_succ, List.set_cons_zero, List.length_set, Nat.reduceAdd, Nat.reduceLT, if_true, Nat.zero_add, reduceCtorEq, false_implies, true_implies, eq_self, and_true, true_and, Bool.true_eq_false, Bool.false_eq_true]
      by_cases c1 : 1 ≤ (ts.length : Int)
      · have d1 : decide (1 ≤ (ts.length : Int)) = true := decide_eq_true c1
        by_cases c2 : (ts.length : Int) ≤ 12
        · have d2 : decide ((ts.length : Int) ≤ 12) = true := decide_eq_true c2
          rw [d1, d2, Bool.true_and, Bool.true_and] at q
          simp only [d1, d2, Bool.not_true, wp_bind, wp_ret, wp_chk, wp_ofO, wp_look, wp_new, wp_setO, wp_br, v_var, v_lit, v_glo, v_bin, v_neg, v_cmp, v_cmp2, v_and, v_or, v_not, v_ife, v_tup, v_lst, v_dct0, v_dct, v_ix, v_slc, v_rev, v_bi, v_isi, v_mth, v_call, v_comp, vs_nil, vs_cons, vo_none, vo_some, vc_none, vc_some, vi_val, vi_rng1, vi_rng2, vt_tup, vt_sub, vts_nil, vts_cons, x_asg, x_par, x_aug, x_exp, x_ret, x_retN, x_ifs, x_for, x_whl, x_brk, x_cnt, x_pss, b_nil', b_cons', sq_nx, sq_rt, sq_bk, sq_ct, gv_0, gv_S, wt_0, wt_S, o_add, o_sub, o_mul, o_fdiv, o_mod, o_pow, o_addT, o_mulT, c_lt, c_le, c_gt, c_ge, wp_eq_int, wp_ne_int, n_bl, n_int, bi_int, bi_len, bi_tuple, bi_list, it_tup, r_tup, r_ref, ix_tup, wp_ix_ref, ixR_lst, ixR_dic, wp_set_ref, setR_dic, sl_tup, sl_ref, pk_int, r1_int, ck_bl, rk_rt, rk_nx, wp_mth, m_append, m_pop, Option.some.injEq, exists_eq_left', setAll, List.length_cons, List.length_nil, List.set_cons_succ, List.set_cons_zero, List.length_set, Nat.reduceAdd, Nat.reduceLT, if_true, Nat.zero_add, reduceCtorEq, false_implies, true_implies, eq_self, and_true, true_and, Bool.true_eq_false, Bool.false_eq_true]
          rw [← wp_new (Q := fun a L1 => wp (compK _ _ a) L1 _), ← wp_bind]
          refine wp_comp (fun i ys L' => ys = (ts.take i).filter (fun x => !isTab n x) ∧ Grow L L') ⟨rfl, ⟨_, rfl⟩⟩ ?_ ?_
          · rintro i ys L' hi eD ⟨rfl, g⟩
            have hi2 : i < ts.length := hi
            have gx : ts[i]? = some ts[i] := List.getElem?_eq_getElem hi2
            have nx := (hx _ (List.getElem_mem hi2)).grow g
            refine ⟨ts[i], gx, ?_⟩
            simp only [turnC, wipeL, wp_if, pm01, wp_bind, wp_ret, wp_chk, wp_ofO, wp_look, wp_new, wp_setO, wp_br, v_var, v_lit, v_glo, v_bin, v_neg, v_cmp, v_cmp2, v_and, v_or, v_not, v_ife, v_tup, v_lst, v_dct0, v_dct, v_ix, v_slc, v_rev, v_bi, v_isi, v_mth, v_call, v_comp, vs_nil, vs_cons, vo_none, vo_some, vc_none, vc_some, vi_val, vi_rng1, vi_rng2, vt_tup, vt_sub, vts_nil, vts_cons, x_asg, x_par, x_aug, x_exp, x_ret, x_retN, x_ifs, x_for, x_whl, x_brk, x_cnt, x_pss, b_nil', b_cons', sq_nx, sq_rt, sq_bk, sq_ct, gv_0, gv_S, wt_0, wt_S, o_add, o_sub, o_mul, o_fdiv, o_mod, o_pow, o_addT, o_mulT, c_lt, c_le, c_gt, c_ge, wp_eq_int, wp_ne_int, n_bl, n_int, bi_int, bi_len, bi_tuple, bi_list, it_tup, r_tup, r_ref, ix_tup, wp_ix_ref, ixR_lst, ixR_dic, wp_set_ref, setR_dic, sl_tup, sl_ref, pk_int, r1_int, ck_bl, rk_rt, rk_nx, wp_mth, m_append, m_pop, Option.some.injEq, exists_eq_left', setAll, List.length_cons, List.length_nil, List.set_cons_succ, List.set_cons_zero, List.length_set, Nat.reduceAdd, Nat.reduceLT, if_true, Nat.zero_add, reduceCtorEq, false_implies, true_implies, eq_self, and_true, true_and, Bool.true_eq_false, Bool.false_eq_true]
            refine l_is_table_ok nx.ok nx.tab ?_
            simp only [wp_if, wp_bind, wp_ret, wp_chk, wp_ofO, wp_look, wp_new, wp_setO, wp_br, v_var, v_lit, v_glo, v_bin, v_neg, v_cmp, v_cmp2, v_and, v_or, v_not, v_ife, v_tup, v_lst, v_dct0, v_dct, v_ix, v_slc, v_rev, v_bi, v_isi, v_mth, v_call, v_comp, vs_nil, vs_cons, vo_none, vo_some, vc_none, vc_some, vi_val, vi_rng1, vi_rng2, vt_tup, vt_sub, vts_nil, vts_cons, x_asg, x_par, x_aug, x_exp, x_ret, x_retN, x_ifs, x_for, x_whl, x_brk, x_cnt, x_pss, b_nil', b_cons', sq_nx, sq_rt, sq_bk, sq_ct, gv_0, gv_S, wt_0, wt_S, o_add, o_sub, o_mul, o_fdiv, o_mod, o_pow, o_addT, o_mulT, c_lt, c_le, c_gt, c_ge, wp_eq_int, wp_ne_int, n_bl, n_int, bi_int, bi_len, bi_tuple, bi_list, it_tup, r_tup, r_ref, ix_tup, wp_ix_ref, ixR_lst, ixR_dic, wp_set_ref, setR_dic, sl_tup, sl_ref, pk_int, r1_int, ck_bl, rk_rt, rk_nx, wp_mth, m_append, m_pop, Option.some.injEq, exists_eq_left', setAll, List.length_cons, List.length_nil, List.set_cons_succ, List.set_cons_zero, List.length_set, Nat.reduceAdd, Nat.reduceLT, if_true, Nat.zero_add, reduceCtorEq, false_implies, true_implies, eq_self, and_true, true_and, Bool.true_eq_false, Bool.false_eq_true]
            have ef : (ts.take (i + 1)).filter (fun x => !isTab n x) = (ts.take i).filter (fun x => !isTab n x) ++ (if isTab n ts[i] = true then [] else [ts[i]]) := by
              rw [take_one gx, List.filter_append]
              congr 1
              cases hq : isTab n ts[i] <;> simp [List.filter, hq]
            rw [ef]
            cases hb : isTab n ts[i] with
            | true =>
              simp only [Bool.not_true, wp_bind, wp_ret, wp_chk, wp_ofO, wp_look, wp_new, wp_setO, wp_br, v_var, v_lit, v_glo, v_bin, v_neg, v_cmp, v_cmp2, v_and, v_or, v_not, v_ife, v_tup, v_lst, v_dct0, v_dct, v_ix, v_slc, v_rev, v_bi, v_isi, v_mth, v_call, v_comp, vs_nil, vs_cons, vo_none, vo_some, vc_none, vc_some, vi_val, vi_rng1, vi_rng2, vt_tup, vt_sub, vts_nil, vts_cons, x_asg, x_par, x_aug, x_exp, x_ret, x_retN, x_ifs, x_for, x_whl, x_brk, x_cnt, x_pss, b_nil', b_cons', sq_nx, sq_rt, sq_bk, sq_ct, gv_0, gv_S, wt_0, wt_S, o_add, o_sub, o_mul, o_fdiv, o_mod, o_pow, o_addT, o_mulT, c_lt, c_le, c_gt, c_ge, wp_eq_int, wp_ne_int, n_bl, n_int, bi_int, bi_len, bi_tuple, bi_list, it_tup, r_tup, r_ref, ix_tup, wp_ix_ref, ixR_lst, ixR_dic, wp_set_ref, setR_dic, sl_tup, sl_ref, pk_int, r1_int, ck_bl, rk_rt, rk_nx, wp_mth, m_append, m_pop, Option.some.injEq, exists_eq_left', setAll, List.length_cons, List.length_nil, List.set_cons_succ, List.set_cons_zero, List.length_set, Nat.reduceAdd, Nat.reduceLT, if_true, Nat.zero_add, reduceCtorEq, false_implies, true_implies, eq_self, and_true, true_and, Bool.true_eq_false, Bool.false_eq_true]
              exact ⟨eD, by simp, g⟩
            | false =>
              simp only [Bool.not_false, wp_bind, wp_ret, wp_chk, wp_ofO, wp_look, wp_new, wp_setO, wp_br, v_var, v_lit, v_glo, v_bin, v_neg, v_cmp, v_cmp2, v_and, v_or, v_not, v_ife, v_tup, v_lst, v_dct0, v_dct, v_ix, v_slc, v_rev, v_bi, v_isi, v_mth, v_call, v_comp, vs_nil, vs_cons, vo_none, vo_some, vc_none, vc_some, vi_val, vi_rng1, vi_rng2, vt_tup, vt_sub, vts_nil, vts_cons, x_asg, x_par, x_aug, x_exp, x_ret, x_retN, x_ifs, x_for, x_whl, x_brk, x_cnt, x_pss, b_nil', b_cons', sq_nx, sq_rt, sq_bk, sq_ct, gv_0, gv_S, wt_0, wt_S, o_add, o_sub, o_mul, o_fdiv, o_mod, o_pow, o_addT, o_mulT, c_lt, c_le, c_gt, c_ge, wp_eq_int, wp_ne_int, n_bl, n_int, bi_int, bi_len, bi_tuple, bi_list, it_tup, r_tup, r_ref, ix_tup, wp_ix_ref, ixR_lst, ixR_dic, wp_set_ref, setR_dic, sl_tup, sl_ref, pk_int, r1_int, ck_bl, rk_rt, rk_nx, wp_mth, m_append, m_pop, Option.some.injEq, exists_eq_left', setAll, List.length_cons, List.length_nil, List.set_cons_succ, List.set_cons_zero, List.length_set, Nat.reduceAdd, Nat.reduceLT, if_true, Nat.zero_add, reduceCtorEq, false_implies, true_implies, eq_self, and_true, true_and, Bool.true_eq_false, Bool.false_eq_true]
              refine ⟨eD, ?_, by simp, Grow.set g (Nat.le_refl _)⟩
              have h1 := List.length_filter_le (fun x => !isTab n x) (ts.take i)
              have h2 : (ts.take i).length ≤ ts.length := by rw [List.length_take]; omega
              omega
          · rintro ys L' eD ⟨rfl, g⟩
            refine ⟨rfl, ?_⟩
            have et : ts.take (Src.fixed ts).len = ts := List.take_of_length_le (Nat.le_refl _)
            rw [et] at eD
            refine ⟨by decide, wp_eq (bad_eq (L := L' ++ [LO.lst []]) (a := L.length) (b := L'.length) (xs := ts.filter fun x => !isTab n x) (fun x hxm => ?_) ?_ (by simp)) rfl ?_⟩
            · exact ((hd x ((List.mem_filter.mp hxm).1)).grow g).grow ⟨_, rfl⟩
            · rw [List.getElem?_append_left (lt_of eD)]
              exact eD
            · have e2 : (ts.filter fun x => !isTab n x).isEmpty = ts.all (isTab n) := by
                rw [Bool.eq_iff_iff, List.isEmpty_iff, List.filter_eq_nil_iff, List.all_eq_true]
                simp
              rw [e2]
              exact q _ (g.trans ⟨_, rfl⟩)
        · have d2 : decide ((ts.length : Int) ≤ 12) = false := decide_eq_false c2
          rw [d1, d2] at q
          simp only [d1, d2, Bool.not_false, wp_bind, wp_ret, wp_chk, wp_ofO, wp_look, wp_new, wp_setO, wp_br, v_var, v_lit, v_glo, v_bin, v_neg, v_cmp, v_cmp2, v_and, v_or, v_not, v_ife, v_tup, v_lst, v_dct0, v_dct, v_ix, v_slc, v_rev, v_bi, v_isi, v_mth, v_call, v_comp, vs_nil, vs_cons, vo_none, vo_some, vc_none, vc_some, vi_val, vi_rng1, vi_rng2, vt_tup, vt_sub, vts_nil, vts_cons, x_asg, x_par, x_aug, x_exp, x_ret, x_retN, x_ifs, x_for, x_whl, x_brk, x_cnt, x_pss, b_nil', b_cons', sq_nx, sq_rt, sq_bk, sq_ct, gv_0, gv_S, wt_0, wt_S, o_add, o_sub, o_mul, o_fdiv, o_mod, o_pow, o_addT, o_mulT, c_lt, c_le, c_gt, c_ge, wp_eq_int, wp_ne_int, n_bl, n_int, bi_int, bi_len, bi_tuple, bi_list, it_tup, r_tup, r_ref, ix_tup, wp_ix_ref, ixR_lst, ixR_dic, wp_set_ref, setR_dic, sl_tup, sl_ref, pk_int, r1_int, ck_bl, rk_rt, rk_nx, wp_mth, m_append, m_pop, Option.some.injEq, exists_eq_left', setAll, List.length_cons, List.length_nil, List.set_cons_succ, List.set_cons_zero, List.length_set, Nat.reduceAdd, Nat.reduceLT, if_true, Nat.zero_add, reduceCtorEq, false_implies, true_implies, eq_self, and_true, true_and, Bool.true_eq_false, Bool.false_eq_true]
          exact q L (Grow.refl L)
      · have d1 : decide (1 ≤ (ts.length : Int)) = false := decide_eq_false c1
        rw [d1] at q
        simp only [d1, Bool.not_false, wp_bind, wp_ret, wp_chk, wp_ofO, wp_look, wp_new, wp_setO, wp_br, v_var, v_lit, v_glo, v_bin, v_neg, v_cmp, v_cmp2, v_and, v_or, v_not, v_ife, v_tup, v_lst, v_dct0, v_dct, v_ix, v_slc, v_rev, v_bi, v_isi, v_mth, v_call, v_comp, vs_nil, vs_cons, vo_none, vo_some, vc_none, vc_some, vi_val, vi_rng1, vi_rng2, vt_tup, vt_sub, vts_nil, vts_cons, x_asg, x_par, x_aug, x_exp, x_ret, x_retN, x_ifs, x_for, x_whl, x_brk, x_cnt, x_pss, b_nil', b_cons', sq_nx, sq_rt, sq_bk, sq_ct, gv_0, gv_S, wt_0, wt_S, o_add, o_sub, o_mul, o_fdiv, o_mod, o_pow, o_addT, o_mulT, c_lt, c_le, c_gt, c_ge, wp_eq_int, wp_ne_int, n_bl, n_int, bi_int, bi_len, bi_tuple, bi_list, it_tup, r_tup, r_ref, ix_tup, wp_ix_ref, ixR_lst, ixR_dic, wp_set_ref, setR_dic, sl_tup, sl_ref, pk_int, r1_int, ck_bl, rk_rt, rk_nx, wp_mth, m_append, m_pop, Option.some.injEq, exists_eq_left', setAll, List.length_cons, List.length_nil, List.set_cons_succ, List.set_cons_zero, List.length_set, Nat.reduceAdd, Nat.reduceLT, if_true, Nat.zero_add, reduceCtorEq, false_implies, true_implies, eq_self, and_true, true_and, Bool.true_eq_false, Bool.false_eq_true]
        exact q L (Grow.refl L)
    | _ =>
      simp only [isTup, Bool.not_false, wp_bind, wp_ret, wp_chk, wp_ofO, wp_look, wp_new, wp_setO, wp_br, v_var, v_lit, v_glo, v_bin, v_neg, v_cmp, v_cmp2, v_and, v_or, v_not, v_ife, v_tup, v_lst, v_dct0, v_dct, v_ix, v_slc, v_rev, v_bi, v_isi, v_mth, v_call, v_comp, vs_nil, vs_cons, vo_none, vo_some, vc_none, vc_some, vi_val, vi_rng1, vi_rng2, vt_tup, vt_sub, vts_nil, vts_cons, x_asg, x_par, x_aug, x_exp, x_ret, x_retN, x_ifs, x_for, x_whl, x_brk, x_cnt, x_pss, b_nil', b_cons', sq_nx, sq_rt, sq_bk, sq_ct, gv_0, gv_S, wt_0, wt_S, o_add, o_sub, o_mul, o_fdiv, o_mod, o_pow, o_addT, o_mulT, c_lt, c_le, c_gt, c_ge, wp_eq_int, wp_ne_int, n_bl, n_int, bi_int, bi_len, bi_tuple, bi_list, it_tup, r_tup, r_ref, ix_tup, wp_ix_ref, ixR_lst, ixR_dic, wp_set_ref, setR_dic, sl_tup, sl_ref, pk_int, r1_int, ck_bl, rk_rt, rk_nx, wp_mth, m_append, m_pop, Option.some.injEq, exists_eq_left', setAll, List.length_cons, List.length_nil, List.set_cons_succ, List.set_cons_zero, List.length_set, Nat.reduceAdd, Nat.reduceLT, if_true, Nat.zero_add, reduceCtorEq, false_implies, true_implies, eq_self, and_true, true_and, Bool.true_eq_false, Bool.false_eq_true]
      exact q L (Grow.refl L)
end K35


namespace K35
open PySem Mv
theorem due_ok {k : Nat} {s : Int} {v : LV} {L : LH} {Q : LV → LH → Prop} (hs : 1 < s ∧ s < 100) (h : Nice 3 L v) (hd : ∀ a b c ts, v = .tup [a, b, c, .tup ts] → ∀ x ∈ ts, Dat L x) (q : ∀ L', Grow L L' → Q (.bl (isSweep s v)) L') : wp (run prog (k + 4) 13 [.int s, v]) L Q := by
  show wp (callFn (run prog (k + 3)) f_l_due [.int s, v]) L Q
  rw [call_eq, wp_chk]
  refine ⟨rfl, ?_⟩
  show wp (M.bind (evB _ (f_l_due.body.take 4 ++ dueTail) [some (.int s), some v, none, none, none, none, none, none]) retK) L Q
  rw [b_app]
  simp only [f_l_due, List.take_succ_cons, List.take_zero, pm0, wp_bind, wp_ret, wp_chk, wp_ofO, wp_look, wp_new, wp_setO, wp_br, v_var, v_lit, v_glo, v_bin, v_neg, v_cmp, v_cmp2, v_and, v_or, v_not, v_ife, v_tup, v_lst, v_dct0, v_dct, v_ix, v_slc, v_rev, v_bi, v_isi, v_mth, v_call, v_comp, vs_nil, vs_cons, vo_none, vo_some, vc_none, vc_some, vi_val, vi_rng1, vi_rng2, vt_tup, vt_sub, vts_nil, vts_cons, x_asg, x_par, x_aug, x_exp, x_ret, x_retN, x_ifs, x_for, x_whl, x_brk, x_cnt, x_pss, b_nil', b_cons', sq_nx, sq_rt, sq_bk, sq_ct, gv_0, gv_S, wt_0, wt_S, o_add, o_sub, o_mul, o_fdiv, o_mod, o_pow, o_addT, o_mulT, c_lt, c_le, c_gt, c_ge, wp_eq_int, wp_ne_int, n_bl, n_int, bi_int, bi_len, bi_tuple, bi_list, it_tup, r_tup, r_ref, ix_tup, wp_ix_ref, ixR_lst, ixR_dic, wp_set_ref, setR_dic, sl_tup, sl_ref, pk_int, r1_int, ck_bl, rk_rt, rk_nx, wp_mth, m_append, m_pop, Option.some.injEq, exists_eq_left', setAll, List.length_cons, List.length_nil, List.set_cons_succ, List.set_cons_zero, List.length_set, Nat.reduceAdd, Nat.reduceLT, if_true, Nat.zero_add, reduceCtorEq, false_implies, true_implies, eq_self, and_true, true_and, Bool.true_eq_false, Bool.false_eq_true]
  refine isi_t h.ok ?_
  cases v with
  | tup xs =>
    obtain ⟨hz, hx⟩ := h.2 xs rfl
    simp only [isTup, Bool.not_true, len_tup, wp_bind, wp_ret, wp_chk, wp_ofO, wp_look, wp_new, wp_setO, wp_br, v_var, v_lit, v_glo, v_bin, v_neg, v_cmp, v_cmp2, v_and, v_or, v_not, v_ife, v_tup, v_lst, v_dct0, v_dct, v_ix, v_slc, v_rev, v_bi, v_isi, v_mth, v_call, v_comp, vs_nil, vs_cons, vo_none, vo_some, vc_none, vc_some, vi_val, vi_rng1, vi_rng2, vt_tup, vt_sub, vts_nil, vts_cons, x_asg, x_par, x_aug, x_exp, x_ret, x_retN, x_ifs, x_for, x_whl, x_brk, x_cnt, x_pss, b_nil', b_cons', sq_nx, sq_rt, sq_bk, sq_ct, gv_0, gv_S, wt_0, wt_S, o_add, o_sub, o_mul, o_fdiv, o_mod, o_pow, o_addT, o_mulT, c_lt, c_le, c_gt, c_ge, wp_eq_int, wp_ne_int, n_bl, n_int, bi_int, bi_len, bi_tuple, bi_list, it_tup, r_tup, r_ref, ix_tup, wp_ix_ref, ixR_lst, ixR_dic, wp_set_ref, setR_dic, sl_tup, sl_ref, pk_int, r1_int, ck_bl, rk_rt, rk_nx, wp_mth, m_append, m_pop, Option.some.injEq, exists_eq_left', setAll, List.length_cons, List.length_nil, List.set_cons_succ, List.set_cons_zero, List.length_set, Nat.reduceAdd, Nat.reduceLT, if_true, Nat.zero_add, reduceCtorEq, false_implies, true_implies, eq_self, and_true, true_and, Bool.true_eq_false, Bool.false_eq_true]
    by_cases hl : xs.length = 4
    · match xs, hl, hx with
      | [a, b, c, t], _, hx =>
        have na := hx a (by simp)
        have nb := hx b (by simp)
        have nc := hx c (by simp)
        have nt := hx t (by simp)
        have q0 := q L (Grow.refl L)
        simp only [Mv.items, ITs.len, pm0, wp_bind, wp_ret, wp_chk, wp_ofO, wp_look, wp_new, wp_setO, wp_br, v_var, v_lit, v_glo, v_bin, v_neg, v_cmp, v_cmp2, v_and, v_or, v_not, v_ife, v_tup, v_lst, v_dct0, v_dct, v_ix, v_slc, v_rev, v_bi, v_isi, v_mth, v_call, v_comp, vs_nil, vs_cons, vo_none, vo_some, vc_none, vc_some, vi_val, vi_rng1, vi_rng2, vt_tup, vt_sub, vts_nil, vts_cons, x_asg, x_par, x_aug, x_exp, x_ret, x_retN, x_ifs, x_for, x_whl, x_brk, x_cnt, x_pss, b_nil', b_cons', sq_nx, sq_rt, sq_bk, sq_ct, gv_0, gv_S, wt_0, wt_S, o_add, o_sub, o_mul, o_fdiv, o_mod, o_pow, o_addT, o_mulT, c_lt, c_le, c_gt, c_ge, wp_eq_int, wp_ne_int, n_bl, n_int, bi_int, bi_len, bi_tuple, bi_list, it_tup, r_tup, r_ref, ix_tup, wp_ix_ref, ixR_lst, ixR_dic, wp_set_ref, setR_dic, sl_tup, sl_ref, pk_int, r1_int, ck_bl, rk_rt, rk_nx, wp_mth, m_append, m_pop, Option.some.injEq, exists_eq_left', setAll, List.length_cons, List.length_nil, List.set_cons_succ, List.set_cons_zero, List.length_set, Nat.reduceAdd, Nat.reduceLT, if_true, Nat.zero_add, reduceCtorEq, false_implies, true_implies, eq_self, and_true, true_and, Bool.true_eq_false, Bool.false_eq_true]
        have d4 : decide ((((0 + 1 + 1 + 1 + 1 : Nat)) : Int) = 4) = true := by decide
        have d4' : decide (((4 : Nat) : Int) = 4) = true := by decide
        simp only [d4, d4', decide_true, Bool.not_true, wp_bind, wp_ret, wp_chk, wp_ofO, wp_look, wp_new, wp_setO, wp_br, v_var, v_lit, v_glo, v_bin, v_neg, v_cmp, v_cmp2, v_and, v_or, v_not, v_ife, v_tup, v_lst, v_dct0, v_dct, v_ix, v_slc, v_rev, v_bi, v_isi, v_mth, v_call, v_comp, vs_nil, vs_cons, vo_none, vo_some, vc_none, vc_some, vi_val, vi_rng1, vi_rng2, vt_tup, vt_sub, vts_nil, vts_cons, x_asg, x_par, x_aug, x_exp, x_ret, x_retN, x_ifs, x_for, x_whl, x_brk, x_cnt, x_pss, b_nil', b_cons', sq_nx, sq_rt, sq_bk, sq_ct, gv_0, gv_S, wt_0, wt_S, o_add, o_sub, o_mul, o_fdiv, o_mod, o_pow, o_addT, o_mulT, c_lt, c_le, c_gt, c_ge, wp_eq_int, wp_ne_int, n_bl, n_int, bi_int, bi_len, bi_tuple, bi_list, it_tup, r_tup, r_ref, ix_tup, wp_ix_ref, ixR_lst, ixR_dic, wp_set_ref, setR_dic, sl_tup, sl_ref, pk_int, r1_int, ck_bl, rk_rt, rk_nx, wp_mth, m_append, m_pop, Option.some.injEq, exists_eq_left', setAll, List.length_cons, List.length_nil, List.set_cons_succ, List.set_cons_zero, List.length_set, Nat.reduceAdd, Nat.reduceLT, if_true, Nat.zero_add, reduceCtorEq, false_implies, true_implies, eq_self, and_true, true_and, Bool.true_eq_false, Bool.false_eq_true]
        have eS : ∀ b c t, isSweep s (.tup [a, b, c, t]) = (isWay a && (match b, c, t with
            | .int p, .int w, .tup ts => (decide (1 ≤ p) && decide (1 ≤ w)) && tabsOk s p w ts
            | _, _, _ => false)) := fun b c t => by
          cases b <;> first
            | (cases c <;> first
              | (cases t <;> first
                | exact (Bool.and_assoc ..)
                | exact (Bool.and_false _).symm)
              | exact (Bool.and_false _).symm)
            | exact (Bool.and_false _).symm
        rw [eS] at q0
        refine isi_s na.ok ?_
        cases a with
        | str z =>
          simp only [isStr, Bool.not_true, wp_bind, wp_ret, wp_chk, wp_ofO, wp_look, wp_new, wp_setO, wp_br, v_var, v_lit, v_glo, v_bin, v_neg, v_cmp, v_cmp2, v_and, v_or, v_not, v_ife, v_tup, v_lst, v_dct0, v_dct, v_ix, v_slc, v_rev, v_bi, v_isi, v_mth, v_call, v_comp, vs_nil, vs_cons, vo_none, vo_some, vc_none, vc_some, vi_val, vi_rng1, vi_rng2, vt_tup, vt_sub, vts_nil, vts_cons, x_asg, x_par, x_aug, x_exp, x_ret, x_retN, x_ifs, x_for, x_whl, x_brk, x_cnt, x_pss, b_nil', b_cons', sq_nx, sq_rt, sq_bk, sq_ct, gv_0, gv_S, wt_0, wt_S, o_add, o_sub, o_mul, o_fdiv, o_mod, o_pow, o_addT, o_mulT, c_lt, c_le, c_gt, c_ge, wp_eq_int, wp_ne_int, n_bl, n_int, bi_int, bi_len, bi_tuple, bi_list, it_tup, r_tup, r_ref, ix_tup, wp_ix_ref, ixR_lst, ixR_dic, wp_set_ref, setR_dic, sl_tup, sl_ref, pk_int, r1_int, ck_bl, rk_rt, rk_nx, wp_mth, m_append, m_pop, Option.some.injEq, exists_eq_left', setAll, List.length_cons, List.length_nil, List.set_cons_succ, List.set_cons_zero, List.length_set, Nat.reduceAdd, Nat.reduceLT, if_true, Nat.zero_add, reduceCtorEq, false_implies, true_implies, eq_self, and_true, true_and, Bool.true_eq_false, Bool.false_eq_true]
          refine ⟨by decide, wp_nin (ys := [.str (Str.ofString "right"), .str (Str.ofString "left")]) rfl rfl ?_⟩
          rw [in_two]
          have eW : (decide (z = Str.ofString "right") || decide (z = Str.ofString "left")) = isWay (.str z) := rfl
          rw [eW]
          cases ha : isWay (.str z) with
          | false =>
            rw [ha, Bool.false_and] at q0
            simp only [Bool.not_false, wp_bind, wp_ret, wp_chk, wp_ofO, wp_look, wp_new, wp_setO, wp_br, v_var, v_lit, v_glo, v_bin, v_neg, v_cmp, v_cmp2, v_and, v_or, v_not, v_ife, v_tup, v_lst, v_dct0, v_dct, v_ix, v_slc, v_rev, v_bi, v_isi, v_mth, v_call, v_comp, vs_nil, vs_cons, vo_none, vo_some, vc_none, vc_some, vi_val, vi_rng1, vi_rng2, vt_tup, vt_sub, vts_nil, vts_cons, x_asg, x_par, x_aug, x_exp, x_ret, x_retN, x_ifs, x_for, x_whl, x_brk, x_cnt, x_pss, b_nil', b_cons', sq_nx, sq_rt, sq_bk, sq_ct, gv_0, gv_S, wt_0, wt_S, o_add, o_sub, o_mul, o_fdiv, o_mod, o_pow, o_addT, o_mulT, c_lt, c_le, c_gt, c_ge, wp_eq_int, wp_ne_int, n_bl, n_int, bi_int, bi_len, bi_tuple, bi_list, it_tup, r_tup, r_ref, ix_tup, wp_ix_ref, ixR_lst, ixR_dic, wp_set_ref, setR_dic, sl_tup, sl_ref, pk_int, r1_int, ck_bl, rk_rt, rk_nx, wp_mth, m_append, m_pop, Option.some.injEq, exists_eq_left', setAll, List.length_cons, List.length_nil, List.set_cons_succ, List.set_cons_zero, List.length_set, Nat.reduceAdd, Nat.reduceLT, if_true, Nat.zero_add, reduceCtorEq, false_implies, true_implies, eq_self, and_true, true_and, Bool.true_eq_false, Bool.false_eq_true]
            exact q0
          | true =>
            rw [ha, Bool.true_and] at q0
            simp only [Bool.not_true, pm0, wp_bind, wp_ret, wp_chk, wp_ofO, wp_look, wp_new, wp_setO, wp_br, v_var, v_lit, v_glo, v_bin, v_neg, v_cmp, v_cmp2, v_and, v_or, v_not, v_ife, v_tup, v_lst, v_dct0, v_dct, v_ix, v_slc, v_rev, v_bi, v_isi, v_mth, v_call, v_comp, vs_nil, vs_cons, vo_none, vo_some, vc_none, vc_some, vi_val, vi_rng1, vi_rng2, vt_tup, vt_sub, vts_nil, vts_cons, x_asg, x_par, x_aug, x_exp, x_ret, x_retN, x_ifs, x_for, x_whl, x_brk, x_cnt, x_pss, b_nil', b_cons', sq_nx, sq_rt, sq_bk, sq_ct, gv_0, gv_S, wt_0, wt_S, o_add, o_sub, o_mul, o_fdiv, o_mod, o_pow, o_addT, o_mulT, c_lt, c_le, c_gt, c_ge, wp_eq_int, wp_ne_int, n_bl, n_int, bi_int, bi_len, bi_tuple, bi_list, it_tup, r_tup, r_ref, ix_tup, wp_ix_ref, ixR_lst, ixR_dic, wp_set_ref, setR_dic, sl_tup, sl_ref, pk_int, r1_int, ck_bl, rk_rt, rk_nx, wp_mth, m_append, m_pop, Option.some.injEq, exists_eq_left', setAll, List.length_cons, List.length_nil, List.set_cons_succ, List.set_cons_zero, List.length_set, Nat.reduceAdd, Nat.reduceLT, if_true, Nat.zero_add, reduceCtorEq, false_implies, true_implies, eq_self, and_true, true_and, Bool.true_eq_false, Bool.false_eq_true]
            refine l_is_integer_ok nb.ok ?_
            cases b with
            | int p =>
              simp only [isInt, Bool.not_true, pm0, wp_bind, wp_ret, wp_chk, wp_ofO, wp_look, wp_new, wp_setO, wp_br, v_var, v_lit, v_glo, v_bin, v_neg, v_cmp, v_cmp2, v_and, v_or, v_not, v_ife, v_tup, v_lst, v_dct0, v_dct, v_ix, v_slc, v_rev, v_bi, v_isi, v_mth, v_call, v_comp, vs_nil, vs_cons, vo_none, vo_some, vc_none, vc_some, vi_val, vi_rng1, vi_rng2, vt_tup, vt_sub, vts_nil, vts_cons, x_asg, x_par, x_aug, x_exp, x_ret, x_retN, x_ifs, x_for, x_whl, x_brk, x_cnt, x_pss, b_nil', b_cons', sq_nx, sq_rt, sq_bk, sq_ct, gv_0, gv_S, wt_0, wt_S, o_add, o_sub, o_mul, o_fdiv, o_mod, o_pow, o_addT, o_mulT, c_lt, c_le, c_gt, c_ge, wp_eq_int, wp_ne_int, n_bl, n_int, bi_int, bi_len, bi_tuple, bi_list, it_tup, r_tup, r_ref, ix_tup, wp_ix_ref, ixR_lst, ixR_dic, wp_set_ref, setR_dic, sl_tup, sl_ref, pk_int, r1_int, ck_bl, rk_rt, rk_nx, wp_mth, m_append, m_pop, Option.some.injEq, exists_eq_left', setAll, List.length_cons, List.length_nil, List.set_cons_succ, List.set_cons_zero, List.length_set, Nat.reduceAdd, Nat.reduceLT, if_true, Nat.zero_add, reduceCtorEq, false_implies, true_implies, eq_self, and_true, true_and, Bool.true_eq_false, Bool.false_eq_true]
              refine l_is_integer_ok nc.ok ?_
              cases c with
              | int w =>
                simp only [isInt, Bool.not_true, wp_bind, wp_ret, wp_chk, wp_ofO, wp_look, wp_new, wp_setO, wp_br, v_var, v_lit, v_glo, v_bin, v_neg, v_cmp, v_cmp2, v_and, v_or, v_not, v_ife, v_tup, v_lst, v_dct0, v_dct, v_ix, v_slc, v_rev, v_bi, v_isi, v_mth, v_call, v_comp, vs_nil, vs_cons, vo_none, vo_some, vc_none, vc_some, vi_val, vi_rng1, vi_rng2, vt_tup, vt_sub, vts_nil, vts_cons, x_asg, x_par, x_aug, x_exp, x_ret, x_retN, x_ifs, x_for, x_whl, x_brk, x_cnt, x_pss, b_nil', b_cons', sq_nx, sq_rt, sq_bk, sq_ct, gv_0, gv_S, wt_0, wt_S, o_add, o_sub, o_mul, o_fdiv, o_mod, o_pow, o_addT, o_mulT, c_lt, c_le, c_gt, c_ge, wp_eq_int, wp_ne_int, n_bl, n_int, bi_int, bi_len, bi_tuple, bi_list, it_tup, r_tup, r_ref, ix_tup, wp_ix_ref, ixR_lst, ixR_dic, wp_set_ref, setR_dic, sl_tup, sl_ref, pk_int, r1_int, ck_bl, rk_rt, rk_nx, wp_mth, m_append, m_pop, Option.some.injEq, exists_eq_left', setAll, List.length_cons, List.length_nil, List.set_cons_succ, List.set_cons_zero, List.length_set, Nat.reduceAdd, Nat.reduceLT, if_true, Nat.zero_add, reduceCtorEq, false_implies, true_implies, eq_self, and_true, true_and, Bool.true_eq_false, Bool.false_eq_true]
                by_cases c1 : p < 1
                · have d1 : decide (p < 1) = true := decide_eq_true c1
                  simp only [d1, wp_bind, wp_ret, wp_chk, wp_ofO, wp_look, wp_new, wp_setO, wp_br, v_var, v_lit, v_glo, v_bin, v_neg, v_cmp, v_cmp2, v_and, v_or, v_not, v_ife, v_tup, v_lst, v_dct0, v_dct, v_ix, v_slc, v_rev, v_bi, v_isi, v_mth, v_call, v_comp, vs_nil, vs_cons, vo_none, vo_some, vc_none, vc_some, vi_val, vi_rng1, vi_rng2, vt_tup, vt_sub, vts_nil, vts_cons, x_asg, x_par, x_aug, x_exp, x_ret, x_retN, x_ifs, x_for, x_whl, x_brk, x_cnt, x_pss, b_nil', b_cons', sq_nx, sq_rt, sq_bk, sq_ct, gv_0, gv_S, wt_0, wt_S, o_add, o_sub, o_mul, o_fdiv, o_mod, o_pow, o_addT, o_mulT, c_lt, c_le, c_gt, c_ge, wp_eq_int, wp_ne_int, n_bl, n_int, bi_int, bi_len, bi_tuple, bi_list, it_tup, r_tup, r_ref, ix_tup, wp_ix_ref, ixR_lst, ixR_dic, wp_set_ref, setR_dic, sl_tup, sl_ref, pk_int, r1_int, ck_bl, rk_rt, rk_nx, wp_mth, m_append, m_pop, Option.some.injEq, exists_eq_left', setAll, List.length_cons, List.length_nil, List.set_cons_succ, List.set_cons_zero, List.length_set, Nat.reduceAdd, Nat.reduceLT, if_true, Nat.zero_add, reduceCtorEq, false_implies, true_implies, eq_self, and_true, true_and, Bool.true_eq_false, Bool.false_eq_true]
                  have e0 : decide (1 ≤ p) = false := decide_eq_false (by omega)
                  cases t <;> first
                    | exact q0
                    | (dsimp only at q0; rw [e0] at q0; exact q0)
                · have d1 : decide (p < 1) = false := decide_eq_false c1
                  by_cases c2 : w < 1
                  · have d2 : decide (w < 1) = true := decide_eq_true c2
                    simp only [d1, d2, wp_bind, wp_ret, wp_chk, wp_ofO, wp_look, wp_new, wp_setO, wp_br, v_var, v_lit, v_glo, v_bin, v_neg, v_cmp, v_cmp2, v_and, v_or, v_not, v_ife, v_tup, v_lst, v_dct0, v_dct, v_ix, v_slc, v_rev, v_bi, v_isi, v_mth, v_call, v_comp, vs_nil, vs_cons, vo_none, vo_some, vc_none, vc_some, vi_val, vi_rng1, vi_rng2, vt_tup, vt_sub, vts_nil, vts_cons, x_asg, x_par, x_aug, x_exp, x_ret, x_retN, x_ifs, x_for, x_whl, x_brk, x_cnt, x_pss, b_nil', b_cons', sq_nx, sq_rt, sq_bk, sq_ct, gv_0, gv_S, wt_0, wt_S, o_add, o_sub, o_mul, o_fdiv, o_mod, o_pow, o_addT, o_mulT, c_lt, c_le, c_gt, c_ge, wp_eq_int, wp_ne_int, n_bl, n_int, bi_int, bi_len, bi_tuple, bi_list, it_tup, r_tup, r_ref, ix_tup, wp_ix_ref, ixR_lst, ixR_dic, wp_set_ref, setR_dic, sl_tup, sl_ref, pk_int, r1_int, ck_bl, rk_rt, rk_nx, wp_mth, m_append, m_pop, Option.some.injEq, exists_eq_left', setAll, List.length_cons, List.length_nil, List.set_cons_succ, List.set_cons_zero, List.length_set, Nat.reduceAdd, Nat.reduceLT, if_true, Nat.zero_add, reduceCtorEq, false_implies, true_implies, eq_self, and_true, true_and, Bool.true_eq_false, Bool.false_eq_true]
                    have e0 : decide (1 ≤ w) = false := decide_eq_false (by omega)
                    cases t <;> first
                      | exact q0
                      | (dsimp only at q0; rw [e0, Bool.and_false] at q0; exact q0)
                  · have d2 : decide (w < 1) = false := decide_eq_false c2
                    simp only [d1, d2, wp_bind, wp_ret, wp_chk, wp_ofO, wp_look, wp_new, wp_setO, wp_br, v_var, v_lit, v_glo, v_bin, v_neg, v_cmp, v_cmp2, v_and, v_or, v_not, v_ife, v_tup, v_lst, v_dct0, v_dct, v_ix, v_slc, v_rev, v_bi, v_isi, v_mth, v_call, v_comp, vs_nil, vs_cons, vo_none, vo_some, vc_none, vc_some, vi_val, vi_rng1, vi_rng2, vt_tup, vt_sub, vts_nil, vts_cons, x_asg, x_par, x_aug, x_exp, x_ret, x_retN, x_ifs, x_for, x_whl, x_brk, x_cnt, x_pss, b_nil', b_cons', sq_nx, sq_rt, sq_bk, sq_ct, gv_0, gv_S, wt_0, wt_S, o_add, o_sub, o_mul, o_fdiv, o_mod, o_pow, o_addT, o_mulT, c_lt, c_le, c_gt, c_ge, wp_eq_int, wp_ne_int, n_bl, n_int, bi_int, bi_len, bi_tuple, bi_list, it_tup, r_tup, r_ref, ix_tup, wp_ix_ref, ixR_lst, ixR_dic, wp_set_ref, setR_dic, sl_tup, sl_ref, pk_int, r1_int, ck_bl, rk_rt, rk_nx, wp_mth, m_append, m_pop, Option.some.injEq, exists_eq_left', setAll, List.length_cons, List.length_nil, List.set_cons_succ, List.set_cons_zero, List.length_set, Nat.reduceAdd, Nat.reduceLT, if_true, Nat.zero_add, reduceCtorEq, false_implies, true_implies, eq_self, and_true, true_and, Bool.true_eq_false, Bool.false_eq_true]
                    refine due_tail hs (by omega) (by omega) nt (fun ts e => hd (.str z) (.int p) (.int w) ts (by rw [e])) fun L' g => ?_
                    have q1 := q L' g
                    rw [eS, ha, Bool.true_and] at q1
                    have e1 : decide (1 ≤ p) = true := decide_eq_true (by omega)
                    have e2 : decide (1 ≤ w) = true := decide_eq_true (by omega)
                    cases t <;> first
                      | exact q1
                      | (dsimp only at q1; rw [e1, e2] at q1; exact q1)
              | _ =>
                simp only [isInt, Bool.not_false, wp_bind, wp_ret, wp_chk, wp_ofO, wp_look, wp_new, wp_setO, wp_br, v_var, v_lit, v_glo, v_bin, v_neg, v_cmp, v_cmp2, v_and, v_or, v_not, v_ife, v_tup, v_lst, v_dct0, v_dct, v_ix, v_slc, v_rev, v_bi, v_isi, v_mth, v_call, v_comp, vs_nil, vs_cons, vo_none, vo_some, vc_none, vc_some, vi_val, vi_rng1, vi_rng2, vt_tup, vt_sub, vts_nil, vts_cons, x_asg, x_par, x_aug, x_exp, x_ret, x_retN, x_ifs, x_for, x_whl, x_brk, x_cnt, x_pss, b_nil', b_cons', sq_nx, sq_rt, sq_bk, sq_ct, gv_0, gv_S, wt_0, wt_S, o_add, o_sub, o_mul, o_fdiv, o_mod, o_pow, o_addT, o_mulT, c_lt, c_le, c_gt, c_ge, wp_eq_int, wp_ne_int, n_bl, n_int, bi_int, bi_len, bi_tuple, bi_list, it_tup, r_tup, r_ref, ix_tup, wp_ix_ref, ixR_lst, ixR_dic, wp_set_ref, setR_dic, sl_tup, sl_ref, pk_int, r1_int, ck_bl, rk_rt, rk_nx, wp_mth, m_append, m_pop, Option.some.injEq, exists_eq_left', setAll, List.length_cons, List.length_nil, List.set_cons_succ, List.set_cons_zero, List.length_set, Nat.reduceAdd, Nat.reduceLT, if_true, Nat.zero_add, reduceCtorEq, false_implies, true_implies, eq_self, and_true, true_and, Bool.true_eq_false, Bool.false_eq_true]
                exact q0
            | _ =>
              simp only [isInt, Bool.not_false, wp_bind, wp_ret, wp_chk, wp_ofO, wp_look, wp_new, wp_setO, wp_br, v_var, v_lit, v_glo, v_bin, v_neg, v_cmp, v_cmp2, v_and, v_or, v_not, v_ife, v_tup, v_lst, v_dct0, v_dct, v_ix, v_slc, v_rev, v_bi, v_isi, v_mth, v_call, v_comp, vs_nil, vs_cons, vo_none, vo_some, vc_none, vc_some, vi_val, vi_rng1, vi_rng2, vt_tup, vt_sub, vts_nil, vts_cons, x_asg, x_par, x_aug, x_exp, x_ret, x_retN, x_ifs, x_for, x_whl, x_brk, x_cnt, x_pss, b_nil', b_cons', sq_nx, sq_rt, sq_bk, sq_ct, gv_0, gv_S, wt_0, wt_S, o_add, o_sub, o_mul, o_fdiv, o_mod, o_pow, o_addT, o_mulT, c_lt, c_le, c_gt, c_ge, wp_eq_int, wp_ne_int, n_bl, n_int, bi_int, bi_len, bi_tuple, bi_list, it_tup, r_tup, r_ref, ix_tup, wp_ix_ref, ixR_lst, ixR_dic, wp_set_ref, setR_dic, sl_tup, sl_ref, pk_int, r1_int, ck_bl, rk_rt, rk_nx, wp_mth, m_append, m_pop, Option.some.injEq, exists_eq_left', setAll, List.length_cons, List.length_nil, List.set_cons_succ, List.set_cons_zero, List.length_set, Nat.reduceAdd, Nat.reduceLT, if_true, Nat.zero_add, reduceCtorEq, false_implies, true_implies, eq_self, and_true, true_and, Bool.true_eq_false, Bool.false_eq_true]
              exact q0
        | _ =>
          simp only [isStr, Bool.not_false, wp_bind, wp_ret, wp_chk, wp_ofO, wp_look, wp_new, wp_setO, wp_br, v_var, v_lit, v_glo, v_bin, v_neg, v_cmp, v_cmp2, v_and, v_or, v_not, v_ife, v_tup, v_lst, v_dct0, v_dct, v_ix, v_slc, v_rev, v_bi, v_isi, v_mth, v_call, v_comp, vs_nil, vs_cons, vo_none, vo_some, vc_none, vc_some, vi_val, vi_rng1, vi_rng2, vt_tup, vt_sub, vts_nil, vts_cons, x_asg, x_par, x_aug, x_exp, x_ret, x_retN, x_ifs, x_for, x_whl, x_brk, x_cnt, x_pss, b_nil', b_cons', sq_nx, sq_rt, sq_bk, sq_ct, gv_0, gv_S, wt_0, wt_S, o_add, o_sub, o_mul, o_fdiv, o_mod, o_pow, o_addT, o_mulT, c_lt, c_le, c_gt, c_ge, wp_eq_int, wp_ne_int, n_bl, n_int, bi_int, bi_len, bi_tuple, bi_list, it_tup, r_tup, r_ref, ix_tup, wp_ix_ref, ixR_lst, ixR_dic, wp_set_ref, setR_dic, sl_tup, sl_ref, pk_int, r1_int, ck_bl, rk_rt, rk_nx, wp_mth, m_append, m_pop, Option.some.injEq, exists_eq_left', setAll, List.length_cons, List.length_nil, List.set_cons_succ, List.set_cons_zero, List.length_set, Nat.reduceAdd, Nat.reduceLT, if_true, Nat.zero_add, reduceCtorEq, false_implies, true_implies, eq_self, and_true, true_and, Bool.true_eq_false, Bool.false_eq_true]
          exact q0
    · have d1 : decide ((xs.length : Int) = 4) = false := decide_eq_false (by omega)
      simp only [d1, Bool.not_false, wp_bind, wp_ret, wp_chk, wp_ofO, wp_look, wp_new, wp_setO, wp_br, v_var, v_lit, v_glo, v_bin, v_neg, v_cmp, v_cmp2, v_and, v_or, v_not, v_ife, v_tup, v_lst, v_dct0, v_dct, v_ix, v_slc, v_rev, v_bi, v_isi, v_mth, v_call, v_comp, vs_nil, vs_cons, vo_none, vo_some, vc_none, vc_some, vi_val, vi_rng1, vi_rng2, vt_tup, vt_sub, vts_nil, vts_cons, x_asg, x_par, x_aug, x_exp, x_ret, x_retN, x_ifs, x_for, x_whl, x_brk, x_cnt, x_pss, b_nil', b_cons', sq_nx, sq_rt, sq_bk, sq_ct, gv_0, gv_S, wt_0, wt_S, o_add, o_sub, o_mul, o_fdiv, o_mod, o_pow, o_addT, o_mulT, c_lt, c_le, c_gt, c_ge, wp_eq_int, wp_ne_int, n_bl, n_int, bi_int, bi_len, bi_tuple, bi_list, it_tup, r_tup, r_ref, ix_tup, wp_ix_ref, ixR_lst, ixR_dic, wp_set_ref, setR_dic, sl_tup, sl_ref, pk_int, r1_int, ck_bl, rk_rt, rk_nx, wp_mth, m_append, m_pop, Option.some.injEq, exists_eq_left', setAll, List.length_cons, List.length_nil, List.set_cons_succ, List.set_cons_zero, List.length_set, Nat.reduceAdd, Nat.reduceLT, if_true, Nat.zero_add, reduceCtorEq, false_implies, true_implies, eq_self, and_true, true_and, Bool.true_eq_false, Bool.false_eq_true]
      have q0 := q L (Grow.refl L)
      rw [isSweep_no hl] at q0
      exact q0
  | _ =>
    simp only [isTup, Bool.not_false, wp_bind, wp_ret, wp_chk, wp_ofO, wp_look, wp_new, wp_setO, wp_br, v_var, v_lit, v_glo, v_bin, v_neg, v_cmp, v_cmp2, v_and, v_or, v_not, v_ife, v_tup, v_lst, v_dct0, v_dct, v_ix, v_slc, v_rev, v_bi, v_isi, v_mth, v_call, v_comp, vs_nil, vs_cons, vo_none, vo_some, vc_none, vc_some, vi_val, vi_rng1, vi_rng2, vt_tup, vt_sub, vts_nil, vts_cons, x_asg, x_par, x_aug, x_exp, x_ret, x_retN, x_ifs, x_for, x_whl, x_brk, x_cnt, x_pss, b_nil', b_cons', sq_nx, sq_rt, sq_bk, sq_ct, gv_0, gv_S, wt_0, wt_S, o_add, o_sub, o_mul, o_fdiv, o_mod, o_pow, o_addT, o_mulT, c_lt, c_le, c_gt, c_ge, wp_eq_int, wp_ne_int, n_bl, n_int, bi_int, bi_len, bi_tuple, bi_list, it_tup, r_tup, r_ref, ix_tup, wp_ix_ref, ixR_lst, ixR_dic, wp_set_ref, setR_dic, sl_tup, sl_ref, pk_int, r1_int, ck_bl, rk_rt, rk_nx, wp_mth, m_append, m_pop, Option.some.injEq, exists_eq_left', setAll, List.length_cons, List.length_nil, List.set_cons_succ, List.set_cons_zero, List.length_set, Nat.reduceAdd, Nat.reduceLT, if_true, Nat.zero_add, reduceCtorEq, false_implies, true_implies, eq_self, and_true, true_and, Bool.true_eq_false, Bool.false_eq_true]
    exact q L (Grow.refl L)
end K35


namespace K35
open PySem Mv
/-- it can be shown -/
def Shw (L : LH) (v : LV) (d : PyData) : Prop := toR L v = some d ∧ (d.showable && small d.shown.length && decide (d.depth ≤ 64)) = true
theorem dicAt_grow {L L' : LH} {v : LV} (h : okV L v) (g : Grow L L') : dicAt L' v = dicAt L v := by
  obtain ⟨ts, e⟩ := h
  obtain ⟨E, rfl⟩ := g
  cases v with
  | ref n =>
    unfold tyOf at e
    dsimp only at e
    cases e1 : L[n]? with
    | none => rw [e1] at e; cases e
    | some o =>
      unfold dicAt
      dsimp only
      rw [List.getElem?_append_left (lt_of e1)]
  | _ => rfl
theorem Shw.grow {L L' : LH} {v : LV} {d : PyData} (h : Shw L v d) (o : okV L v) (g : Grow L L') : Shw L' v d := by
  refine ⟨?_, h.2⟩
  have e := h.1
  unfold toR at e ⊢
  rw [dicAt_grow o g]
  cases ed : dicAt L v with
  | some kvs => rw [ed] at e; exact e
  | none => rw [ed] at e; exact toD_grow g _ _ _ e
theorem toR_bls {L : LH} {n : Nat} {a b : Bool} (e : L[n]? = some (.lst [.bl a, .bl b])) : Shw L (.ref n) (.list [.bool a, .bool b]) := by
  refine ⟨?_, by cases a <;> cases b <;> decide +kernel⟩
  unfold toR dicAt
  simp only [e]
  unfold toD
  simp only [e]
  rfl
theorem is_right_ok {k : Nat} {s : Int} {v : LV} {d : PyData} {L : LH} {Q : LV → LH → Prop} (hs : 1 < s ∧ s < 100) (h : Nice 3 L v) (hd : ∀ a b c ts, v = .tup [a, b, c, .tup ts] → ∀ x ∈ ts, Dat L x) (sh : Shw L v d) (q : ∀ L', Grow L L' → Q (.bl true) L') :
    wp (run prog (k + 5) 21 [.int s, v]) L Q := by
  show wp (callFn (run prog (k + 4)) f_l_is_right [.int s, v]) L Q
  rw [call_eq, wp_chk]
  refine ⟨rfl, ?_⟩
  show wp (M.bind (evB _ _ [some (.int s), some v, none, none, none]) retK) L Q
  simp only [f_l_is_right, pm01, pm10, wp_bind, wp_ret, wp_chk, wp_ofO, wp_look, wp_new, wp_setO, wp_br, v_var, v_lit, v_glo, v_bin, v_neg, v_cmp, v_cmp2, v_and, v_or, v_not, v_ife, v_tup, v_lst, v_dct0, v_dct, v_ix, v_slc, v_rev, v_bi, v_isi, v_mth, v_call, v_comp, vs_nil, vs_cons, vo_none, vo_some, vc_none, vc_some, vi_val, vi_rng1, vi_rng2, vt_tup, vt_sub, vts_nil, vts_cons, x_asg, x_par, x_aug, x_exp, x_ret, x_retN, x_ifs, x_for, x_whl, x_brk, x_cnt, x_pss, b_nil', b_cons', sq_nx, sq_rt, sq_bk, sq_ct, gv_0, gv_S, wt_0, wt_S, o_add, o_sub, o_mul, o_fdiv, o_mod, o_pow, o_addT, o_mulT, c_lt, c_le, c_gt, c_ge, wp_eq_int, wp_ne_int, n_bl, n_int, bi_int, bi_len, bi_tuple, bi_list, it_tup, r_tup, r_ref, ix_tup, wp_ix_ref, ixR_lst, ixR_dic, wp_set_ref, setR_dic, sl_tup, sl_ref, pk_int, r1_int, ck_bl, rk_rt, rk_nx, wp_mth, m_append, m_pop, Option.some.injEq, exists_eq_left', setAll, List.length_cons, List.length_nil, List.set_cons_succ, List.set_cons_zero, List.length_set, Nat.reduceAdd, Nat.reduceLT, if_true, Nat.zero_add, reduceCtorEq, false_implies, true_implies, eq_self, and_true, true_and, Bool.true_eq_false, Bool.false_eq_true]
  refine wp_repr sh.1 sh.2 ?_
  refine due_ok hs h hd fun L1 g1 => ?_
  try simp only [pm01, pm10, wp_bind, wp_ret, wp_chk, wp_ofO, wp_look, wp_new, wp_setO, wp_br, v_var, v_lit, v_glo, v_bin, v_neg, v_cmp, v_cmp2, v_and, v_or, v_not, v_ife, v_tup, v_lst, v_dct0, v_dct, v_ix, v_slc, v_rev, v_bi, v_isi, v_mth, v_call, v_comp, vs_nil, vs_cons, vo_none, vo_some, vc_none, vc_some, vi_val, vi_rng1, vi_rng2, vt_tup, vt_sub, vts_nil, vts_cons, x_asg, x_par, x_aug, x_exp, x_ret, x_retN, x_ifs, x_for, x_whl, x_brk, x_cnt, x_pss, b_nil', b_cons', sq_nx, sq_rt, sq_bk, sq_ct, gv_0, gv_S, wt_0, wt_S, o_add, o_sub, o_mul, o_fdiv, o_mod, o_pow, o_addT, o_mulT, c_lt, c_le, c_gt, c_ge, wp_eq_int, wp_ne_int, n_bl, n_int, bi_int, bi_len, bi_tuple, bi_list, it_tup, r_tup, r_ref, ix_tup, wp_ix_ref, ixR_lst, ixR_dic, wp_set_ref, setR_dic, sl_tup, sl_ref, pk_int, r1_int, ck_bl, rk_rt, rk_nx, wp_mth, m_append, m_pop, Option.some.injEq, exists_eq_left', setAll, List.length_cons, List.length_nil, List.set_cons_succ, List.set_cons_zero, List.length_set, Nat.reduceAdd, Nat.reduceLT, if_true, Nat.zero_add, reduceCtorEq, false_implies, true_implies, eq_self, and_true, true_and, Bool.true_eq_false, Bool.false_eq_true]
  refine is_sweep_ok hs (h.grow g1) fun L2 g2 => ?_
  refine is_sweep_ok hs (h.grow (g1.trans g2)) fun L3 g3 => ?_
  refine ⟨by decide, ?_⟩
  have G := (g1.trans g2).trans g3
  have t1 := toR_bls (L := L3 ++ [LO.lst [LV.bl (isSweep s v), LV.bl (isSweep s v)]]) (n := L3.length) (a := isSweep s v) (b := isSweep s v) (by simp)
  refine wp_repr t1.1 t1.2 ?_
  refine ⟨by decide, ?_⟩
  have t2 := toR_bls (L := L3 ++ [LO.lst [LV.bl (isSweep s v), LV.bl (isSweep s v)]] ++ [LO.lst [LV.bl (isSweep s v), LV.bl (isSweep s v)]]) (n := (L3 ++ [LO.lst [LV.bl (isSweep s v), LV.bl (isSweep s v)]]).length) (a := isSweep s v) (b := isSweep s v) (by simp)
  refine wp_repr t2.1 t2.2 ?_
  refine wp_eq (b := true) (by show some (decide _) = some true; rw [decide_eq_true rfl]) rfl ?_
  simp only [wp_bind, wp_ret, wp_chk, wp_ofO, wp_look, wp_new, wp_setO, wp_br, v_var, v_lit, v_glo, v_bin, v_neg, v_cmp, v_cmp2, v_and, v_or, v_not, v_ife, v_tup, v_lst, v_dct0, v_dct, v_ix, v_slc, v_rev, v_bi, v_isi, v_mth, v_call, v_comp, vs_nil, vs_cons, vo_none, vo_some, vc_none, vc_some, vi_val, vi_rng1, vi_rng2, vt_tup, vt_sub, vts_nil, vts_cons, x_asg, x_par, x_aug, x_exp, x_ret, x_retN, x_ifs, x_for, x_whl, x_brk, x_cnt, x_pss, b_nil', b_cons', sq_nx, sq_rt, sq_bk, sq_ct, gv_0, gv_S, wt_0, wt_S, o_add, o_sub, o_mul, o_fdiv, o_mod, o_pow, o_addT, o_mulT, c_lt, c_le, c_gt, c_ge, wp_eq_int, wp_ne_int, n_bl, n_int, bi_int, bi_len, bi_tuple, bi_list, it_tup, r_tup, r_ref, ix_tup, wp_ix_ref, ixR_lst, ixR_dic, wp_set_ref, setR_dic, sl_tup, sl_ref, pk_int, r1_int, ck_bl, rk_rt, rk_nx, wp_mth, m_append, m_pop, Option.some.injEq, exists_eq_left', setAll, List.length_cons, List.length_nil, List.set_cons_succ, List.set_cons_zero, List.length_set, Nat.reduceAdd, Nat.reduceLT, if_true, Nat.zero_add, reduceCtorEq, false_implies, true_implies, eq_self, and_true, true_and, Bool.true_eq_false, Bool.false_eq_true]
  have G2 : Grow L (L3 ++ [LO.lst [LV.bl (isSweep s v), LV.bl (isSweep s v)]] ++ [LO.lst [LV.bl (isSweep s v), LV.bl (isSweep s v)]]) := (G.trans ⟨_, rfl⟩).trans ⟨_, rfl⟩
  have t3 := sh.grow h.ok G2
  refine wp_repr t3.1 t3.2 ?_
  refine wp_eq (b := true) (by show some (decide _) = some true; rw [decide_eq_true rfl]) rfl ?_
  exact q _ G2
end K35


namespace K35
open PySem Mv
/-- one of a list's values; the list itself is left as it is -/
theorem pick_ok {k d h t s : Nat} {ys : List LV} {L : LH} {Q : LV → LH → Prop} (D : Deck d h t L) (ht : t < 274877906944) (hs : s ≠ d ∧ s ≠ h) (e : L[s]? = some (.lst ys)) (hl : 0 < ys.length ∧ ys.length < 1000)
    (q : ∀ (z : LV) (L' : LH), z ∈ ys → Deck d h (t + 1) L' → Fr d h L L' → Q z L') : wp (run prog (k + 2) 8 [.ref d, .ref s]) L Q := by
  show wp (callFn (run prog (k + 1)) f_l_pick [.ref d, .ref s]) L Q
  rw [call_eq, wp_chk]
  refine ⟨rfl, ?_⟩
  show wp (M.bind (evB _ _ [some (.ref d), some (.ref s)]) retK) L Q
  simp only [f_l_pick, len_lst e, pm01, wp_bind, wp_ret, wp_chk, wp_ofO, wp_look, wp_new, wp_setO, wp_br, v_var, v_lit, v_glo, v_bin, v_neg, v_cmp, v_cmp2, v_and, v_or, v_not, v_ife, v_tup, v_lst, v_dct0, v_dct, v_ix, v_slc, v_rev, v_bi, v_isi, v_mth, v_call, v_comp, vs_nil, vs_cons, vo_none, vo_some, vc_none, vc_some, vi_val, vi_rng1, vi_rng2, vt_tup, vt_sub, vts_nil, vts_cons, x_asg, x_par, x_aug, x_exp, x_ret, x_retN, x_ifs, x_for, x_whl, x_brk, x_cnt, x_pss, b_nil', b_cons', sq_nx, sq_rt, sq_bk, sq_ct, gv_0, gv_S, wt_0, wt_S, o_add, o_sub, o_mul, o_fdiv, o_mod, o_pow, o_addT, o_mulT, c_lt, c_le, c_gt, c_ge, wp_eq_int, wp_ne_int, n_bl, n_int, bi_int, bi_len, bi_tuple, bi_list, it_tup, r_tup, r_ref, ix_tup, wp_ix_ref, ixR_lst, ixR_dic, wp_set_ref, setR_dic, sl_tup, sl_ref, pk_int, r1_int, ck_bl, rk_rt, rk_nx, wp_mth, m_append, m_pop, Option.some.injEq, exists_eq_left', setAll, List.length_cons, List.length_nil, List.set_cons_succ, List.set_cons_zero, List.length_set, Nat.reduceAdd, Nat.reduceLT, if_true, Nat.zero_add]
  refine draw_ok D (by omega) (divOk_of ⟨by omega, by omega⟩) ht fun z L' z0 z1 D' F => ?_
  have e' : L'[s]? = some (.lst ys) := (F.at_ s (lt_of e) hs.1 hs.2).trans e
  simp only [e', wp_bind, wp_ret, wp_chk, wp_ofO, wp_look, wp_new, wp_setO, wp_br, v_var, v_lit, v_glo, v_bin, v_neg, v_cmp, v_cmp2, v_and, v_or, v_not, v_ife, v_tup, v_lst, v_dct0, v_dct, v_ix, v_slc, v_rev, v_bi, v_isi, v_mth, v_call, v_comp, vs_nil, vs_cons, vo_none, vo_some, vc_none, vc_some, vi_val, vi_rng1, vi_rng2, vt_tup, vt_sub, vts_nil, vts_cons, x_asg, x_par, x_aug, x_exp, x_ret, x_retN, x_ifs, x_for, x_whl, x_brk, x_cnt, x_pss, b_nil', b_cons', sq_nx, sq_rt, sq_bk, sq_ct, gv_0, gv_S, wt_0, wt_S, o_add, o_sub, o_mul, o_fdiv, o_mod, o_pow, o_addT, o_mulT, c_lt, c_le, c_gt, c_ge, wp_eq_int, wp_ne_int, n_bl, n_int, bi_int, bi_len, bi_tuple, bi_list, it_tup, r_tup, r_ref, ix_tup, wp_ix_ref, ixR_lst, ixR_dic, wp_set_ref, setR_dic, sl_tup, sl_ref, pk_int, r1_int, ck_bl, rk_rt, rk_nx, wp_mth, m_append, m_pop, Option.some.injEq, exists_eq_left', setAll, List.length_cons, List.length_nil, List.set_cons_succ, List.set_cons_zero, List.length_set, Nat.reduceAdd, Nat.reduceLT, if_true, Nat.zero_add]
  have hz : z.toNat < ys.length := by omega
  have ez : z = (z.toNat : Int) := by omega
  refine ⟨ys[z.toNat], ?_, q _ _ (List.getElem_mem hz) D' F⟩
  have e2 := L2.atI_nat (List.getElem?_eq_getElem hz)
  rw [← ez] at e2
  exact e2
theorem deck_ok {k : Nat} {ns : List Int} {Q : LV → LH → Prop} (hl : ns.length ≤ 63) (q : ∀ L', Deck 4 3 0 L' → Q (.ref 4) L') : wp (run prog (k + 1) 6 [.ref 0]) [.frz ns] Q := by
  show wp (callFn (run prog k) f_l_deck [.ref 0]) [.frz ns] Q
  rw [call_eq, wp_chk]
  refine ⟨rfl, ?_⟩
  show wp (M.bind (evB _ _ [some (.ref 0), none, none, none]) retK) [.frz ns] Q
  simp only [f_l_deck, itemsL, Mv.items, List.getElem?_cons_zero, List.getElem?_cons_succ, List.cons_append, List.nil_append, wp_bind, wp_ret, wp_chk, wp_ofO, wp_look, wp_new, wp_setO, wp_br, v_var, v_lit, v_glo, v_bin, v_neg, v_cmp, v_cmp2, v_and, v_or, v_not, v_ife, v_tup, v_lst, v_dct0, v_dct, v_ix, v_slc, v_rev, v_bi, v_isi, v_mth, v_call, v_comp, vs_nil, vs_cons, vo_none, vo_some, vc_none, vc_some, vi_val, vi_rng1, vi_rng2, vt_tup, vt_sub, vts_nil, vts_cons, x_asg, x_par, x_aug, x_exp, x_ret, x_retN, x_ifs, x_for, x_whl, x_brk, x_cnt, x_pss, b_nil', b_cons', sq_nx, sq_rt, sq_bk, sq_ct, gv_0, gv_S, wt_0, wt_S, o_add, o_sub, o_mul, o_fdiv, o_mod, o_pow, o_addT, o_mulT, c_lt, c_le, c_gt, c_ge, wp_eq_int, wp_ne_int, n_bl, n_int, bi_int, bi_len, bi_tuple, bi_list, it_tup, r_tup, r_ref, ix_tup, wp_ix_ref, ixR_lst, ixR_dic, wp_set_ref, setR_dic, sl_tup, sl_ref, pk_int, r1_int, ck_bl, rk_rt, rk_nx, wp_mth, m_append, m_pop, Option.some.injEq, exists_eq_left', setAll, List.length_cons, List.length_nil, List.set_cons_succ, List.set_cons_zero, List.length_set, Nat.reduceAdd, Nat.reduceLT, if_true, Nat.zero_add]
  have ec : cut (List.map LV.int ns) none (some 63) = iv ns := by
    have z := cut_hi (xs := ns) (c := 63) (by decide)
    rw [show Int.toNat 63 = 63 from rfl, List.take_of_length_le hl] at z
    exact z
  rw [ec]
  refine it_ref rfl ?_
  refine wp_for (fun i σ L' => (∃ m d, σ = [some (.ref 0), some (.ref 2), some (.int m), d]) ∧ L' = [LO.frz ns, LO.lst (iv ns), LO.lst (iv ns)]) ⟨⟨_, _, rfl⟩, rfl⟩ ?_ ?_
  · rintro i σ L' hi ⟨⟨m, d, rfl⟩, rfl⟩
    have hi : i < ns.length := by simpa [Src.len, iv_len] using hi
    refine ⟨.int ns[i], iv_get hi, ?_⟩
    simp only [wp_bind, wp_ret, wp_chk, wp_ofO, wp_look, wp_new, wp_setO, wp_br, v_var, v_lit, v_glo, v_bin, v_neg, v_cmp, v_cmp2, v_and, v_or, v_not, v_ife, v_tup, v_lst, v_dct0, v_dct, v_ix, v_slc, v_rev, v_bi, v_isi, v_mth, v_call, v_comp, vs_nil, vs_cons, vo_none, vo_some, vc_none, vc_some, vi_val, vi_rng1, vi_rng2, vt_tup, vt_sub, vts_nil, vts_cons, x_asg, x_par, x_aug, x_exp, x_ret, x_retN, x_ifs, x_for, x_whl, x_brk, x_cnt, x_pss, b_nil', b_cons', sq_nx, sq_rt, sq_bk, sq_ct, gv_0, gv_S, wt_0, wt_S, o_add, o_sub, o_mul, o_fdiv, o_mod, o_pow, o_addT, o_mulT, c_lt, c_le, c_gt, c_ge, wp_eq_int, wp_ne_int, n_bl, n_int, bi_int, bi_len, bi_tuple, bi_list, it_tup, r_tup, r_ref, ix_tup, wp_ix_ref, ixR_lst, ixR_dic, wp_set_ref, setR_dic, sl_tup, sl_ref, pk_int, r1_int, ck_bl, rk_rt, rk_nx, wp_mth, m_append, m_pop, Option.some.injEq, exists_eq_left', setAll, List.length_cons, List.length_nil, List.set_cons_succ, List.set_cons_zero, List.length_set, Nat.reduceAdd, Nat.reduceLT, if_true, Nat.zero_add]
    exact ⟨mulOk_r (by decide), by decide, by decide, ⟨_, _, rfl⟩, rfl⟩
  · rintro σ L' ⟨⟨m, d, rfl⟩, rfl⟩
    refine ⟨by simp [Src.fin, itemsL, iv_len], ?_⟩
    simp only [itemsL, Mv.items, List.getElem?_cons_zero, List.getElem?_cons_succ, List.cons_append, List.nil_append, wp_bind, wp_ret, wp_chk, wp_ofO, wp_look, wp_new, wp_setO, wp_br, v_var, v_lit, v_glo, v_bin, v_neg, v_cmp, v_cmp2, v_and, v_or, v_not, v_ife, v_tup, v_lst, v_dct0, v_dct, v_ix, v_slc, v_rev, v_bi, v_isi, v_mth, v_call, v_comp, vs_nil, vs_cons, vo_none, vo_some, vc_none, vc_some, vi_val, vi_rng1, vi_rng2, vt_tup, vt_sub, vts_nil, vts_cons, x_asg, x_par, x_aug, x_exp, x_ret, x_retN, x_ifs, x_for, x_whl, x_brk, x_cnt, x_pss, b_nil', b_cons', sq_nx, sq_rt, sq_bk, sq_ct, gv_0, gv_S, wt_0, wt_S, o_add, o_sub, o_mul, o_fdiv, o_mod, o_pow, o_addT, o_mulT, c_lt, c_le, c_gt, c_ge, wp_eq_int, wp_ne_int, n_bl, n_int, bi_int, bi_len, bi_tuple, bi_list, it_tup, r_tup, r_ref, ix_tup, wp_ix_ref, ixR_lst, ixR_dic, wp_set_ref, setR_dic, sl_tup, sl_ref, pk_int, r1_int, ck_bl, rk_rt, rk_nx, wp_mth, m_append, m_pop, Option.some.injEq, exists_eq_left', setAll, List.length_cons, List.length_nil, List.set_cons_succ, List.set_cons_zero, List.length_set, Nat.reduceAdd, Nat.reduceLT, if_true, Nat.zero_add]
    refine ⟨by decide, q _ ⟨by decide, ns.reverse, m, by simpa using hl, ?_, ?_⟩⟩
    · rfl
    · simp [iv]
theorem power_ok {k : Nat} {s : Int} {n : Nat} {L : LH} {Q : LV → LH → Prop} (hs : 0 < s ∧ s < 100) (hn : n < 1000) (h : Q (.int (s ^ n)) L) : wp (run prog (k + 1) 9 [.int s, .int n]) L Q := by
  show wp (callFn (run prog k) f_l_power [.int s, .int n]) L Q
  rw [call_eq, wp_chk]
  refine ⟨rfl, ?_⟩
  show wp (M.bind (evB _ _ [some (.int s), some (.int n), none, none]) retK) L Q
  simp only [f_l_power, wp_bind, wp_ret, wp_chk, wp_ofO, wp_look, wp_new, wp_setO, wp_br, v_var, v_lit, v_glo, v_bin, v_neg, v_cmp, v_cmp2, v_and, v_or, v_not, v_ife, v_tup, v_lst, v_dct0, v_dct, v_ix, v_slc, v_rev, v_bi, v_isi, v_mth, v_call, v_comp, vs_nil, vs_cons, vo_none, vo_some, vc_none, vc_some, vi_val, vi_rng1, vi_rng2, vt_tup, vt_sub, vts_nil, vts_cons, x_asg, x_par, x_aug, x_exp, x_ret, x_retN, x_ifs, x_for, x_whl, x_brk, x_cnt, x_pss, b_nil', b_cons', sq_nx, sq_rt, sq_bk, sq_ct, gv_0, gv_S, wt_0, wt_S, o_add, o_sub, o_mul, o_fdiv, o_mod, o_pow, o_addT, o_mulT, c_lt, c_le, c_gt, c_ge, wp_eq_int, wp_ne_int, n_bl, n_int, bi_int, bi_len, bi_tuple, bi_list, it_tup, r_tup, r_ref, ix_tup, wp_ix_ref, ixR_lst, ixR_dic, wp_set_ref, setR_dic, sl_tup, sl_ref, pk_int, r1_int, ck_bl, rk_rt, rk_nx, wp_mth, m_append, m_pop, Option.some.injEq, exists_eq_left', setAll, List.length_cons, List.length_nil, List.set_cons_succ, List.set_cons_zero, List.length_set, Nat.reduceAdd, Nat.reduceLT, if_true, Nat.zero_add]
  refine ⟨by simp only [ints62]; exact decide_eq_true (by omega), ?_⟩
  have e0 : (rngV 0 ((n : Int).toNat)).len = n := by simp [Src.len, rngV]
  refine wp_for (fun i σ L' => ∃ d, σ = [some (.int s), some (.int n), some (.int (s ^ i)), d] ∧ L' = L) ⟨none, by simp, rfl⟩ ?_ ?_
  · rintro i σ L' hi ⟨d, rfl, rfl⟩
    rw [e0] at hi
    refine ⟨.int i, by simp [Src.at, rngV, hi], ?_⟩
    simp only [wp_bind, wp_ret, wp_chk, wp_ofO, wp_look, wp_new, wp_setO, wp_br, v_var, v_lit, v_glo, v_bin, v_neg, v_cmp, v_cmp2, v_and, v_or, v_not, v_ife, v_tup, v_lst, v_dct0, v_dct, v_ix, v_slc, v_rev, v_bi, v_isi, v_mth, v_call, v_comp, vs_nil, vs_cons, vo_none, vo_some, vc_none, vc_some, vi_val, vi_rng1, vi_rng2, vt_tup, vt_sub, vts_nil, vts_cons, x_asg, x_par, x_aug, x_exp, x_ret, x_retN, x_ifs, x_for, x_whl, x_brk, x_cnt, x_pss, b_nil', b_cons', sq_nx, sq_rt, sq_bk, sq_ct, gv_0, gv_S, wt_0, wt_S, o_add, o_sub, o_mul, o_fdiv, o_mod, o_pow, o_addT, o_mulT, c_lt, c_le, c_gt, c_ge, wp_eq_int, wp_ne_int, n_bl, n_int, bi_int, bi_len, bi_tuple, bi_list, it_tup, r_tup, r_ref, ix_tup, wp_ix_ref, ixR_lst, ixR_dic, wp_set_ref, setR_dic, sl_tup, sl_ref, pk_int, r1_int, ck_bl, rk_rt, rk_nx, wp_mth, m_append, m_pop, Option.some.injEq, exists_eq_left', setAll, List.length_cons, List.length_nil, List.set_cons_succ, List.set_cons_zero, List.length_set, Nat.reduceAdd, Nat.reduceLT, if_true, Nat.zero_add]
    exact ⟨mulOk_r (by omega), some (.int i), by rw [Int.pow_succ], rfl⟩
  · rintro σ L' ⟨d, rfl, rfl⟩
    refine ⟨rfl, ?_⟩
    simp only [wp_bind, wp_ret, wp_chk, wp_ofO, wp_look, wp_new, wp_setO, wp_br, v_var, v_lit, v_glo, v_bin, v_neg, v_cmp, v_cmp2, v_and, v_or, v_not, v_ife, v_tup, v_lst, v_dct0, v_dct, v_ix, v_slc, v_rev, v_bi, v_isi, v_mth, v_call, v_comp, vs_nil, vs_cons, vo_none, vo_some, vc_none, vc_some, vi_val, vi_rng1, vi_rng2, vt_tup, vt_sub, vts_nil, vts_cons, x_asg, x_par, x_aug, x_exp, x_ret, x_retN, x_ifs, x_for, x_whl, x_brk, x_cnt, x_pss, b_nil', b_cons', sq_nx, sq_rt, sq_bk, sq_ct, gv_0, gv_S, wt_0, wt_S, o_add, o_sub, o_mul, o_fdiv, o_mod, o_pow, o_addT, o_mulT, c_lt, c_le, c_gt, c_ge, wp_eq_int, wp_ne_int, n_bl, n_int, bi_int, bi_len, bi_tuple, bi_list, it_tup, r_tup, r_ref, ix_tup, wp_ix_ref, ixR_lst, ixR_dic, wp_set_ref, setR_dic, sl_tup, sl_ref, pk_int, r1_int, ck_bl, rk_rt, rk_nx, wp_mth, m_append, m_pop, Option.some.injEq, exists_eq_left', setAll, List.length_cons, List.length_nil, List.set_cons_succ, List.set_cons_zero, List.length_set, Nat.reduceAdd, Nat.reduceLT, if_true, Nat.zero_add]
    rw [e0]
    exact h
end K35


namespace K35
open PySem Mv
theorem cutL_lo {xs : List LV} {c : Int} (hc : 0 ≤ c) : cut xs (some c) none = xs.drop c.toNat := by
  unfold cut
  have e1 : HT.sIx xs.length 0 (some c) = min c.toNat xs.length := by
    show (if c < 0 then _ else min c.toNat xs.length) = _
    rw [if_neg (by omega)]
  have e2 : HT.sIx xs.length xs.length none = xs.length := rfl
  rw [e1, e2]
  by_cases h : c.toNat ≤ xs.length
  · rw [Nat.min_eq_left h, List.take_of_length_le (by simp)]
  · rw [Nat.min_eq_right (by omega), List.drop_of_length_le (by omega), List.drop_of_length_le (by omega)]
    simp
theorem cutL_hi {xs : List LV} {c : Int} (hc : 0 ≤ c) : cut xs none (some c) = xs.take c.toNat := by
  unfold cut
  have e1 : HT.sIx xs.length xs.length (some c) = min c.toNat xs.length := by
    show (if c < 0 then _ else min c.toNat xs.length) = _
    rw [if_neg (by omega)]
  have e2 : HT.sIx xs.length 0 none = 0 := rfl
  rw [e1, e2, List.drop_zero, Nat.sub_zero]
  by_cases h : c.toNat ≤ xs.length
  · rw [Nat.min_eq_left h]
  · rw [Nat.min_eq_right (by omega), List.take_of_length_le (by omega), List.take_of_length_le (by omega)]
theorem put_ok {k : Nat} {xs : List LV} {a : Int} {v : LV} {L : LH} {Q : LV → LH → Prop} (ha : 0 ≤ a ∧ a < xs.length) (hl : xs.length < 100000) (q : Q (.tup (xs.set a.toNat v)) L) : wp (run prog (k + 1) 16 [.tup xs, .int a, v]) L Q := by
  show wp (callFn (run prog k) f_l_put [.tup xs, .int a, v]) L Q
  rw [call_eq, wp_chk]
  refine ⟨rfl, ?_⟩
  show wp (M.bind (evB _ _ [some (.tup xs), some (.int a), some v]) retK) L Q
  simp only [f_l_put, Mv.items, wp_bind, wp_ret, wp_chk, wp_ofO, wp_look, wp_new, wp_setO, wp_br, v_var, v_lit, v_glo, v_bin, v_neg, v_cmp, v_cmp2, v_and, v_or, v_not, v_ife, v_tup, v_lst, v_dct0, v_dct, v_ix, v_slc, v_rev, v_bi, v_isi, v_mth, v_call, v_comp, vs_nil, vs_cons, vo_none, vo_some, vc_none, vc_some, vi_val, vi_rng1, vi_rng2, vt_tup, vt_sub, vts_nil, vts_cons, x_asg, x_par, x_aug, x_exp, x_ret, x_retN, x_ifs, x_for, x_whl, x_brk, x_cnt, x_pss, b_nil', b_cons', sq_nx, sq_rt, sq_bk, sq_ct, gv_0, gv_S, wt_0, wt_S, o_add, o_sub, o_mul, o_fdiv, o_mod, o_pow, o_addT, o_mulT, c_lt, c_le, c_gt, c_ge, wp_eq_int, wp_ne_int, n_bl, n_int, bi_int, bi_len, bi_tuple, bi_list, it_tup, r_tup, r_ref, ix_tup, wp_ix_ref, ixR_lst, ixR_dic, wp_set_ref, setR_dic, sl_tup, sl_ref, pk_int, r1_int, ck_bl, rk_rt, rk_nx, wp_mth, m_append, m_pop, Option.some.injEq, exists_eq_left', setAll, List.length_cons, List.length_nil, List.set_cons_succ, List.set_cons_zero, List.length_set, Nat.reduceAdd, Nat.reduceLT, if_true, Nat.zero_add]
  rw [cutL_hi ha.1, cutL_lo (by omega)]
  have small_of : ∀ n : Nat, n ≤ 300000 → small n = true := fun n h => decide_eq_true (Nat.le_trans h (by decide))
  have e : xs.take a.toNat ++ [v] ++ xs.drop (a + 1).toNat = xs.set a.toNat v := by
    rw [show (a + 1).toNat = a.toNat + 1 by omega, List.set_eq_take_append_cons_drop, if_pos (by omega)]
    simp
  refine ⟨by decide, small_of _ ?_, small_of _ ?_, ?_⟩
  · simp only [List.length_take]
    omega
  · simp only [List.length_append, List.length_take, List.length_drop, List.length_cons, List.length_nil]
    omega
  · rw [e]
    exact q
end K35


namespace K35
open PySem Mv
theorem bi_min' {i j : Int} : biV .min [.int i, .int j] = M.ret (.int (if j < i then j else i)) := rfl
/-- items from -1 to below n -/
def InT (n : Int) (xs : List Int) : Prop := ∀ x ∈ xs, -1 ≤ x ∧ x < n
theorem table_ok {k d h t n : Nat} {L : LH} {Q : LV → LH → Prop} (D : Deck d h t L) (hn : 0 < n ∧ n < 900) (ht : t + 16 < 274877906944)
    (q : ∀ xs L' t', t' ≤ t + 16 → xs.length = n → InT n xs → Deck d h t' L' → Fr d h L L' → Q (.tup (iv xs)) L') : wp (run prog (k + 2) 14 [.ref d, .int n]) L Q := by
  show wp (callFn (run prog (k + 1)) f_l_table [.ref d, .int n]) L Q
  rw [call_eq, wp_chk]
  refine ⟨rfl, ?_⟩
  show wp (M.bind (evB _ _ [some (.ref d), some (.int n), none, none]) retK) L Q
  have l1 : d < L.length := by obtain ⟨_, _, _, _, e, _⟩ := D; exact lt_of e
  have l2 : h < L.length := by obtain ⟨_, _, _, _, _, e⟩ := D; exact lt_of e
  obtain ⟨m, em, hm, hm2⟩ : ∃ m : Nat, (if (16 : Int) < n then 16 else (n : Int)) = (m : Int) ∧ m ≤ 16 ∧ m ≤ n := by
    by_cases c : (16 : Int) < n
    · exact ⟨16, by rw [if_pos c]; rfl, by omega, by omega⟩
    · exact ⟨n, by rw [if_neg c], by omega, by omega⟩
  simp only [f_l_table, bi_min', em, wp_bind, wp_ret, wp_chk, wp_ofO, wp_look, wp_new, wp_setO, wp_br, v_var, v_lit, v_glo, v_bin, v_neg, v_cmp, v_cmp2, v_and, v_or, v_not, v_ife, v_tup, v_lst, v_dct0, v_dct, v_ix, v_slc, v_rev, v_bi, v_isi, v_mth, v_call, v_comp, vs_nil, vs_cons, vo_none, vo_some, vc_none, vc_some, vi_val, vi_rng1, vi_rng2, vt_tup, vt_sub, vts_nil, vts_cons, x_asg, x_par, x_aug, x_exp, x_ret, x_retN, x_ifs, x_for, x_whl, x_brk, x_cnt, x_pss, b_nil', b_cons', sq_nx, sq_rt, sq_bk, sq_ct, gv_0, gv_S, wt_0, wt_S, o_add, o_sub, o_mul, o_fdiv, o_mod, o_pow, o_addT, o_mulT, c_lt, c_le, c_gt, c_ge, wp_eq_int, wp_ne_int, n_bl, n_int, bi_int, bi_len, bi_tuple, bi_list, it_tup, r_tup, r_ref, ix_tup, wp_ix_ref, ixR_lst, ixR_dic, wp_set_ref, setR_dic, sl_tup, sl_ref, pk_int, r1_int, ck_bl, rk_rt, rk_nx, wp_mth, m_append, m_pop, Option.some.injEq, exists_eq_left', setAll, List.length_cons, List.length_nil, List.set_cons_succ, List.set_cons_zero, List.length_set, Nat.reduceAdd, Nat.reduceLT, if_true, Nat.zero_add, reduceCtorEq, false_implies, true_implies, eq_self, and_true, true_and, Bool.true_eq_false, Bool.false_eq_true]
  refine ⟨by simp only [ints62]; exact decide_eq_true (by omega), ?_⟩
  have e0 : (rngV 0 ((m : Int).toNat)).len = m := by simp [Src.len, rngV]
  rw [← wp_new (Q := fun a L1 => wp (compK _ _ a) L1 _), ← wp_bind]
  refine wp_comp (fun i ys L' => ∃ fs, ys = iv fs ∧ fs.length = i ∧ InT n fs ∧ Deck d h (t + i) L' ∧ Fr d h L L') ⟨[], rfl, rfl, fun _ h => (by cases h), D.grow ⟨_, rfl⟩, Fr.grow ⟨_, rfl⟩⟩ ?_ ?_
  · rintro i ys L' hi eD ⟨fs, rfl, hl, hf, D', F'⟩
    rw [e0] at hi
    refine ⟨.int i, by simp [Src.at, rngV, hi], ?_⟩
    simp only [turnC, wipeL, pm01, wp_if, wp_bind, wp_ret, wp_chk, wp_ofO, wp_look, wp_new, wp_setO, wp_br, v_var, v_lit, v_glo, v_bin, v_neg, v_cmp, v_cmp2, v_and, v_or, v_not, v_ife, v_tup, v_lst, v_dct0, v_dct, v_ix, v_slc, v_rev, v_bi, v_isi, v_mth, v_call, v_comp, vs_nil, vs_cons, vo_none, vo_some, vc_none, vc_some, vi_val, vi_rng1, vi_rng2, vt_tup, vt_sub, vts_nil, vts_cons, x_asg, x_par, x_aug, x_exp, x_ret, x_retN, x_ifs, x_for, x_whl, x_brk, x_cnt, x_pss, b_nil', b_cons', sq_nx, sq_rt, sq_bk, sq_ct, gv_0, gv_S, wt_0, wt_S, o_add, o_sub, o_mul, o_fdiv, o_mod, o_pow, o_addT, o_mulT, c_lt, c_le, c_gt, c_ge, wp_eq_int, wp_ne_int, n_bl, n_int, bi_int, bi_len, bi_tuple, bi_list, it_tup, r_tup, r_ref, ix_tup, wp_ix_ref, ixR_lst, ixR_dic, wp_set_ref, setR_dic, sl_tup, sl_ref, pk_int, r1_int, ck_bl, rk_rt, rk_nx, wp_mth, m_append, m_pop, Option.some.injEq, exists_eq_left', setAll, List.length_cons, List.length_nil, List.set_cons_succ, List.set_cons_zero, List.length_set, Nat.reduceAdd, Nat.reduceLT, if_true, Nat.zero_add, reduceCtorEq, false_implies, true_implies, eq_self, and_true, true_and, Bool.true_eq_false, Bool.false_eq_true]
    refine draw_ok D' (by omega) (divOk_of ⟨by omega, by omega⟩) (by omega) fun z L2 z0 z1 D2 F2 => ?_
    simp only [wp_bind, wp_ret, wp_chk, wp_ofO, wp_look, wp_new, wp_setO, wp_br, v_var, v_lit, v_glo, v_bin, v_neg, v_cmp, v_cmp2, v_and, v_or, v_not, v_ife, v_tup, v_lst, v_dct0, v_dct, v_ix, v_slc, v_rev, v_bi, v_isi, v_mth, v_call, v_comp, vs_nil, vs_cons, vo_none, vo_some, vc_none, vc_some, vi_val, vi_rng1, vi_rng2, vt_tup, vt_sub, vts_nil, vts_cons, x_asg, x_par, x_aug, x_exp, x_ret, x_retN, x_ifs, x_for, x_whl, x_brk, x_cnt, x_pss, b_nil', b_cons', sq_nx, sq_rt, sq_bk, sq_ct, gv_0, gv_S, wt_0, wt_S, o_add, o_sub, o_mul, o_fdiv, o_mod, o_pow, o_addT, o_mulT, c_lt, c_le, c_gt, c_ge, wp_eq_int, wp_ne_int, n_bl, n_int, bi_int, bi_len, bi_tuple, bi_list, it_tup, r_tup, r_ref, ix_tup, wp_ix_ref, ixR_lst, ixR_dic, wp_set_ref, setR_dic, sl_tup, sl_ref, pk_int, r1_int, ck_bl, rk_rt, rk_nx, wp_mth, m_append, m_pop, Option.some.injEq, exists_eq_left', setAll, List.length_cons, List.length_nil, List.set_cons_succ, List.set_cons_zero, List.length_set, Nat.reduceAdd, Nat.reduceLT, if_true, Nat.zero_add, reduceCtorEq, false_implies, true_implies, eq_self, and_true, true_and, Bool.true_eq_false, Bool.false_eq_true]
    have eD2 : L2[L.length]? = some (.lst (iv fs)) := (F2.at_ _ (lt_of eD) (by omega) (by omega)).trans eD
    refine ⟨eD2, ?_, fs ++ [z - 1], by simp [iv], by simp [hl], ?_, ?_, ?_⟩
    · rw [iv_len, hl]
      exact Nat.lt_of_lt_of_le hi (Nat.le_trans hm (by decide))
    · intro x hx
      rcases List.mem_append.mp hx with hx | hx
      · exact hf x hx
      · rw [List.mem_singleton.mp hx]
        omega
    · exact D2.setO ⟨by omega, by omega⟩
    · exact (F'.trans F2).setNew (Nat.le_refl _)
  · rintro ys L' eD ⟨fs, rfl, hl, hf, D', F'⟩
    rw [e0] at hl D'
    refine ⟨rfl, ?_⟩
    have hff := lt_of eD
    have ln : ∀ x, lenV (L' ++ [x]) (.ref L.length) = some (iv fs).length := fun x => len_lst (by rw [List.getElem?_append_left hff]; exact eD)
    simp only [n_int, ln, iv_len, wp_bind, wp_ret, wp_chk, wp_ofO, wp_look, wp_new, wp_setO, wp_br, v_var, v_lit, v_glo, v_bin, v_neg, v_cmp, v_cmp2, v_and, v_or, v_not, v_ife, v_tup, v_lst, v_dct0, v_dct, v_ix, v_slc, v_rev, v_bi, v_isi, v_mth, v_call, v_comp, vs_nil, vs_cons, vo_none, vo_some, vc_none, vc_some, vi_val, vi_rng1, vi_rng2, vt_tup, vt_sub, vts_nil, vts_cons, x_asg, x_par, x_aug, x_exp, x_ret, x_retN, x_ifs, x_for, x_whl, x_brk, x_cnt, x_pss, b_nil', b_cons', sq_nx, sq_rt, sq_bk, sq_ct, gv_0, gv_S, wt_0, wt_S, o_add, o_sub, o_mul, o_fdiv, o_mod, o_pow, o_addT, o_mulT, c_lt, c_le, c_gt, c_ge, wp_eq_int, wp_ne_int, n_bl, n_int, bi_int, bi_len, bi_tuple, bi_list, it_tup, r_tup, r_ref, ix_tup, wp_ix_ref, ixR_lst, ixR_dic, wp_set_ref, setR_dic, sl_tup, sl_ref, pk_int, r1_int, ck_bl, rk_rt, rk_nx, wp_mth, m_append, m_pop, Option.some.injEq, exists_eq_left', setAll, List.length_cons, List.length_nil, List.set_cons_succ, List.set_cons_zero, List.length_set, Nat.reduceAdd, Nat.reduceLT, if_true, Nat.zero_add, reduceCtorEq, false_implies, true_implies, eq_self, and_true, true_and, Bool.true_eq_false, Bool.false_eq_true]
    refine ⟨by decide, wp_mulR (xs := iv [-1]) (c := (n : Int) - fs.length) (by simp [iv]) (by omega) (by simp [iv]) ?_⟩
    refine wp_catR (xs := iv fs) (ys := iv (List.replicate (((n : Int) - fs.length).toNat) (-1))) ?_ ?_ ?_ ?_
    · rw [List.append_assoc, List.getElem?_append_left hff]
      exact eD
    · rw [reps_one]
      simp
    · simp [iv_len]
      omega
    · refine ⟨iv fs ++ iv (List.replicate (((n : Int) - fs.length).toNat) (-1)), ?_, ?_⟩
      · simp [Mv.items, itemsL]
      · rw [show iv fs ++ iv (List.replicate (((n : Int) - fs.length).toNat) (-1)) = iv (fs ++ List.replicate (((n : Int) - fs.length).toNat) (-1)) by simp [iv]]
        refine q _ _ (t + m) (by omega) ?_ ?_ ?_ ?_
        · simp
          omega
        · intro x hx
          rcases List.mem_append.mp hx with hx | hx
          · exact hf x hx
          · rw [List.eq_of_mem_replicate hx]
            omega
        · exact D'.grow ⟨_, by simp only [List.append_assoc]; rfl⟩
        · exact F'.trans (Fr.grow ⟨_, by simp only [List.append_assoc]; rfl⟩)
end K35


namespace K35
open PySem Mv
/-- a tuple of n items from -1 to below n -/
def IsTb (n : Nat) (x : LV) : Prop := ∃ xs : List Int, x = .tup (iv xs) ∧ xs.length = n ∧ InT n xs
theorem items_small {s p w : Int} (hs : 1 < s ∧ s < 7) (hp : 1 ≤ p ∧ p ≤ 3) (hw : 1 ≤ w ∧ w ≤ 2) : ∃ n : Nat, litems s p w.toNat = (n : Int) ∧ itemsF s p w.toNat = (n : Int) ∧ 0 < n ∧ n < 900 := by
  have hb : 0 < p * s ^ w.toNat ∧ p * s ^ w.toNat < 200 := by
    have cs : w = 1 ∨ w = 2 := by omega
    rcases cs with rfl | rfl
    · have e : s ^ (1 : Int).toNat = s := by
        show s ^ 1 = s
        rw [Int.pow_succ, Int.pow_zero, Int.one_mul]
      rw [e]
      have h1 : 1 * s ≤ p * s := Int.mul_le_mul_of_nonneg_right hp.1 (by omega)
      have h2 : p * s ≤ 3 * s := Int.mul_le_mul_of_nonneg_right hp.2 (by omega)
      omega
    · have e : s ^ (2 : Int).toNat = s * s := by
        show s ^ 2 = s * s
        rw [Int.pow_succ, Int.pow_succ, Int.pow_zero, Int.one_mul]
      rw [e]
      have a1 : 2 * s ≤ s * s := Int.mul_le_mul_of_nonneg_right (by omega) (by omega)
      have a2 : s * s ≤ 6 * s := Int.mul_le_mul_of_nonneg_right (by omega) (by omega)
      have h1 : 1 * (s * s) ≤ p * (s * s) := Int.mul_le_mul_of_nonneg_right hp.1 (by omega)
      have h2 : p * (s * s) ≤ 3 * (s * s) := Int.mul_le_mul_of_nonneg_right hp.2 (by omega)
      omega
  have e1 : itemsF s p w.toNat = p * s ^ w.toNat := by
    unfold itemsF
    rw [if_pos (by omega)]
  refine ⟨(p * s ^ w.toNat).toNat, ?_, ?_, by omega, by omega⟩
  · unfold litems
    rw [e1, if_neg (by omega)]
    omega
  · rw [e1]
    omega
def machEnd : List IS := f_l_machine.body.drop 2
theorem mach_end {k d h t c : Nat} {s p w : Int} {L : LH} {Q : LV → LH → Prop} (D : Deck d h t L) (hs : 1 < s ∧ s < 7) (hp : 1 ≤ p ∧ p ≤ 3) (hw : 1 ≤ w ∧ w ≤ 2) (hc : 1 ≤ c ∧ c ≤ 12) (ht : t < 1000000000)
    (q : ∀ a tabs L' t', (a = Str.ofString "right" ∨ a = Str.ofString "left") → tabs.length = c → (∀ x ∈ tabs, IsTb (itemsF s p w.toNat).toNat x) → t' ≤ t + 300 → Deck d h t' L' → Fr d h L L' → Q (.tup [.str a, .int p, .int w, .tup tabs]) L') :
    wp (evB (run prog (k + 2)) machEnd [some (.ref d), some (.int s), some (.int p), some (.int w), some (.int c), none, none]) L fun r L1 => wp (retK r) L1 Q := by
  obtain ⟨n, en, en2, n0, n9⟩ := items_small hs hp hw
  have l1 : d < L.length := by obtain ⟨_, _, _, _, e, _⟩ := D; exact lt_of e
  have l2 : h < L.length := by obtain ⟨_, _, _, _, _, e⟩ := D; exact lt_of e
  simp only [machEnd, f_l_machine, List.drop_succ_cons, List.drop_zero, pm01, pm012, wp_bind, wp_ret, wp_chk, wp_ofO, wp_look, wp_new, wp_setO, wp_br, v_var, v_lit, v_glo, v_bin, v_neg, v_cmp, v_cmp2, v_and, v_or, v_not, v_ife, v_tup, v_lst, v_dct0, v_dct, v_ix, v_slc, v_rev, v_bi, v_isi, v_mth, v_call, v_comp, vs_nil, vs_cons, vo_none, vo_some, vc_none, vc_some, vi_val, vi_rng1, vi_rng2, vt_tup, vt_sub, vts_nil, vts_cons, x_asg, x_par, x_aug, x_exp, x_ret, x_retN, x_ifs, x_for, x_whl, x_brk, x_cnt, x_pss, b_nil', b_cons', sq_nx, sq_rt, sq_bk, sq_ct, gv_0, gv_S, wt_0, wt_S, o_add, o_sub, o_mul, o_fdiv, o_mod, o_pow, o_addT, o_mulT, c_lt, c_le, c_gt, c_ge, wp_eq_int, wp_ne_int, n_bl, n_int, bi_int, bi_len, bi_tuple, bi_list, it_tup, r_tup, r_ref, ix_tup, wp_ix_ref, ixR_lst, ixR_dic, wp_set_ref, setR_dic, sl_tup, sl_ref, pk_int, r1_int, ck_bl, rk_rt, rk_nx, wp_mth, m_append, m_pop, Option.some.injEq, exists_eq_left', setAll, List.length_cons, List.length_nil, List.set_cons_succ, List.set_cons_zero, List.length_set, Nat.reduceAdd, Nat.reduceLT, if_true, Nat.zero_add, reduceCtorEq, false_implies, true_implies, eq_self, and_true, true_and, Bool.true_eq_false, Bool.false_eq_true]
  refine ⟨by simp only [ints62]; exact decide_eq_true (by omega), ?_⟩
  have e0 : (rngV 0 ((c : Int).toNat)).len = c := by simp [Src.len, rngV]
  rw [← wp_new (Q := fun a L1 => wp (compK _ _ a) L1 _), ← wp_bind]
  refine wp_comp (fun i ys L' => ys.length = i ∧ (∀ x ∈ ys, IsTb n x) ∧ (∃ t', t' ≤ t + 16 * i ∧ Deck d h t' L') ∧ Fr d h L L') ⟨rfl, fun _ h => (by cases h), ⟨t, by omega, D.grow ⟨_, rfl⟩⟩, Fr.grow ⟨_, rfl⟩⟩ ?_ ?_
  · rintro i ys L' hi eD ⟨hl, hf, ⟨t', ht', D'⟩, F'⟩
    rw [e0] at hi
    refine ⟨.int i, by simp [Src.at, rngV, hi], ?_⟩
    simp only [turnC, wipeL, pm01, pm012, wp_if, wp_bind, wp_ret, wp_chk, wp_ofO, wp_look, wp_new, wp_setO, wp_br, v_var, v_lit, v_glo, v_bin, v_neg, v_cmp, v_cmp2, v_and, v_or, v_not, v_ife, v_tup, v_lst, v_dct0, v_dct, v_ix, v_slc, v_rev, v_bi, v_isi, v_mth, v_call, v_comp, vs_nil, vs_cons, vo_none, vo_some, vc_none, vc_some, vi_val, vi_rng1, vi_rng2, vt_tup, vt_sub, vts_nil, vts_cons, x_asg, x_par, x_aug, x_exp, x_ret, x_retN, x_ifs, x_for, x_whl, x_brk, x_cnt, x_pss, b_nil', b_cons', sq_nx, sq_rt, sq_bk, sq_ct, gv_0, gv_S, wt_0, wt_S, o_add, o_sub, o_mul, o_fdiv, o_mod, o_pow, o_addT, o_mulT, c_lt, c_le, c_gt, c_ge, wp_eq_int, wp_ne_int, n_bl, n_int, bi_int, bi_len, bi_tuple, bi_list, it_tup, r_tup, r_ref, ix_tup, wp_ix_ref, ixR_lst, ixR_dic, wp_set_ref, setR_dic, sl_tup, sl_ref, pk_int, r1_int, ck_bl, rk_rt, rk_nx, wp_mth, m_append, m_pop, Option.some.injEq, exists_eq_left', setAll, List.length_cons, List.length_nil, List.set_cons_succ, List.set_cons_zero, List.length_set, Nat.reduceAdd, Nat.reduceLT, if_true, Nat.zero_add, reduceCtorEq, false_implies, true_implies, eq_self, and_true, true_and, Bool.true_eq_false, Bool.false_eq_true]
    refine l_items_ok ⟨hs.1, by omega⟩ hp.1 hw.1 ?_
    rw [en]
    refine table_ok D' ⟨n0, n9⟩ (by omega) fun xs L2 t2 ht2 lx hx D2 F2 => ?_
    have eD2 : L2[L.length]? = some (.lst ys) := (F2.at_ _ (lt_of eD) (by omega) (by omega)).trans eD
    refine ⟨eD2, ?_, by simp [hl], ?_, ⟨t2, by omega, D2.setO ⟨by omega, by omega⟩⟩, (F'.trans F2).setNew (Nat.le_refl _)⟩
    · rw [hl]
      exact Nat.lt_of_lt_of_le hi (Nat.le_trans hc.2 (by decide))
    · intro x hx2
      rcases List.mem_append.mp hx2 with hx2 | hx2
      · exact hf x hx2
      · rw [List.mem_singleton.mp hx2]
        exact ⟨xs, rfl, lx, hx⟩
  · rintro ys L' eD ⟨hl, hf, ⟨t', ht', D'⟩, F'⟩
    rw [e0] at hl ht'
    refine ⟨rfl, ?_⟩
    have hff := lt_of eD
    refine ⟨by decide, ?_⟩
    refine pick_ok (ys := [.str (Str.ofString "right"), .str (Str.ofString "left")]) (D'.grow ⟨_, rfl⟩) (by omega) (by omega) (by simp) (by decide) fun a L2 ha D2 F2 => ?_
    have eD2 : L2[L.length]? = some (.lst ys) := by
      rw [F2.at_ L.length (by rw [List.length_append]; omega) (by omega) (by omega), List.getElem?_append_left hff]
      exact eD
    have ei : Mv.items L2 (.ref L.length) = some ys := items_lst eD2
    simp only [ei, wp_bind, wp_ret, wp_chk, wp_ofO, wp_look, wp_new, wp_setO, wp_br, v_var, v_lit, v_glo, v_bin, v_neg, v_cmp, v_cmp2, v_and, v_or, v_not, v_ife, v_tup, v_lst, v_dct0, v_dct, v_ix, v_slc, v_rev, v_bi, v_isi, v_mth, v_call, v_comp, vs_nil, vs_cons, vo_none, vo_some, vc_none, vc_some, vi_val, vi_rng1, vi_rng2, vt_tup, vt_sub, vts_nil, vts_cons, x_asg, x_par, x_aug, x_exp, x_ret, x_retN, x_ifs, x_for, x_whl, x_brk, x_cnt, x_pss, b_nil', b_cons', sq_nx, sq_rt, sq_bk, sq_ct, gv_0, gv_S, wt_0, wt_S, o_add, o_sub, o_mul, o_fdiv, o_mod, o_pow, o_addT, o_mulT, c_lt, c_le, c_gt, c_ge, wp_eq_int, wp_ne_int, n_bl, n_int, bi_int, bi_len, bi_tuple, bi_list, it_tup, r_tup, r_ref, ix_tup, wp_ix_ref, ixR_lst, ixR_dic, wp_set_ref, setR_dic, sl_tup, sl_ref, pk_int, r1_int, ck_bl, rk_rt, rk_nx, wp_mth, m_append, m_pop, Option.some.injEq, exists_eq_left', setAll, List.length_cons, List.length_nil, List.set_cons_succ, List.set_cons_zero, List.length_set, Nat.reduceAdd, Nat.reduceLT, if_true, Nat.zero_add, reduceCtorEq, false_implies, true_implies, eq_self, and_true, true_and, Bool.true_eq_false, Bool.false_eq_true]
    refine ⟨by decide, ?_⟩
    have Fz : Fr d h L L2 := (F'.trans (Fr.grow ⟨_, rfl⟩)).trans F2
    simp only [List.mem_cons, List.not_mem_nil, or_false] at ha
    have et : (itemsF s p w.toNat).toNat = n := by rw [en2]; rfl
    rcases ha with rfl | rfl
    · exact q _ ys L2 _ (.inl rfl) hl (by rw [et]; exact hf) (by omega) D2 Fz
    · exact q _ ys L2 _ (.inr rfl) hl (by rw [et]; exact hf) (by omega) D2 Fz
end K35


namespace K35
open PySem Mv
theorem machine_ok {k d h t : Nat} {s : Int} {L : LH} {Q : LV → LH → Prop} (D : Deck d h t L) (hs : 1 < s ∧ s < 7) (ht : t < 100000000)
    (q : ∀ a p w tabs L' t', (a = Str.ofString "right" ∨ a = Str.ofString "left") → (1 ≤ p ∧ p ≤ 3) → (1 ≤ w ∧ w ≤ 2) → (1 ≤ tabs.length ∧ tabs.length ≤ 12) → (∀ x ∈ tabs, IsTb (itemsF s p w.toNat).toNat x) → t' ≤ t + 400 → Deck d h t' L' → Fr d h L L' → Q (.tup [.str a, .int p, .int w, .tup tabs]) L') :
    wp (run prog (k + 3) 15 [.ref d, .int s]) L Q := by
  show wp (callFn (run prog (k + 2)) f_l_machine [.ref d, .int s]) L Q
  rw [call_eq, wp_chk]
  refine ⟨rfl, ?_⟩
  show wp (M.bind (evB _ (f_l_machine.body.take 2 ++ machEnd) [some (.ref d), some (.int s), none, none, none, none, none]) retK) L Q
  rw [b_app]
  simp only [f_l_machine, List.take_succ_cons, List.take_zero, Mv.items, ITs.len, pm01, wp_bind, wp_ret, wp_chk, wp_ofO, wp_look, wp_new, wp_setO, wp_br, v_var, v_lit, v_glo, v_bin, v_neg, v_cmp, v_cmp2, v_and, v_or, v_not, v_ife, v_tup, v_lst, v_dct0, v_dct, v_ix, v_slc, v_rev, v_bi, v_isi, v_mth, v_call, v_comp, vs_nil, vs_cons, vo_none, vo_some, vc_none, vc_some, vi_val, vi_rng1, vi_rng2, vt_tup, vt_sub, vts_nil, vts_cons, x_asg, x_par, x_aug, x_exp, x_ret, x_retN, x_ifs, x_for, x_whl, x_brk, x_cnt, x_pss, b_nil', b_cons', sq_nx, sq_rt, sq_bk, sq_ct, gv_0, gv_S, wt_0, wt_S, o_add, o_sub, o_mul, o_fdiv, o_mod, o_pow, o_addT, o_mulT, c_lt, c_le, c_gt, c_ge, wp_eq_int, wp_ne_int, n_bl, n_int, bi_int, bi_len, bi_tuple, bi_list, it_tup, r_tup, r_ref, ix_tup, wp_ix_ref, ixR_lst, ixR_dic, wp_set_ref, setR_dic, sl_tup, sl_ref, pk_int, r1_int, ck_bl, rk_rt, rk_nx, wp_mth, m_append, m_pop, Option.some.injEq, exists_eq_left', setAll, List.length_cons, List.length_nil, List.set_cons_succ, List.set_cons_zero, List.length_set, Nat.reduceAdd, Nat.reduceLT, if_true, Nat.zero_add, reduceCtorEq, false_implies, true_implies, eq_self, and_true, true_and, Bool.true_eq_false, Bool.false_eq_true]
  refine draw_ok D (by decide) (divOk_of (by decide)) (by omega) fun p L1 p0 p1 D1 F1 => ?_
  try simp only [pm01, wp_bind, wp_ret, wp_chk, wp_ofO, wp_look, wp_new, wp_setO, wp_br, v_var, v_lit, v_glo, v_bin, v_neg, v_cmp, v_cmp2, v_and, v_or, v_not, v_ife, v_tup, v_lst, v_dct0, v_dct, v_ix, v_slc, v_rev, v_bi, v_isi, v_mth, v_call, v_comp, vs_nil, vs_cons, vo_none, vo_some, vc_none, vc_some, vi_val, vi_rng1, vi_rng2, vt_tup, vt_sub, vts_nil, vts_cons, x_asg, x_par, x_aug, x_exp, x_ret, x_retN, x_ifs, x_for, x_whl, x_brk, x_cnt, x_pss, b_nil', b_cons', sq_nx, sq_rt, sq_bk, sq_ct, gv_0, gv_S, wt_0, wt_S, o_add, o_sub, o_mul, o_fdiv, o_mod, o_pow, o_addT, o_mulT, c_lt, c_le, c_gt, c_ge, wp_eq_int, wp_ne_int, n_bl, n_int, bi_int, bi_len, bi_tuple, bi_list, it_tup, r_tup, r_ref, ix_tup, wp_ix_ref, ixR_lst, ixR_dic, wp_set_ref, setR_dic, sl_tup, sl_ref, pk_int, r1_int, ck_bl, rk_rt, rk_nx, wp_mth, m_append, m_pop, Option.some.injEq, exists_eq_left', setAll, List.length_cons, List.length_nil, List.set_cons_succ, List.set_cons_zero, List.length_set, Nat.reduceAdd, Nat.reduceLT, if_true, Nat.zero_add, reduceCtorEq, false_implies, true_implies, eq_self, and_true, true_and, Bool.true_eq_false, Bool.false_eq_true]
  refine draw_ok D1 (by decide) (divOk_of (by decide)) (by omega) fun w L2 w0 w1 D2 F2 => ?_
  try simp only [pm01, Mv.items, ITs.len, wp_bind, wp_ret, wp_chk, wp_ofO, wp_look, wp_new, wp_setO, wp_br, v_var, v_lit, v_glo, v_bin, v_neg, v_cmp, v_cmp2, v_and, v_or, v_not, v_ife, v_tup, v_lst, v_dct0, v_dct, v_ix, v_slc, v_rev, v_bi, v_isi, v_mth, v_call, v_comp, vs_nil, vs_cons, vo_none, vo_some, vc_none, vc_some, vi_val, vi_rng1, vi_rng2, vt_tup, vt_sub, vts_nil, vts_cons, x_asg, x_par, x_aug, x_exp, x_ret, x_retN, x_ifs, x_for, x_whl, x_brk, x_cnt, x_pss, b_nil', b_cons', sq_nx, sq_rt, sq_bk, sq_ct, gv_0, gv_S, wt_0, wt_S, o_add, o_sub, o_mul, o_fdiv, o_mod, o_pow, o_addT, o_mulT, c_lt, c_le, c_gt, c_ge, wp_eq_int, wp_ne_int, n_bl, n_int, bi_int, bi_len, bi_tuple, bi_list, it_tup, r_tup, r_ref, ix_tup, wp_ix_ref, ixR_lst, ixR_dic, wp_set_ref, setR_dic, sl_tup, sl_ref, pk_int, r1_int, ck_bl, rk_rt, rk_nx, wp_mth, m_append, m_pop, Option.some.injEq, exists_eq_left', setAll, List.length_cons, List.length_nil, List.set_cons_succ, List.set_cons_zero, List.length_set, Nat.reduceAdd, Nat.reduceLT, if_true, Nat.zero_add, reduceCtorEq, false_implies, true_implies, eq_self, and_true, true_and, Bool.true_eq_false, Bool.false_eq_true]
  refine ⟨by decide, by decide, ?_⟩
  refine draw_ok D2 (by decide) (divOk_of (by decide)) (by omega) fun z L3 z0 z1 D3 F3 => ?_
  try simp only [pm01, wp_bind, wp_ret, wp_chk, wp_ofO, wp_look, wp_new, wp_setO, wp_br, v_var, v_lit, v_glo, v_bin, v_neg, v_cmp, v_cmp2, v_and, v_or, v_not, v_ife, v_tup, v_lst, v_dct0, v_dct, v_ix, v_slc, v_rev, v_bi, v_isi, v_mth, v_call, v_comp, vs_nil, vs_cons, vo_none, vo_some, vc_none, vc_some, vi_val, vi_rng1, vi_rng2, vt_tup, vt_sub, vts_nil, vts_cons, x_asg, x_par, x_aug, x_exp, x_ret, x_retN, x_ifs, x_for, x_whl, x_brk, x_cnt, x_pss, b_nil', b_cons', sq_nx, sq_rt, sq_bk, sq_ct, gv_0, gv_S, wt_0, wt_S, o_add, o_sub, o_mul, o_fdiv, o_mod, o_pow, o_addT, o_mulT, c_lt, c_le, c_gt, c_ge, wp_eq_int, wp_ne_int, n_bl, n_int, bi_int, bi_len, bi_tuple, bi_list, it_tup, r_tup, r_ref, ix_tup, wp_ix_ref, ixR_lst, ixR_dic, wp_set_ref, setR_dic, sl_tup, sl_ref, pk_int, r1_int, ck_bl, rk_rt, rk_nx, wp_mth, m_append, m_pop, Option.some.injEq, exists_eq_left', setAll, List.length_cons, List.length_nil, List.set_cons_succ, List.set_cons_zero, List.length_set, Nat.reduceAdd, Nat.reduceLT, if_true, Nat.zero_add, reduceCtorEq, false_implies, true_implies, eq_self, and_true, true_and, Bool.true_eq_false, Bool.false_eq_true]
  constructor
  · intro _
    exact mach_end (c := 12) D3 hs (by omega) (by omega) (by decide) (by omega) fun a tabs L' t' ha hl hx ht' D' F' => q a _ _ tabs L' t' ha (by omega) (by omega) (by omega) hx (by omega) D' (((F1.trans F2).trans F3).trans F')
  · intro _
    refine draw_ok D3 (by decide) (divOk_of (by decide)) (by omega) fun c L4 c0 c1 D4 F4 => ?_
    obtain ⟨c, rfl⟩ : ∃ j : Nat, c = (j : Int) := ⟨c.toNat, by omega⟩
    try simp only [pm01, wp_bind, wp_ret, wp_chk, wp_ofO, wp_look, wp_new, wp_setO, wp_br, v_var, v_lit, v_glo, v_bin, v_neg, v_cmp, v_cmp2, v_and, v_or, v_not, v_ife, v_tup, v_lst, v_dct0, v_dct, v_ix, v_slc, v_rev, v_bi, v_isi, v_mth, v_call, v_comp, vs_nil, vs_cons, vo_none, vo_some, vc_none, vc_some, vi_val, vi_rng1, vi_rng2, vt_tup, vt_sub, vts_nil, vts_cons, x_asg, x_par, x_aug, x_exp, x_ret, x_retN, x_ifs, x_for, x_whl, x_brk, x_cnt, x_pss, b_nil', b_cons', sq_nx, sq_rt, sq_bk, sq_ct, gv_0, gv_S, wt_0, wt_S, o_add, o_sub, o_mul, o_fdiv, o_mod, o_pow, o_addT, o_mulT, c_lt, c_le, c_gt, c_ge, wp_eq_int, wp_ne_int, n_bl, n_int, bi_int, bi_len, bi_tuple, bi_list, it_tup, r_tup, r_ref, ix_tup, wp_ix_ref, ixR_lst, ixR_dic, wp_set_ref, setR_dic, sl_tup, sl_ref, pk_int, r1_int, ck_bl, rk_rt, rk_nx, wp_mth, m_append, m_pop, Option.some.injEq, exists_eq_left', setAll, List.length_cons, List.length_nil, List.set_cons_succ, List.set_cons_zero, List.length_set, Nat.reduceAdd, Nat.reduceLT, if_true, Nat.zero_add, reduceCtorEq, false_implies, true_implies, eq_self, and_true, true_and, Bool.true_eq_false, Bool.false_eq_true]
    have e : (1 : Int) + (c : Int) = ((c + 1 : Nat) : Int) := by omega
    rw [e]
    exact mach_end (c := c + 1) D4 hs (by omega) (by omega) (by omega) (by omega) fun a tabs L' t' ha hl hx ht' D' F' => q a _ _ tabs L' t' ha (by omega) (by omega) (by omega) hx (by omega) D' ((((F1.trans F2).trans F3).trans F4).trans F')
end K35


namespace K35
open PySem Mv
theorem bi_str {i : Int} : biV .str [.int i] = M.chk (decide (i.natAbs.log2 < 1920)) (M.ret (.str (toString i))) := rfl
/-- the values that stand for another one -/
def others (v : Int) : List LV := [.int (v - 1), .int (v + 1), .int 0, .int (-1), .int (-2), .bl true, .bl false, .non, .str (toString v), .tup [.int v], .int (10 ^ 39)]
theorem other_ok {k d h t : Nat} {v : Int} {L : LH} {Q : LV → LH → Prop} (D : Deck d h t L) (hv : v.natAbs.log2 < 1920) (ht : t < 100000000) (q : ∀ x L', x ∈ others v → Deck d h (t + 1) L' → Fr d h L L' → Q x L') : wp (run prog (k + 3) 17 [.ref d, .int v]) L Q := by
  show wp (callFn (run prog (k + 2)) f_l_other [.ref d, .int v]) L Q
  rw [call_eq, wp_chk]
  refine ⟨rfl, ?_⟩
  show wp (M.bind (evB _ _ [some (.ref d), some (.int v)]) retK) L Q
  have l1 : d < L.length := by obtain ⟨_, _, _, _, e, _⟩ := D; exact lt_of e
  have l2 : h < L.length := by obtain ⟨_, _, _, _, _, e⟩ := D; exact lt_of e
  simp only [f_l_other, n_int, bi_str, pm01, wp_bind, wp_ret, wp_chk, wp_ofO, wp_look, wp_new, wp_setO, wp_br, v_var, v_lit, v_glo, v_bin, v_neg, v_cmp, v_cmp2, v_and, v_or, v_not, v_ife, v_tup, v_lst, v_dct0, v_dct, v_ix, v_slc, v_rev, v_bi, v_isi, v_mth, v_call, v_comp, vs_nil, vs_cons, vo_none, vo_some, vc_none, vc_some, vi_val, vi_rng1, vi_rng2, vt_tup, vt_sub, vts_nil, vts_cons, x_asg, x_par, x_aug, x_exp, x_ret, x_retN, x_ifs, x_for, x_whl, x_brk, x_cnt, x_pss, b_nil', b_cons', sq_nx, sq_rt, sq_bk, sq_ct, gv_0, gv_S, wt_0, wt_S, o_add, o_sub, o_mul, o_fdiv, o_mod, o_pow, o_addT, o_mulT, c_lt, c_le, c_gt, c_ge, wp_eq_int, wp_ne_int, n_bl, n_int, bi_int, bi_len, bi_tuple, bi_list, it_tup, r_tup, r_ref, ix_tup, wp_ix_ref, ixR_lst, ixR_dic, wp_set_ref, setR_dic, sl_tup, sl_ref, pk_int, r1_int, ck_bl, rk_rt, rk_nx, wp_mth, m_append, m_pop, Option.some.injEq, exists_eq_left', setAll, List.length_cons, List.length_nil, List.set_cons_succ, List.set_cons_zero, List.length_set, Nat.reduceAdd, Nat.reduceLT, if_true, Nat.zero_add, reduceCtorEq, false_implies, true_implies, eq_self, and_true, true_and, Bool.true_eq_false, Bool.false_eq_true]
  refine ⟨decide_eq_true hv, by decide, by decide, by decide, ?_⟩
  refine pick_ok (ys := others v) (D.grow ⟨_, rfl⟩) (by omega) (by omega) (by rw [List.getElem?_append_right (Nat.le_refl _), Nat.sub_self]; rfl) (by show 0 < 11 ∧ 11 < 1000; decide) fun x L2 hx D2 F2 => ?_
  exact q x L2 hx D2 ((Fr.grow ⟨_, rfl⟩).trans F2)
end K35


namespace K35
open PySem Mv
theorem nice_of {L : LH} {B : Nat} : ∀ (m : Nat) {n w : Nat} {v : LV}, GD L B n w v → Nice m L v
  | 0, _, _, _, h => h.ok
  | m + 1, _, _, _, h => ⟨h.ok, fun xs e => by
    subst e
    exact ⟨h.tupInv.1, fun x hx => nice_of m (h.tupInv.2.mem x hx)⟩⟩
theorem dat_of {L : LH} {B n w : Nat} {v : LV} (h : GD L B n w v) (hn : n < 60) : Dat L v := by
  obtain ⟨d, h1, h2⟩ := h
  exact ⟨d, h1.toD 65 (by omega), h1.lay, by have := h1.dep; omega⟩
/-- a value of which is_sweep tells what is due -/
structure Ri (L : LH) (v : LV) : Prop where
  ni : Nice 3 L v
  da : ∀ a b c ts, v = .tup [a, b, c, .tup ts] → ∀ x ∈ ts, Dat L x
  sh : ∃ d, Shw L v d
theorem ri_of {L : LH} {n w : Nat} {v : LV} (h : GD L 41 n w v) (hn : n < 50) (hw : w ≤ 370000) : Ri L v := by
  refine ⟨nice_of 3 h, fun a b c ts e x hx => ?_, ?_⟩
  · subst e
    have h2 := h.tupInv.2
    have h3 := h2.mem (.tup ts) (by simp)
    exact dat_of (h3.tupInv.2.mem x hx) (by omega)
  · obtain ⟨d, h1, h2⟩ := h
    exact ⟨d, h1.toR (by omega), h1.rep (by omega) (by decide) h2 (by omega)⟩
theorem ri_right {k : Nat} {s : Int} {v : LV} {L : LH} {Q : LV → LH → Prop} (hs : 1 < s ∧ s < 100) (h : Ri L v) (q : ∀ L', Grow L L' → Q (.bl true) L') : wp (run prog (k + 5) 21 [.int s, v]) L Q := by
  obtain ⟨d, sh⟩ := h.sh
  exact is_right_ok hs h.ni h.da sh q
theorem lg10 {i : Int} (h : -1 ≤ i ∧ i < 1000) : i.natAbs.log2 < 10 := by
  rcases Nat.eq_zero_or_pos i.natAbs with e | e
  · rw [e]; decide
  · rw [Nat.log2_lt (by omega)]
    omega
theorem tb_gd {L : LH} {n : Nat} {xs : List Int} (hn : n < 900) (hx : xs.length ≤ n) (hi : InT n xs) : GDs L 41 1 9900 (iv xs) := by
  refine (GDs.ints (b := 10) (fun x h => lg10 ?_) (by decide) (by decide)).le (Nat.le_refl _) (by omega)
  have := hi x h
  omega
theorem other_gd {L : LH} {v : Int} {x : LV} (h : x ∈ others v) (hv : -1 ≤ v ∧ v < 990) : GD L 41 2 140 x := by
  simp only [others, List.mem_cons, List.not_mem_nil, or_false] at h
  have sm : ∀ i : Int, -1 ≤ i ∧ i < 1000 → ∀ m, GD L 41 m 140 (.int i) := fun i hi m => .int (lg10 hi) (by decide) (by decide) (by decide)
  have sm2 : GD L 41 2 140 (.int (-2)) := .int (b := 10) (by decide) (by decide) (by decide) (by decide)
  rcases h with rfl | rfl | rfl | rfl | rfl | rfl | rfl | rfl | rfl | rfl | rfl
  · by_cases c : v = -1
    · subst c; exact sm2
    · exact sm _ (by omega) _
  · exact sm _ (by omega) _
  · exact sm _ (by omega) _
  · exact sm _ (by omega) _
  · exact sm2
  · exact .bl _
  · exact .bl _
  · exact .non
  · refine .ofString _ ?_
    have := PySem.int_text_length_le (a := v) (k := 10) (by decide) (lg10 (by omega))
    omega
  · exact .tup (.cons (w1 := 10) (w2 := 0) (.int (lg10 (by omega)) (by decide) (by decide) (by decide)) .nil (by decide)) (by simp; decide)
  · refine ⟨_, .int _ _ (by decide +kernel) (by decide +kernel), ?_⟩
    simp only [PyData.weight]
    decide +kernel
theorem bent_table_ok {k d h t n : Nat} {xs : List Int} {L : LH} {Q : LV → LH → Prop} (D : Deck d h t L) (hn : 0 < n ∧ n < 900) (hx : xs.length = n) (hi : InT n xs) (ht : t < 10000000)
    (q : ∀ v L' t', t' ≤ t + 4 → GD L' 41 3 12000 v → Deck d h t' L' → Fr d h L L' → Q v L') : wp (run prog (k + 4) 18 [.ref d, .int n, .tup (iv xs)]) L Q := by
  show wp (callFn (run prog (k + 3)) f_l_bent_table [.ref d, .int n, .tup (iv xs)]) L Q
  rw [call_eq, wp_chk]
  refine ⟨rfl, ?_⟩
  show wp (M.bind (evB _ _ [some (.ref d), some (.int n), some (.tup (iv xs)), none, none]) retK) L Q
  simp only [f_l_bent_table, len_tup, iv_len, hx, pm01, pm012, wp_bind, wp_ret, wp_chk, wp_ofO, wp_look, wp_new, wp_setO, wp_br, v_var, v_lit, v_glo, v_bin, v_neg, v_cmp, v_cmp2, v_and, v_or, v_not, v_ife, v_tup, v_lst, v_dct0, v_dct, v_ix, v_slc, v_rev, v_bi, v_isi, v_mth, v_call, v_comp, vs_nil, vs_cons, vo_none, vo_some, vc_none, vc_some, vi_val, vi_rng1, vi_rng2, vt_tup, vt_sub, vts_nil, vts_cons, x_asg, x_par, x_aug, x_exp, x_ret, x_retN, x_ifs, x_for, x_whl, x_brk, x_cnt, x_pss, b_nil', b_cons', sq_nx, sq_rt, sq_bk, sq_ct, gv_0, gv_S, wt_0, wt_S, o_add, o_sub, o_mul, o_fdiv, o_mod, o_pow, o_addT, o_mulT, c_lt, c_le, c_gt, c_ge, wp_eq_int, wp_ne_int, n_bl, n_int, bi_int, bi_len, bi_tuple, bi_list, it_tup, r_tup, r_ref, ix_tup, wp_ix_ref, ixR_lst, ixR_dic, wp_set_ref, setR_dic, sl_tup, sl_ref, pk_int, r1_int, ck_bl, rk_rt, rk_nx, wp_mth, m_append, m_pop, Option.some.injEq, exists_eq_left', setAll, List.length_cons, List.length_nil, List.set_cons_succ, List.set_cons_zero, List.length_set, Nat.reduceAdd, Nat.reduceLT, if_true, Nat.zero_add, reduceCtorEq, false_implies, true_implies, eq_self, and_true, true_and, Bool.true_eq_false, Bool.false_eq_true]
  refine draw_ok D (by omega) (divOk_of ⟨by omega, by omega⟩) (by omega) fun a L1 a0 a1 D1 F1 => ?_
  try simp only [pm01, wp_bind, wp_ret, wp_chk, wp_ofO, wp_look, wp_new, wp_setO, wp_br, v_var, v_lit, v_glo, v_bin, v_neg, v_cmp, v_cmp2, v_and, v_or, v_not, v_ife, v_tup, v_lst, v_dct0, v_dct, v_ix, v_slc, v_rev, v_bi, v_isi, v_mth, v_call, v_comp, vs_nil, vs_cons, vo_none, vo_some, vc_none, vc_some, vi_val, vi_rng1, vi_rng2, vt_tup, vt_sub, vts_nil, vts_cons, x_asg, x_par, x_aug, x_exp, x_ret, x_retN, x_ifs, x_for, x_whl, x_brk, x_cnt, x_pss, b_nil', b_cons', sq_nx, sq_rt, sq_bk, sq_ct, gv_0, gv_S, wt_0, wt_S, o_add, o_sub, o_mul, o_fdiv, o_mod, o_pow, o_addT, o_mulT, c_lt, c_le, c_gt, c_ge, wp_eq_int, wp_ne_int, n_bl, n_int, bi_int, bi_len, bi_tuple, bi_list, it_tup, r_tup, r_ref, ix_tup, wp_ix_ref, ixR_lst, ixR_dic, wp_set_ref, setR_dic, sl_tup, sl_ref, pk_int, r1_int, ck_bl, rk_rt, rk_nx, wp_mth, m_append, m_pop, Option.some.injEq, exists_eq_left', setAll, List.length_cons, List.length_nil, List.set_cons_succ, List.set_cons_zero, List.length_set, Nat.reduceAdd, Nat.reduceLT, if_true, Nat.zero_add, reduceCtorEq, false_implies, true_implies, eq_self, and_true, true_and, Bool.true_eq_false, Bool.false_eq_true]
  refine draw_ok D1 (by decide) (divOk_of (by decide)) (by omega) fun w M2 w0 w1 D2 F2 => ?_
  have F := F1.trans F2
  have tb : ∀ L, GDs L 41 1 9900 (iv xs) := fun L => tb_gd hn.2 (by omega) hi
  have sl : ∀ m, m ≤ 1000 → m < sizeLine := fun m h => Nat.lt_of_le_of_lt h (by decide)
  try simp only [pm01, pm012, wp_bind, wp_ret, wp_chk, wp_ofO, wp_look, wp_new, wp_setO, wp_br, v_var, v_lit, v_glo, v_bin, v_neg, v_cmp, v_cmp2, v_and, v_or, v_not, v_ife, v_tup, v_lst, v_dct0, v_dct, v_ix, v_slc, v_rev, v_bi, v_isi, v_mth, v_call, v_comp, vs_nil, vs_cons, vo_none, vo_some, vc_none, vc_some, vi_val, vi_rng1, vi_rng2, vt_tup, vt_sub, vts_nil, vts_cons, x_asg, x_par, x_aug, x_exp, x_ret, x_retN, x_ifs, x_for, x_whl, x_brk, x_cnt, x_pss, b_nil', b_cons', sq_nx, sq_rt, sq_bk, sq_ct, gv_0, gv_S, wt_0, wt_S, o_add, o_sub, o_mul, o_fdiv, o_mod, o_pow, o_addT, o_mulT, c_lt, c_le, c_gt, c_ge, wp_eq_int, wp_ne_int, n_bl, n_int, bi_int, bi_len, bi_tuple, bi_list, it_tup, r_tup, r_ref, ix_tup, wp_ix_ref, ixR_lst, ixR_dic, wp_set_ref, setR_dic, sl_tup, sl_ref, pk_int, r1_int, ck_bl, rk_rt, rk_nx, wp_mth, m_append, m_pop, Option.some.injEq, exists_eq_left', setAll, List.length_cons, List.length_nil, List.set_cons_succ, List.set_cons_zero, List.length_set, Nat.reduceAdd, Nat.reduceLT, if_true, Nat.zero_add, reduceCtorEq, false_implies, true_implies, eq_self, and_true, true_and, Bool.true_eq_false, Bool.false_eq_true]
  refine ⟨fun c => ?_, fun c => ⟨fun c => ?_, fun c => ⟨fun c => ?_, fun c => ⟨fun c => ?_, fun c => ?_⟩⟩⟩⟩
  · refine ⟨_, rfl, ?_⟩
    refine q _ _ (t + 2) (by omega) (GD.lst (n := 1) (xs := iv xs) (by simp) (tb _) |>.le (by decide) (by decide)) (D2.grow ⟨_, rfl⟩) (F.trans (Fr.grow ⟨_, rfl⟩))
  · try simp only [n_int, wp_bind, wp_ret, wp_chk, wp_ofO, wp_look, wp_new, wp_setO, wp_br, v_var, v_lit, v_glo, v_bin, v_neg, v_cmp, v_cmp2, v_and, v_or, v_not, v_ife, v_tup, v_lst, v_dct0, v_dct, v_ix, v_slc, v_rev, v_bi, v_isi, v_mth, v_call, v_comp, vs_nil, vs_cons, vo_none, vo_some, vc_none, vc_some, vi_val, vi_rng1, vi_rng2, vt_tup, vt_sub, vts_nil, vts_cons, x_asg, x_par, x_aug, x_exp, x_ret, x_retN, x_ifs, x_for, x_whl, x_brk, x_cnt, x_pss, b_nil', b_cons', sq_nx, sq_rt, sq_bk, sq_ct, gv_0, gv_S, wt_0, wt_S, o_add, o_sub, o_mul, o_fdiv, o_mod, o_pow, o_addT, o_mulT, c_lt, c_le, c_gt, c_ge, wp_eq_int, wp_ne_int, n_bl, n_int, bi_int, bi_len, bi_tuple, bi_list, it_tup, r_tup, r_ref, ix_tup, wp_ix_ref, ixR_lst, ixR_dic, wp_set_ref, setR_dic, sl_tup, sl_ref, pk_int, r1_int, ck_bl, rk_rt, rk_nx, wp_mth, m_append, m_pop, Option.some.injEq, exists_eq_left', setAll, List.length_cons, List.length_nil, List.set_cons_succ, List.set_cons_zero, List.length_set, Nat.reduceAdd, Nat.reduceLT, if_true, Nat.zero_add, reduceCtorEq, false_implies, true_implies, eq_self, and_true, true_and, Bool.true_eq_false, Bool.false_eq_true]
    refine q _ _ (t + 2) (by omega) (GD.tup (n := 1) ((tb _).sub (cut_sub _ _ _)) (sl _ ?_) |>.le (by decide) (by decide)) D2 F
    exact Nat.le_trans (cut_sub _ _ _).length_le (by rw [iv_len]; omega)
  · refine ⟨by decide, ?_, ?_⟩
    · exact decide_eq_true (Nat.le_of_lt (sl _ (by simp only [iv_len, List.length_cons, List.length_nil]; omega)))
    · refine q _ _ (t + 2) (by omega) (GD.tup (n := 1) (w := 10000) (.append (w2 := 11) (tb _) (.cons (w1 := 10) (w2 := 0) (.int (b := 10) (by decide) (by decide) (by decide) (by decide)) .nil (by decide)) (by decide)) (sl _ ?_) |>.le (by decide) (by decide)) D2 F
      rw [List.length_append, iv_len]
      simp
      omega
  · refine draw_ok D2 (by decide) (divOk_of (by decide)) (by omega) fun z L3 z0 z1 D3 F3 => ?_
    try simp only [pm01, pm012, wp_bind, wp_ret, wp_chk, wp_ofO, wp_look, wp_new, wp_setO, wp_br, v_var, v_lit, v_glo, v_bin, v_neg, v_cmp, v_cmp2, v_and, v_or, v_not, v_ife, v_tup, v_lst, v_dct0, v_dct, v_ix, v_slc, v_rev, v_bi, v_isi, v_mth, v_call, v_comp, vs_nil, vs_cons, vo_none, vo_some, vc_none, vc_some, vi_val, vi_rng1, vi_rng2, vt_tup, vt_sub, vts_nil, vts_cons, x_asg, x_par, x_aug, x_exp, x_ret, x_retN, x_ifs, x_for, x_whl, x_brk, x_cnt, x_pss, b_nil', b_cons', sq_nx, sq_rt, sq_bk, sq_ct, gv_0, gv_S, wt_0, wt_S, o_add, o_sub, o_mul, o_fdiv, o_mod, o_pow, o_addT, o_mulT, c_lt, c_le, c_gt, c_ge, wp_eq_int, wp_ne_int, n_bl, n_int, bi_int, bi_len, bi_tuple, bi_list, it_tup, r_tup, r_ref, ix_tup, wp_ix_ref, ixR_lst, ixR_dic, wp_set_ref, setR_dic, sl_tup, sl_ref, pk_int, r1_int, ck_bl, rk_rt, rk_nx, wp_mth, m_append, m_pop, Option.some.injEq, exists_eq_left', setAll, List.length_cons, List.length_nil, List.set_cons_succ, List.set_cons_zero, List.length_set, Nat.reduceAdd, Nat.reduceLT, if_true, Nat.zero_add, reduceCtorEq, false_implies, true_implies, eq_self, and_true, true_and, Bool.true_eq_false, Bool.false_eq_true]
    refine put_ok ⟨a0, by rw [iv_len]; omega⟩ (by rw [iv_len]; omega) ?_
    refine q _ _ (t + 3) (by omega) (GD.tup (n := 1) (w := 10000) (.set (w1 := 10) (.int (lg10 (by omega)) (by decide) (by decide) (by decide)) (tb _) (by decide)) (sl _ ?_) |>.le (by decide) (by decide)) D3 (F.trans F3)
    rw [List.length_set, iv_len]
    omega
  · have ha : a.toNat < xs.length := by omega
    have ea : a = (a.toNat : Int) := by omega
    have hxa := hi _ (List.getElem_mem ha)
    have e2 := L2.atI_nat (iv_get ha)
    rw [← ea] at e2
    refine ⟨_, e2, ?_⟩
    try simp only [pm01, pm012, wp_bind, wp_ret, wp_chk, wp_ofO, wp_look, wp_new, wp_setO, wp_br, v_var, v_lit, v_glo, v_bin, v_neg, v_cmp, v_cmp2, v_and, v_or, v_not, v_ife, v_tup, v_lst, v_dct0, v_dct, v_ix, v_slc, v_rev, v_bi, v_isi, v_mth, v_call, v_comp, vs_nil, vs_cons, vo_none, vo_some, vc_none, vc_some, vi_val, vi_rng1, vi_rng2, vt_tup, vt_sub, vts_nil, vts_cons, x_asg, x_par, x_aug, x_exp, x_ret, x_retN, x_ifs, x_for, x_whl, x_brk, x_cnt, x_pss, b_nil', b_cons', sq_nx, sq_rt, sq_bk, sq_ct, gv_0, gv_S, wt_0, wt_S, o_add, o_sub, o_mul, o_fdiv, o_mod, o_pow, o_addT, o_mulT, c_lt, c_le, c_gt, c_ge, wp_eq_int, wp_ne_int, n_bl, n_int, bi_int, bi_len, bi_tuple, bi_list, it_tup, r_tup, r_ref, ix_tup, wp_ix_ref, ixR_lst, ixR_dic, wp_set_ref, setR_dic, sl_tup, sl_ref, pk_int, r1_int, ck_bl, rk_rt, rk_nx, wp_mth, m_append, m_pop, Option.some.injEq, exists_eq_left', setAll, List.length_cons, List.length_nil, List.set_cons_succ, List.set_cons_zero, List.length_set, Nat.reduceAdd, Nat.reduceLT, if_true, Nat.zero_add, reduceCtorEq, false_implies, true_implies, eq_self, and_true, true_and, Bool.true_eq_false, Bool.false_eq_true]
    refine other_ok D2 (Nat.lt_trans (lg10 (by omega)) (by decide)) (by omega) fun x L3 hxm D3 F3 => ?_
    try simp only [pm01, pm012, wp_bind, wp_ret, wp_chk, wp_ofO, wp_look, wp_new, wp_setO, wp_br, v_var, v_lit, v_glo, v_bin, v_neg, v_cmp, v_cmp2, v_and, v_or, v_not, v_ife, v_tup, v_lst, v_dct0, v_dct, v_ix, v_slc, v_rev, v_bi, v_isi, v_mth, v_call, v_comp, vs_nil, vs_cons, vo_none, vo_some, vc_none, vc_some, vi_val, vi_rng1, vi_rng2, vt_tup, vt_sub, vts_nil, vts_cons, x_asg, x_par, x_aug, x_exp, x_ret, x_retN, x_ifs, x_for, x_whl, x_brk, x_cnt, x_pss, b_nil', b_cons', sq_nx, sq_rt, sq_bk, sq_ct, gv_0, gv_S, wt_0, wt_S, o_add, o_sub, o_mul, o_fdiv, o_mod, o_pow, o_addT, o_mulT, c_lt, c_le, c_gt, c_ge, wp_eq_int, wp_ne_int, n_bl, n_int, bi_int, bi_len, bi_tuple, bi_list, it_tup, r_tup, r_ref, ix_tup, wp_ix_ref, ixR_lst, ixR_dic, wp_set_ref, setR_dic, sl_tup, sl_ref, pk_int, r1_int, ck_bl, rk_rt, rk_nx, wp_mth, m_append, m_pop, Option.some.injEq, exists_eq_left', setAll, List.length_cons, List.length_nil, List.set_cons_succ, List.set_cons_zero, List.length_set, Nat.reduceAdd, Nat.reduceLT, if_true, Nat.zero_add, reduceCtorEq, false_implies, true_implies, eq_self, and_true, true_and, Bool.true_eq_false, Bool.false_eq_true]
    refine put_ok ⟨a0, by rw [iv_len]; omega⟩ (by rw [iv_len]; omega) ?_
    refine q _ _ (t + 3) (by omega) (GD.tup (n := 2) (w := 12000) (.set (w := 9900) (w1 := 140) (other_gd hxm (by omega)) ((tb _).le (by decide) (Nat.le_refl _)) (by decide)) (sl _ ?_) |>.le (by decide) (by decide)) D3 (F.trans F3)
    rw [List.length_set, iv_len]
    omega
end K35


namespace K35
open PySem Mv
theorem tb_of {L : LH} {n : Nat} {x : LV} (hn : n < 900) (h : IsTb n x) : GD L 41 2 9900 x := by
  obtain ⟨xs, rfl, h1, h2⟩ := h
  refine .tup (tb_gd hn (by omega) h2) ?_
  rw [iv_len]
  exact Nat.lt_of_le_of_lt (show xs.length ≤ 1000 by omega) (by decide)
theorem tabs_gd {L : LH} {n m : Nat} {ts : List LV} (hn : n < 900) (h : ∀ x ∈ ts, IsTb n x) (hl : ts.length ≤ m) (hm : m ≤ 24) : GDs L 41 2 (9901 * m) ts :=
  (GDs.all fun x hx => tb_of hn (h x hx)).le (Nat.le_refl _) (Nat.mul_le_mul_left _ hl)
theorem sl4 {n : Nat} (h : n ≤ 1000) : n < sizeLine := Nat.lt_of_le_of_lt h (by decide)
theorem four_gd {L : LH} {n w : Nat} {a b c e : LV} (h1 : GD L 41 n 200 a) (h2 : GD L 41 n 200 b) (h3 : GD L 41 n 200 c) (h4 : GD L 41 n w e) : GD L 41 (n + 1) (w + 700) (.tup [a, b, c, e]) :=
  .tup (.cons (w2 := w + 403) h1 (.cons (w2 := w + 202) h2 (.cons (w2 := w + 1) h3 (.cons (w2 := 0) h4 .nil (by omega)) (by omega)) (by omega)) (by omega)) (sl4 (by simp))
theorem way_gd {L : LH} {a : Str} (ha : a = Str.ofString "right" ∨ a = Str.ofString "left") (n : Nat) : GD L 41 n 200 (.str a) := by
  rcases ha with rfl | rfl
  · exact .ofString _ (by decide)
  · exact .ofString _ (by decide)
theorem int_gd {L : LH} {i : Int} (h : -1 ≤ i ∧ i < 1000) (n : Nat) : GD L 41 n 200 (.int i) := .int (lg10 h) (by decide) (by decide) (by decide)
theorem str_gd {L : LH} (s : String) (h : s.length ≤ 200) (n : Nat) : GD L 41 n 200 (.str s) := .ofString s h
/-- what a way's value may be otherwise -/
def badWays : List LV := [.str "up", .str "Right", .str "", .non, .str "right ", .tup [.str "right"], .str "left", .str "right"]
theorem bad_gd {L : LH} {x : LV} (h : x ∈ badWays) : GD L 41 2 200 x := by
  simp only [badWays, List.mem_cons, List.not_mem_nil, or_false] at h
  rcases h with rfl | rfl | rfl | rfl | rfl | rfl | rfl | rfl
  · exact str_gd _ (by decide) _
  · exact str_gd _ (by decide) _
  · exact str_gd _ (by decide) _
  · exact .non
  · exact str_gd _ (by decide) _
  · exact .tup (.cons (w1 := 100) (w2 := 0) (.ofString "right" (by decide)) .nil (by decide)) (sl4 (by decide))
  · exact str_gd _ (by decide) _
  · exact str_gd _ (by decide) _
theorem dict_ri {L : LH} {n : Nat} {a : Str} (ha : a = Str.ofString "right" ∨ a = Str.ofString "left") (e : L[n]? = some (.dic [(.inr "way", .str a)])) : Ri L (.ref n) := by
  have o : okV L (.ref n) := ⟨[.dict], by unfold tyOf; simp only [e]⟩
  refine ⟨⟨o, fun xs z => by cases z⟩, fun a b c ts z => (by cases z), .dict [(.str "way", .str a)], ?_, ?_⟩
  · unfold toR dicAt
    simp only [e]
    rfl
  · rcases ha with rfl | rfl <;> decide +kernel
structure Mach (s p w : Int) (a : Str) (n : Nat) (tabs : List LV) : Prop where
  hs : 1 < s ∧ s < 7
  ha : a = Str.ofString "right" ∨ a = Str.ofString "left"
  hp : 1 ≤ p ∧ p ≤ 3
  hw : 1 ≤ w ∧ w ≤ 2
  hn : 0 < n ∧ n < 900
  it : litems s p w.toNat = (n : Int)
  hl : 1 ≤ tabs.length ∧ tabs.length ≤ 12
  tb : ∀ x ∈ tabs, IsTb n x
theorem Mach.gd {s p w : Int} {a : Str} {n : Nat} {tabs : List LV} (M : Mach s p w a n tabs) {L : LH} : GD L 41 4 121000 (.tup [.str a, .int p, .int w, .tup tabs]) := by
  have hp := M.hp
  have hw := M.hw
  have hl := M.hl
  exact (four_gd (n := 3) (w := 9901 * 12) (way_gd M.ha _) (int_gd (by omega) _) (int_gd (by omega) _) (.tup (tabs_gd M.hn.2 M.tb hl.2 (by decide)) (sl4 (by omega)))).le (by decide) (by decide)
end K35


namespace K35
open PySem Mv
/-- what the bent tables of a way 3 may be -/
def bentC : List IS := f_l_bent.body.drop 8
theorem bent_c {k d h t n : Nat} {s p w z : Int} {a : Str} {tabs : List LV} {L : LH} {v8 : Option LV} {Q : LV → LH → Prop} (D : Deck d h t L) (M : Mach s p w a n tabs) (ht : t < 1000000) (hz : 0 ≤ z)
    (q : ∀ v L' t', t' ≤ t + 8 → Ri L' v → Deck d h t' L' → Fr d h L L' → Q v L') :
    wp (evB (run prog (k + 4)) bentC [some (.ref d), some (.int s), some (.tup [.str a, .int p, .int w, .tup tabs]), some (.str a), some (.int p), some (.int w), some (.tup tabs), some (.int z), v8, none, none, none]) L fun r L1 => wp (retK r) L1 Q := by
  have hs := M.hs
  have hp := M.hp
  have hw := M.hw
  have hl := M.hl
  have hn := M.hn
  simp only [bentC, f_l_bent, List.drop_succ_cons, List.drop_zero, len_tup, pm01, pm012, wp_bind, wp_ret, wp_chk, wp_ofO, wp_look, wp_new, wp_setO, wp_br, v_var, v_lit, v_glo, v_bin, v_neg, v_cmp, v_cmp2, v_and, v_or, v_not, v_ife, v_tup, v_lst, v_dct0, v_dct, v_ix, v_slc, v_rev, v_bi, v_isi, v_mth, v_call, v_comp, vs_nil, vs_cons, vo_none, vo_some, vc_none, vc_some, vi_val, vi_rng1, vi_rng2, vt_tup, vt_sub, vts_nil, vts_cons, x_asg, x_par, x_aug, x_exp, x_ret, x_retN, x_ifs, x_for, x_whl, x_brk, x_cnt, x_pss, b_nil', b_cons', sq_nx, sq_rt, sq_bk, sq_ct, gv_0, gv_S, wt_0, wt_S, o_add, o_sub, o_mul, o_fdiv, o_mod, o_pow, o_addT, o_mulT, c_lt, c_le, c_gt, c_ge, wp_eq_int, wp_ne_int, n_bl, n_int, bi_int, bi_len, bi_tuple, bi_list, it_tup, r_tup, r_ref, ix_tup, wp_ix_ref, ixR_lst, ixR_dic, wp_set_ref, setR_dic, sl_tup, sl_ref, pk_int, r1_int, ck_bl, rk_rt, rk_nx, wp_mth, m_append, m_pop, Option.some.injEq, exists_eq_left', setAll, List.length_cons, List.length_nil, List.set_cons_succ, List.set_cons_zero, List.length_set, Nat.reduceAdd, Nat.reduceLT, if_true, Nat.zero_add, reduceCtorEq, false_implies, true_implies, eq_self, and_true, true_and, Bool.true_eq_false, Bool.false_eq_true]
  refine l_items_ok (s := s) ⟨hs.1, by omega⟩ hp.1 hw.1 ?_
  rw [M.it]
  try simp only [pm01, pm012, wp_bind, wp_ret, wp_chk, wp_ofO, wp_look, wp_new, wp_setO, wp_br, v_var, v_lit, v_glo, v_bin, v_neg, v_cmp, v_cmp2, v_and, v_or, v_not, v_ife, v_tup, v_lst, v_dct0, v_dct, v_ix, v_slc, v_rev, v_bi, v_isi, v_mth, v_call, v_comp, vs_nil, vs_cons, vo_none, vo_some, vc_none, vc_some, vi_val, vi_rng1, vi_rng2, vt_tup, vt_sub, vts_nil, vts_cons, x_asg, x_par, x_aug, x_exp, x_ret, x_retN, x_ifs, x_for, x_whl, x_brk, x_cnt, x_pss, b_nil', b_cons', sq_nx, sq_rt, sq_bk, sq_ct, gv_0, gv_S, wt_0, wt_S, o_add, o_sub, o_mul, o_fdiv, o_mod, o_pow, o_addT, o_mulT, c_lt, c_le, c_gt, c_ge, wp_eq_int, wp_ne_int, n_bl, n_int, bi_int, bi_len, bi_tuple, bi_list, it_tup, r_tup, r_ref, ix_tup, wp_ix_ref, ixR_lst, ixR_dic, wp_set_ref, setR_dic, sl_tup, sl_ref, pk_int, r1_int, ck_bl, rk_rt, rk_nx, wp_mth, m_append, m_pop, Option.some.injEq, exists_eq_left', setAll, List.length_cons, List.length_nil, List.set_cons_succ, List.set_cons_zero, List.length_set, Nat.reduceAdd, Nat.reduceLT, if_true, Nat.zero_add, reduceCtorEq, false_implies, true_implies, eq_self, and_true, true_and, Bool.true_eq_false, Bool.false_eq_true]
  refine draw_ok (n := ((tabs.length : Nat) : Int)) D (by omega) (divOk_of ⟨by omega, by omega⟩) (by omega) fun i L1 i0 i1 D1 F1 => ?_
  have hi : i.toNat < tabs.length := by omega
  have ei : i = (i.toNat : Int) := by omega
  have e2 := L2.atI_nat (List.getElem?_eq_getElem hi)
  rw [← ei] at e2
  try simp only [pm01, pm012, wp_bind, wp_ret, wp_chk, wp_ofO, wp_look, wp_new, wp_setO, wp_br, v_var, v_lit, v_glo, v_bin, v_neg, v_cmp, v_cmp2, v_and, v_or, v_not, v_ife, v_tup, v_lst, v_dct0, v_dct, v_ix, v_slc, v_rev, v_bi, v_isi, v_mth, v_call, v_comp, vs_nil, vs_cons, vo_none, vo_some, vc_none, vc_some, vi_val, vi_rng1, vi_rng2, vt_tup, vt_sub, vts_nil, vts_cons, x_asg, x_par, x_aug, x_exp, x_ret, x_retN, x_ifs, x_for, x_whl, x_brk, x_cnt, x_pss, b_nil', b_cons', sq_nx, sq_rt, sq_bk, sq_ct, gv_0, gv_S, wt_0, wt_S, o_add, o_sub, o_mul, o_fdiv, o_mod, o_pow, o_addT, o_mulT, c_lt, c_le, c_gt, c_ge, wp_eq_int, wp_ne_int, n_bl, n_int, bi_int, bi_len, bi_tuple, bi_list, it_tup, r_tup, r_ref, ix_tup, wp_ix_ref, ixR_lst, ixR_dic, wp_set_ref, setR_dic, sl_tup, sl_ref, pk_int, r1_int, ck_bl, rk_rt, rk_nx, wp_mth, m_append, m_pop, Option.some.injEq, exists_eq_left', setAll, List.length_cons, List.length_nil, List.set_cons_succ, List.set_cons_zero, List.length_set, Nat.reduceAdd, Nat.reduceLT, if_true, Nat.zero_add, reduceCtorEq, false_implies, true_implies, eq_self, and_true, true_and, Bool.true_eq_false, Bool.false_eq_true]
  refine ⟨_, e2, ?_⟩
  obtain ⟨xs, ex, lx, ix⟩ := M.tb _ (List.getElem_mem hi)
  rw [ex]
  try simp only [pm01, pm012, wp_bind, wp_ret, wp_chk, wp_ofO, wp_look, wp_new, wp_setO, wp_br, v_var, v_lit, v_glo, v_bin, v_neg, v_cmp, v_cmp2, v_and, v_or, v_not, v_ife, v_tup, v_lst, v_dct0, v_dct, v_ix, v_slc, v_rev, v_bi, v_isi, v_mth, v_call, v_comp, vs_nil, vs_cons, vo_none, vo_some, vc_none, vc_some, vi_val, vi_rng1, vi_rng2, vt_tup, vt_sub, vts_nil, vts_cons, x_asg, x_par, x_aug, x_exp, x_ret, x_retN, x_ifs, x_for, x_whl, x_brk, x_cnt, x_pss, b_nil', b_cons', sq_nx, sq_rt, sq_bk, sq_ct, gv_0, gv_S, wt_0, wt_S, o_add, o_sub, o_mul, o_fdiv, o_mod, o_pow, o_addT, o_mulT, c_lt, c_le, c_gt, c_ge, wp_eq_int, wp_ne_int, n_bl, n_int, bi_int, bi_len, bi_tuple, bi_list, it_tup, r_tup, r_ref, ix_tup, wp_ix_ref, ixR_lst, ixR_dic, wp_set_ref, setR_dic, sl_tup, sl_ref, pk_int, r1_int, ck_bl, rk_rt, rk_nx, wp_mth, m_append, m_pop, Option.some.injEq, exists_eq_left', setAll, List.length_cons, List.length_nil, List.set_cons_succ, List.set_cons_zero, List.length_set, Nat.reduceAdd, Nat.reduceLT, if_true, Nat.zero_add, reduceCtorEq, false_implies, true_implies, eq_self, and_true, true_and, Bool.true_eq_false, Bool.false_eq_true]
  refine bent_table_ok D1 hn lx ix (by omega) fun v M2 t2 ht2 gv D2 F2 => ?_
  try simp only [pm01, pm012, wp_bind, wp_ret, wp_chk, wp_ofO, wp_look, wp_new, wp_setO, wp_br, v_var, v_lit, v_glo, v_bin, v_neg, v_cmp, v_cmp2, v_and, v_or, v_not, v_ife, v_tup, v_lst, v_dct0, v_dct, v_ix, v_slc, v_rev, v_bi, v_isi, v_mth, v_call, v_comp, vs_nil, vs_cons, vo_none, vo_some, vc_none, vc_some, vi_val, vi_rng1, vi_rng2, vt_tup, vt_sub, vts_nil, vts_cons, x_asg, x_par, x_aug, x_exp, x_ret, x_retN, x_ifs, x_for, x_whl, x_brk, x_cnt, x_pss, b_nil', b_cons', sq_nx, sq_rt, sq_bk, sq_ct, gv_0, gv_S, wt_0, wt_S, o_add, o_sub, o_mul, o_fdiv, o_mod, o_pow, o_addT, o_mulT, c_lt, c_le, c_gt, c_ge, wp_eq_int, wp_ne_int, n_bl, n_int, bi_int, bi_len, bi_tuple, bi_list, it_tup, r_tup, r_ref, ix_tup, wp_ix_ref, ixR_lst, ixR_dic, wp_set_ref, setR_dic, sl_tup, sl_ref, pk_int, r1_int, ck_bl, rk_rt, rk_nx, wp_mth, m_append, m_pop, Option.some.injEq, exists_eq_left', setAll, List.length_cons, List.length_nil, List.set_cons_succ, List.set_cons_zero, List.length_set, Nat.reduceAdd, Nat.reduceLT, if_true, Nat.zero_add, reduceCtorEq, false_implies, true_implies, eq_self, and_true, true_and, Bool.true_eq_false, Bool.false_eq_true]
  refine put_ok ⟨i0, by omega⟩ (by omega) ?_
  refine ⟨by decide, q _ _ t2 (by omega) (ri_of (n := 5) (w := 9901 * 12 + 12000 + 700) ?_ (by decide) (by decide)) D2 (F1.trans F2)⟩
  refine four_gd (way_gd M.ha _) (int_gd (by omega) _) (int_gd (by omega) _) (.tup (.set (w := 9901 * 12) gv ((tabs_gd M.hn.2 M.tb hl.2 (by decide)).le (by decide) (Nat.le_refl _)) (Nat.le_refl _)) (sl4 ?_))
  rw [List.length_set]
  omega
end K35


namespace K35
open PySem Mv
def bentB : List IS := (f_l_bent.body.drop 5).take 3
theorem bent_bc : f_l_bent.body = f_l_bent.body.take 5 ++ (bentB ++ bentC) := rfl
theorem bent_b {k d h t n : Nat} {s p w z : Int} {a : Str} {tabs : List LV} {L : LH} {Q : LV → LH → Prop} (D : Deck d h t L) (M : Mach s p w a n tabs) (ht : t < 1000000) (hz : 0 ≤ z)
    (q : ∀ v L' t', t' ≤ t + 8 → Ri L' v → Deck d h t' L' → Fr d h L L' → Q v L') :
    wp (evB (run prog (k + 4)) (bentB ++ bentC) [some (.ref d), some (.int s), some (.tup [.str a, .int p, .int w, .tup tabs]), some (.str a), some (.int p), some (.int w), some (.tup tabs), some (.int z), none, none, none, none]) L fun r L1 => wp (retK r) L1 Q := by
  have hs := M.hs
  have hp := M.hp
  have hw := M.hw
  have hl := M.hl
  have hn := M.hn
  have l1 : d < L.length := by obtain ⟨_, _, _, _, e, _⟩ := D; exact lt_of e
  have l2 : h < L.length := by obtain ⟨_, _, _, _, _, e⟩ := D; exact lt_of e
  have T1 := M.gd (L := L)
  have e0 := L2.atI_nat (xs := tabs) (j := 0) (List.getElem?_eq_getElem (by omega))
  rw [show ((0 : Nat) : Int) = 0 from rfl] at e0
  rw [b_app]
  simp only [bentB, f_l_bent, List.drop_succ_cons, List.drop_zero, List.take_succ_cons, List.take_zero, len_tup, pm01, pm012, ix_tup, e0, wp_bind, wp_ret, wp_chk, wp_ofO, wp_look, wp_new, wp_setO, wp_br, v_var, v_lit, v_glo, v_bin, v_neg, v_cmp, v_cmp2, v_and, v_or, v_not, v_ife, v_tup, v_lst, v_dct0, v_dct, v_ix, v_slc, v_rev, v_bi, v_isi, v_mth, v_call, v_comp, vs_nil, vs_cons, vo_none, vo_some, vc_none, vc_some, vi_val, vi_rng1, vi_rng2, vt_tup, vt_sub, vts_nil, vts_cons, x_asg, x_par, x_aug, x_exp, x_ret, x_retN, x_ifs, x_for, x_whl, x_brk, x_cnt, x_pss, b_nil', b_cons', sq_nx, sq_rt, sq_bk, sq_ct, gv_0, gv_S, wt_0, wt_S, o_add, o_sub, o_mul, o_fdiv, o_mod, o_pow, o_addT, o_mulT, c_lt, c_le, c_gt, c_ge, wp_eq_int, wp_ne_int, n_bl, n_int, bi_int, bi_len, bi_tuple, bi_list, it_tup, r_tup, r_ref, ix_tup, wp_ix_ref, ixR_lst, ixR_dic, wp_set_ref, setR_dic, sl_tup, sl_ref, pk_int, r1_int, ck_bl, rk_rt, rk_nx, wp_mth, m_append, m_pop, Option.some.injEq, exists_eq_left', setAll, List.length_cons, List.length_nil, List.set_cons_succ, List.set_cons_zero, List.length_set, Nat.reduceAdd, Nat.reduceLT, if_true, Nat.zero_add, reduceCtorEq, false_implies, true_implies, eq_self, and_true, true_and, Bool.true_eq_false, Bool.false_eq_true]
  refine ⟨fun c => ?_, fun c => ⟨fun c => ?_, fun c => ⟨fun c => ?_, fun c => ?_⟩⟩⟩
  · have sm : ∀ m, m ≤ 1000 → small m = true := fun m h => decide_eq_true (Nat.le_of_lt (sl4 h))
    have c1 : (cut tabs none (some 1)).length ≤ tabs.length := (cut_sub _ _ _).length_le
    refine ⟨by decide, tabs, rfl, sm _ (by omega), by decide, ?_⟩
    refine pick_ok (D.grow ⟨[.lst tabs] ++ [.lst _], by rw [List.append_assoc]⟩) (by omega) (by simp; omega) (by rw [List.getElem?_append_right (Nat.le_refl _), Nat.sub_self]; rfl) (by simp) fun x M2 hx D2 F2 => ?_
    have F : Fr d h L M2 := (Fr.grow ⟨[.lst tabs] ++ [.lst _], by rw [List.append_assoc]⟩).trans F2
    have eT : M2[L.length]? = some (.lst tabs) := by
      rw [F2.at_ L.length (by simp only [List.length_append]; simp; omega) (by omega) (by omega), List.append_assoc, List.getElem?_append_right (Nat.le_refl _), Nat.sub_self]
      rfl
    refine ⟨by decide, q _ _ _ (by omega) (ri_of (n := 5) (w := 9901 * 24 + 700) ?_ (by decide) (by decide)) D2 F⟩
    have tg := fun m hm hm2 => tabs_gd (L := M2) (m := m) M.hn.2 M.tb hm hm2
    refine four_gd (way_gd M.ha _) (int_gd (by omega) _) (int_gd (by omega) _) ?_
    simp only [List.mem_cons, List.not_mem_nil, or_false] at hx
    rcases hx with rfl | rfl | rfl | rfl | rfl
    · exact .tup .nil (sl4 (by simp))
    · exact (GD.tup ((tg 12 hl.2 (by decide)).sub (cut_sub _ _ _)) (sl4 (Nat.le_trans (cut_sub _ _ _).length_le (by omega)))).le (by decide) (by decide)
    · exact (GD.lst eT (tg 12 hl.2 (by decide))).le (by decide) (by decide)
    · exact (GD.tup (n := 2) (GDs.append (tg 12 hl.2 (by decide)) ((tg 12 hl.2 (by decide)).sub (cut_sub _ _ _)) (Nat.le_refl _)) (sl4 (by rw [List.length_append]; omega))).le (by decide) (by decide)
    · exact (tb_of M.hn.2 (M.tb _ (List.getElem_mem _))).le (by decide) (by decide)
  · have e13 : Int.toNat 13 = 13 := rfl
    refine ⟨?_, draw_ok D (by decide) (divOk_of (by decide)) (by omega) fun i L1 i0 i1 D1 F1 => ?_⟩
    · rw [e13, Bool.and_eq_true]
      exact ⟨by decide, decide_eq_true (Nat.le_of_lt (sl4 (by omega)))⟩
    · try simp only [pm01, pm012, wp_bind, wp_ret, wp_chk, wp_ofO, wp_look, wp_new, wp_setO, wp_br, v_var, v_lit, v_glo, v_bin, v_neg, v_cmp, v_cmp2, v_and, v_or, v_not, v_ife, v_tup, v_lst, v_dct0, v_dct, v_ix, v_slc, v_rev, v_bi, v_isi, v_mth, v_call, v_comp, vs_nil, vs_cons, vo_none, vo_some, vc_none, vc_some, vi_val, vi_rng1, vi_rng2, vt_tup, vt_sub, vts_nil, vts_cons, x_asg, x_par, x_aug, x_exp, x_ret, x_retN, x_ifs, x_for, x_whl, x_brk, x_cnt, x_pss, b_nil', b_cons', sq_nx, sq_rt, sq_bk, sq_ct, gv_0, gv_S, wt_0, wt_S, o_add, o_sub, o_mul, o_fdiv, o_mod, o_pow, o_addT, o_mulT, c_lt, c_le, c_gt, c_ge, wp_eq_int, wp_ne_int, n_bl, n_int, bi_int, bi_len, bi_tuple, bi_list, it_tup, r_tup, r_ref, ix_tup, wp_ix_ref, ixR_lst, ixR_dic, wp_set_ref, setR_dic, sl_tup, sl_ref, pk_int, r1_int, ck_bl, rk_rt, rk_nx, wp_mth, m_append, m_pop, Option.some.injEq, exists_eq_left', setAll, List.length_cons, List.length_nil, List.set_cons_succ, List.set_cons_zero, List.length_set, Nat.reduceAdd, Nat.reduceLT, if_true, Nat.zero_add, reduceCtorEq, false_implies, true_implies, eq_self, and_true, true_and, Bool.true_eq_false, Bool.false_eq_true]
      refine ⟨by decide, q _ _ _ (by omega) (ri_of (n := 5) (w := 9901 * 13 + 700) ?_ (by decide) (by decide)) D1 F1⟩
      rw [cutL_hi (by omega)]
      refine four_gd (way_gd M.ha _) (int_gd (by omega) _) (int_gd (by omega) _) ((GD.tup (n := 2) (tabs_gd M.hn.2 (fun x hx => M.tb x ?_) ?_ (by decide)) (sl4 ?_)).le (by decide) (Nat.le_refl _))
      · have hx := List.mem_of_mem_take hx
        unfold reps at hx
        obtain ⟨l, hl1, hl2⟩ := List.mem_flatten.mp hx
        rw [List.eq_of_mem_replicate hl1] at hl2
        exact hl2
      · rw [List.length_take]
        omega
      · rw [List.length_take]
        omega
  · refine ⟨_, rfl, by decide, by decide, ?_⟩
    refine dct_ref (by simp) ?_
    refine ⟨by decide, ?_⟩
    have eS : ∀ m : List LV, ∀ o : LO, (L ++ [LO.lst m] ++ [LO.dic []]).set (L ++ [LO.lst m]).length o = L ++ [LO.lst m, o] := fun m o => by
      rw [List.set_append_right _ _ (Nat.le_refl _), Nat.sub_self, List.append_assoc]
      rfl
    rw [eS]
    refine pick_ok (D.grow ⟨_, by rw [List.append_assoc]⟩) (by omega) (by simp; omega) (by rw [List.getElem?_append_right (Nat.le_refl _), Nat.sub_self]; rfl) (by simp) fun x M2 hx D2 F2 => ?_
    have F : Fr d h L M2 := (Fr.grow ⟨_, by rw [List.append_assoc]⟩).trans F2
    have at1 : M2[L.length]? = some (.lst [.str a, .int p, .int w, .tup tabs]) := by
      rw [F2.at_ L.length (by simp only [List.length_append]; simp; omega) (by omega) (by omega), List.append_assoc, List.getElem?_append_right (Nat.le_refl _), Nat.sub_self]
      rfl
    have at2 : M2[L.length + 1]? = some (.dic (dmerge [] ([Sum.inr (Str.ofString "way")].zip [.str a]))) := by
      rw [F2.at_ (L.length + 1) (by simp only [List.length_append]; simp) (by omega) (by omega), List.append_assoc, List.getElem?_append_right (by omega), show L.length + 1 - L.length = 1 by omega]
      rfl
    have T := (M.gd (L := M2)).tupInv
    refine q _ _ _ (by omega) ?_ D2 F
    simp only [List.mem_cons, List.not_mem_nil, or_false] at hx
    rcases hx with rfl | rfl | rfl | rfl | rfl
    · exact ri_of (n := 4) (GD.lst at1 T.2) (by decide) (by decide)
    · exact ri_of (n := 4) (GD.tup (T.2.sub (cut_sub _ _ _)) (sl4 (Nat.le_trans (cut_sub _ _ _).length_le (by simp)))) (by decide) (by decide)
    · exact ri_of (n := 4) (w := 130000) (GD.tup (GDs.append T.2 (.cons (w1 := 10) (w2 := 0) (.int (b := 10) (by decide) (by decide) (by decide) (by decide)) .nil (Nat.le_refl _)) (by decide)) (sl4 (by simp))) (by decide) (by decide)
    · refine ri_of (n := 4) (w := 130000) ?_ (by decide) (by decide)
      obtain ⟨e1, e2⟩ := T
      have g := e2.mem
      have hp := M.hp
      exact (GD.tup (.cons (w2 := 800) ((tabs_gd M.hn.2 M.tb hl.2 (by decide)) |> fun z => (GD.tup z (sl4 (by omega)))) (.cons (w2 := 500) (int_gd (by omega) _) (.cons (w2 := 250) (int_gd (by omega) _) (.cons (w2 := 0) (way_gd M.ha _) .nil (by decide)) (by decide)) (by decide)) (Nat.le_refl _)) (sl4 (by simp))).le (by decide) (by decide)
    · simp only [List.length_append, List.length_cons, List.length_nil]
      exact dict_ri M.ha at2
  · refine bent_c D M ht hz q
end K35


namespace K35
open PySem Mv
theorem bent_ok {k d h t n : Nat} {s p w : Int} {a : Str} {tabs : List LV} {L : LH} {Q : LV → LH → Prop} (D : Deck d h t L) (M : Mach s p w a n tabs) (ht : t < 100000)
    (q : ∀ v L' t', t' ≤ t + 20 → Ri L' v → Deck d h t' L' → Fr d h L L' → Q v L') :
    wp (run prog (k + 5) 19 [.ref d, .int s, .tup [.str a, .int p, .int w, .tup tabs]]) L Q := by
  have hs := M.hs
  have hp := M.hp
  have hw := M.hw
  have hl := M.hl
  have hn := M.hn
  show wp (callFn (run prog (k + 4)) f_l_bent [.ref d, .int s, .tup [.str a, .int p, .int w, .tup tabs]]) L Q
  rw [call_eq, wp_chk]
  refine ⟨rfl, ?_⟩
  show wp (Mv.M.bind (evB _ (f_l_bent.body.take 5 ++ (bentB ++ bentC)) [some (.ref d), some (.int s), some (.tup [.str a, .int p, .int w, .tup tabs]), none, none, none, none, none, none, none, none, none]) retK) L Q
  rw [b_app]
  simp only [f_l_bent, List.take_succ_cons, List.take_zero, Mv.items, ITs.len, pm01, pm012, wp_bind, wp_ret, wp_chk, wp_ofO, wp_look, wp_new, wp_setO, wp_br, v_var, v_lit, v_glo, v_bin, v_neg, v_cmp, v_cmp2, v_and, v_or, v_not, v_ife, v_tup, v_lst, v_dct0, v_dct, v_ix, v_slc, v_rev, v_bi, v_isi, v_mth, v_call, v_comp, vs_nil, vs_cons, vo_none, vo_some, vc_none, vc_some, vi_val, vi_rng1, vi_rng2, vt_tup, vt_sub, vts_nil, vts_cons, x_asg, x_par, x_aug, x_exp, x_ret, x_retN, x_ifs, x_for, x_whl, x_brk, x_cnt, x_pss, b_nil', b_cons', sq_nx, sq_rt, sq_bk, sq_ct, gv_0, gv_S, wt_0, wt_S, o_add, o_sub, o_mul, o_fdiv, o_mod, o_pow, o_addT, o_mulT, c_lt, c_le, c_gt, c_ge, wp_eq_int, wp_ne_int, n_bl, n_int, bi_int, bi_len, bi_tuple, bi_list, it_tup, r_tup, r_ref, ix_tup, wp_ix_ref, ixR_lst, ixR_dic, wp_set_ref, setR_dic, sl_tup, sl_ref, pk_int, r1_int, ck_bl, rk_rt, rk_nx, wp_mth, m_append, m_pop, Option.some.injEq, exists_eq_left', setAll, List.length_cons, List.length_nil, List.set_cons_succ, List.set_cons_zero, List.length_set, Nat.reduceAdd, Nat.reduceLT, if_true, Nat.zero_add, reduceCtorEq, false_implies, true_implies, eq_self, and_true, true_and, Bool.true_eq_false, Bool.false_eq_true]
  have l1 : d < L.length := by obtain ⟨_, _, _, _, e, _⟩ := D; exact lt_of e
  have l2 : h < L.length := by obtain ⟨_, _, _, _, _, e⟩ := D; exact lt_of e
  refine ⟨by decide, ?_⟩
  refine draw_ok D (by decide) (divOk_of (by decide)) (by omega) fun z L1 z0 z1 D1 F1 => ?_
  try simp only [pm01, pm012, wp_bind, wp_ret, wp_chk, wp_ofO, wp_look, wp_new, wp_setO, wp_br, v_var, v_lit, v_glo, v_bin, v_neg, v_cmp, v_cmp2, v_and, v_or, v_not, v_ife, v_tup, v_lst, v_dct0, v_dct, v_ix, v_slc, v_rev, v_bi, v_isi, v_mth, v_call, v_comp, vs_nil, vs_cons, vo_none, vo_some, vc_none, vc_some, vi_val, vi_rng1, vi_rng2, vt_tup, vt_sub, vts_nil, vts_cons, x_asg, x_par, x_aug, x_exp, x_ret, x_retN, x_ifs, x_for, x_whl, x_brk, x_cnt, x_pss, b_nil', b_cons', sq_nx, sq_rt, sq_bk, sq_ct, gv_0, gv_S, wt_0, wt_S, o_add, o_sub, o_mul, o_fdiv, o_mod, o_pow, o_addT, o_mulT, c_lt, c_le, c_gt, c_ge, wp_eq_int, wp_ne_int, n_bl, n_int, bi_int, bi_len, bi_tuple, bi_list, it_tup, r_tup, r_ref, ix_tup, wp_ix_ref, ixR_lst, ixR_dic, wp_set_ref, setR_dic, sl_tup, sl_ref, pk_int, r1_int, ck_bl, rk_rt, rk_nx, wp_mth, m_append, m_pop, Option.some.injEq, exists_eq_left', setAll, List.length_cons, List.length_nil, List.set_cons_succ, List.set_cons_zero, List.length_set, Nat.reduceAdd, Nat.reduceLT, if_true, Nat.zero_add, reduceCtorEq, false_implies, true_implies, eq_self, and_true, true_and, Bool.true_eq_false, Bool.false_eq_true]
  have le := F1.le
  refine ⟨fun c => ?_, fun c => ⟨fun c => ?_, fun c => ⟨fun c => ?_, fun c => ?_⟩⟩⟩
  · refine ⟨by decide, by decide, ?_⟩
    refine pick_ok (ys := badWays) (D1.grow ⟨_, rfl⟩) (by omega) (by omega) (by rw [List.getElem?_append_right (Nat.le_refl _), Nat.sub_self]; rfl) (by decide) fun x M2 hx D2 F2 => ?_
    refine ⟨by decide, q _ _ _ (by omega) (ri_of (n := 5) (w := 9901 * 12 + 700) ?_ (by decide) (by decide)) D2 ((F1.trans (Fr.grow ⟨_, rfl⟩)).trans F2)⟩
    exact four_gd ((bad_gd hx).le (by decide) (by decide)) (int_gd (by omega) _) (int_gd (by omega) _) ((GD.tup (n := 2) (tabs_gd M.hn.2 M.tb hl.2 (by decide)) (sl4 (by omega))).le (by decide) (by decide))
  · refine other_ok D1 (Nat.lt_trans (lg10 (by omega)) (by decide)) (by omega) fun x M2 hx D2 F2 => ?_
    refine ⟨by decide, q _ _ _ (by omega) (ri_of (n := 5) (w := 9901 * 12 + 700) ?_ (by decide) (by decide)) D2 (F1.trans F2)⟩
    exact four_gd (way_gd M.ha _) ((other_gd hx (by omega)).le (by decide) (by decide)) (int_gd (by omega) _) ((GD.tup (n := 2) (tabs_gd M.hn.2 M.tb hl.2 (by decide)) (sl4 (by omega))).le (by decide) (by decide))
  · refine other_ok D1 (Nat.lt_trans (lg10 (by omega)) (by decide)) (by omega) fun x M2 hx D2 F2 => ?_
    refine ⟨by decide, q _ _ _ (by omega) (ri_of (n := 5) (w := 9901 * 12 + 700) ?_ (by decide) (by decide)) D2 (F1.trans F2)⟩
    exact four_gd (way_gd M.ha _) (int_gd (by omega) _) ((other_gd hx (by omega)).le (by decide) (by decide)) ((GD.tup (n := 2) (tabs_gd M.hn.2 M.tb hl.2 (by decide)) (sl4 (by omega))).le (by decide) (by decide))
  · exact bent_b D1 M (by omega) z0 fun v L' t' ht' r D' F' => q v L' t' (by omega) r D' (F1.trans F')
def greatT : List IS := f_l_great.body.drop 2
theorem big_gd {L : LH} (n : Nat) : GD L 41 n 200 (.int (10 ^ Int.toNat 39)) := by
  refine ⟨_, .int _ _ (by decide +kernel) (by decide +kernel), ?_⟩
  simp only [PyData.weight]
  decide +kernel
theorem great_tail {k d h t : Nat} {s w z : Int} {L : LH} {Q : LV → LH → Prop} (D : Deck d h t L) (hz : 1 < z ∧ z < 100) (hw : 1 ≤ w ∧ w ≤ 6) (ht : t < 1000000)
    (q : ∀ v L' t', t' ≤ t + 19 → Ri L' v → Deck d h t' L' → Fr d h L L' → Q v L') :
    wp (evB (run prog (k + 4)) greatT [some (.ref d), some (.int s), some (.int w), some (.int z), none, none, none]) L fun r L1 => wp (retK r) L1 Q := by
  simp only [greatT, f_l_great, List.drop_succ_cons, List.drop_zero, pm01, pm012, wp_bind, wp_ret, wp_chk, wp_ofO, wp_look, wp_new, wp_setO, wp_br, v_var, v_lit, v_glo, v_bin, v_neg, v_cmp, v_cmp2, v_and, v_or, v_not, v_ife, v_tup, v_lst, v_dct0, v_dct, v_ix, v_slc, v_rev, v_bi, v_isi, v_mth, v_call, v_comp, vs_nil, vs_cons, vo_none, vo_some, vc_none, vc_some, vi_val, vi_rng1, vi_rng2, vt_tup, vt_sub, vts_nil, vts_cons, x_asg, x_par, x_aug, x_exp, x_ret, x_retN, x_ifs, x_for, x_whl, x_brk, x_cnt, x_pss, b_nil', b_cons', sq_nx, sq_rt, sq_bk, sq_ct, gv_0, gv_S, wt_0, wt_S, o_add, o_sub, o_mul, o_fdiv, o_mod, o_pow, o_addT, o_mulT, c_lt, c_le, c_gt, c_ge, wp_eq_int, wp_ne_int, n_bl, n_int, bi_int, bi_len, bi_tuple, bi_list, it_tup, r_tup, r_ref, ix_tup, wp_ix_ref, ixR_lst, ixR_dic, wp_set_ref, setR_dic, sl_tup, sl_ref, pk_int, r1_int, ck_bl, rk_rt, rk_nx, wp_mth, m_append, m_pop, Option.some.injEq, exists_eq_left', setAll, List.length_cons, List.length_nil, List.set_cons_succ, List.set_cons_zero, List.length_set, Nat.reduceAdd, Nat.reduceLT, if_true, Nat.zero_add, reduceCtorEq, false_implies, true_implies, eq_self, and_true, true_and, Bool.true_eq_false, Bool.false_eq_true]
  refine ⟨divOk_of ⟨by omega, by omega⟩, ?_⟩
  refine draw_ok D (by decide) (divOk_of (by decide)) (by omega) fun i L1 i0 i1 D1 F1 => ?_
  have l1 : d < L1.length := by obtain ⟨_, _, _, _, e, _⟩ := D1; exact lt_of e
  have l2 : h < L1.length := by obtain ⟨_, _, _, _, _, e⟩ := D1; exact lt_of e
  try simp only [pm01, pm012, wp_bind, wp_ret, wp_chk, wp_ofO, wp_look, wp_new, wp_setO, wp_br, v_var, v_lit, v_glo, v_bin, v_neg, v_cmp, v_cmp2, v_and, v_or, v_not, v_ife, v_tup, v_lst, v_dct0, v_dct, v_ix, v_slc, v_rev, v_bi, v_isi, v_mth, v_call, v_comp, vs_nil, vs_cons, vo_none, vo_some, vc_none, vc_some, vi_val, vi_rng1, vi_rng2, vt_tup, vt_sub, vts_nil, vts_cons, x_asg, x_par, x_aug, x_exp, x_ret, x_retN, x_ifs, x_for, x_whl, x_brk, x_cnt, x_pss, b_nil', b_cons', sq_nx, sq_rt, sq_bk, sq_ct, gv_0, gv_S, wt_0, wt_S, o_add, o_sub, o_mul, o_fdiv, o_mod, o_pow, o_addT, o_mulT, c_lt, c_le, c_gt, c_ge, wp_eq_int, wp_ne_int, n_bl, n_int, bi_int, bi_len, bi_tuple, bi_list, it_tup, r_tup, r_ref, ix_tup, wp_ix_ref, ixR_lst, ixR_dic, wp_set_ref, setR_dic, sl_tup, sl_ref, pk_int, r1_int, ck_bl, rk_rt, rk_nx, wp_mth, m_append, m_pop, Option.some.injEq, exists_eq_left', setAll, List.length_cons, List.length_nil, List.set_cons_succ, List.set_cons_zero, List.length_set, Nat.reduceAdd, Nat.reduceLT, if_true, Nat.zero_add, reduceCtorEq, false_implies, true_implies, eq_self, and_true, true_and, Bool.true_eq_false, Bool.false_eq_true]
  generalize hp : (100000 / z + i) = p
  have p1 : 0 ≤ 100000 / z := Int.ediv_nonneg (by decide) (by omega)
  have p2 : 100000 / z ≤ 50000 := by
    have := Int.ediv_le_ediv (c := 2) (a := 100000) (b := 100000) (by decide) (Int.le_refl _)
    have h2 : 100000 / z * z ≤ 100000 := Int.ediv_mul_le _ (by omega)
    have h3 : 100000 / z * 2 ≤ 100000 / z * z := Int.mul_le_mul_of_nonneg_left (by omega) p1
    omega
  have p3 : 0 ≤ p * z ∧ p * z ≤ 100200 := by
    have h2 : 100000 / z * z ≤ 100000 := Int.ediv_mul_le _ (by omega)
    subst hp
    rw [Int.add_mul]
    have h4 : i = 0 ∨ i = 1 := by omega
    have h5 : 0 ≤ 100000 / z * z := Int.mul_nonneg p1 (by omega)
    rcases h4 with rfl | rfl <;> omega
  have nb : p * z < 9223372036854775808 := by omega
  have e1 : reps [LV.int (-1)] (p * z) = iv (List.replicate (p * z).toNat (-1)) := reps_one (v := -1)
  refine ⟨by decide, mulOk_l ⟨by omega, by omega⟩, ?_, by decide, by decide, by decide, by decide, by decide, by decide, by decide, by decide, by decide, by decide, ?_⟩
  · rw [Bool.and_eq_true]
    refine ⟨decide_eq_true ⟨by omega, by omega⟩, decide_eq_true (Nat.le_trans (show _ ≤ 200000 from ?_) (by decide))⟩
    try simp only [List.length_cons, List.length_nil]
    omega
  · refine pick_ok (D1.grow ⟨_, rfl⟩) (by omega) (by omega) (by rw [List.getElem?_append_right (Nat.le_refl _), Nat.sub_self]; rfl) (by simp) fun x M2 hx D2 F2 => ?_
    refine q _ _ _ (by omega) ?_ D2 ((F1.trans (Fr.grow ⟨_, rfl⟩)).trans F2)
    simp only [List.mem_cons, List.not_mem_nil, or_false] at hx
    rcases hx with rfl | rfl | rfl
    · rw [e1]
      refine ri_of (n := 4) (w := 200402 + 700) (four_gd (way_gd (.inr rfl) _) ?_ (int_gd (by omega) _) ?_) (by decide) (by decide)
      · refine .int (b := 20) ?_ (by decide) (by decide) (by decide)
        rcases Nat.eq_zero_or_pos p.natAbs with e | e
        · rw [e]; decide
        · rw [Nat.log2_lt (by omega)]
          omega
      · refine .tup (.cons (w1 := 200400) (w2 := 0) (.tup ((GDs.ints (b := 1) (fun x hx => ?_) (by decide) (by decide)).le (Nat.le_refl 1) ?_) ?_) .nil (by decide)) (sl4 (by simp))
        · rw [List.eq_of_mem_replicate hx]
          decide
        · rw [List.length_replicate]
          omega
        · rw [iv_len, List.length_replicate]
          exact Nat.lt_of_le_of_lt (show (p * z).toNat ≤ 200000 by omega) (by decide)
    · exact ri_of (n := 4) (w := 100 + 700) (four_gd (way_gd (.inl rfl) _) (big_gd _) (int_gd (by decide) _) (.tup .nil (sl4 (by simp)))) (by decide) (by decide)
    · exact ri_of (n := 4) (w := 100 + 700) (four_gd (way_gd (.inl rfl) _) (int_gd (by decide) _) (big_gd _) (.tup (.cons (w1 := 20) (w2 := 0) (.tup (.cons (w1 := 10) (w2 := 0) (.int (b := 10) (by decide) (by decide) (by decide) (by decide)) .nil (by decide)) (sl4 (by simp))) .nil (by decide)) (sl4 (by simp)))) (by decide) (by decide)
theorem great_ok {k d h t : Nat} {s : Int} {L : LH} {Q : LV → LH → Prop} (D : Deck d h t L) (hs : s = 2 ∨ s = 3 ∨ s = 4 ∨ s = 6) (ht : t < 1000000)
    (q : ∀ v L' t', t' ≤ t + 20 → Ri L' v → Deck d h t' L' → Fr d h L L' → Q v L') :
    wp (run prog (k + 5) 20 [.ref d, .int s]) L Q := by
  show wp (callFn (run prog (k + 4)) f_l_great [.ref d, .int s]) L Q
  rw [call_eq, wp_chk]
  refine ⟨rfl, ?_⟩
  show wp (M.bind (evB _ (f_l_great.body.take 2 ++ greatT) [some (.ref d), some (.int s), none, none, none, none, none]) retK) L Q
  rw [b_app]
  have l1 : d < L.length := by obtain ⟨_, _, _, _, e, _⟩ := D; exact lt_of e
  have l2 : h < L.length := by obtain ⟨_, _, _, _, _, e⟩ := D; exact lt_of e
  simp only [f_l_great, List.take_succ_cons, List.take_zero, pm01, pm012, wp_bind, wp_ret, wp_chk, wp_ofO, wp_look, wp_new, wp_setO, wp_br, v_var, v_lit, v_glo, v_bin, v_neg, v_cmp, v_cmp2, v_and, v_or, v_not, v_ife, v_tup, v_lst, v_dct0, v_dct, v_ix, v_slc, v_rev, v_bi, v_isi, v_mth, v_call, v_comp, vs_nil, vs_cons, vo_none, vo_some, vc_none, vc_some, vi_val, vi_rng1, vi_rng2, vt_tup, vt_sub, vts_nil, vts_cons, x_asg, x_par, x_aug, x_exp, x_ret, x_retN, x_ifs, x_for, x_whl, x_brk, x_cnt, x_pss, b_nil', b_cons', sq_nx, sq_rt, sq_bk, sq_ct, gv_0, gv_S, wt_0, wt_S, o_add, o_sub, o_mul, o_fdiv, o_mod, o_pow, o_addT, o_mulT, c_lt, c_le, c_gt, c_ge, wp_eq_int, wp_ne_int, n_bl, n_int, bi_int, bi_len, bi_tuple, bi_list, it_tup, r_tup, r_ref, ix_tup, wp_ix_ref, ixR_lst, ixR_dic, wp_set_ref, setR_dic, sl_tup, sl_ref, pk_int, r1_int, ck_bl, rk_rt, rk_nx, wp_mth, m_append, m_pop, Option.some.injEq, exists_eq_left', setAll, List.length_cons, List.length_nil, List.set_cons_succ, List.set_cons_zero, List.length_set, Nat.reduceAdd, Nat.reduceLT, if_true, Nat.zero_add, reduceCtorEq, false_implies, true_implies, eq_self, and_true, true_and, Bool.true_eq_false, Bool.false_eq_true]
  refine dct_ref (by simp) ?_
  have eS : ∀ o : LO, (L ++ [LO.dic []]).set L.length o = L ++ [o] := fun o => by
    rw [List.set_append_right _ _ (Nat.le_refl _), Nat.sub_self]
    rfl
  have eN : ∀ o : LO, (L ++ [o])[L.length]? = some o := fun o => by
    rw [List.getElem?_append_right (Nat.le_refl _), Nat.sub_self]
    rfl
  have g : Grow L (L ++ [LO.dic (dmerge [] ([Sum.inl 2, Sum.inl 3, Sum.inl 4, Sum.inl 6].zip [LV.int 5, LV.int 3, LV.int 3, LV.int 2]))]) := ⟨_, rfl⟩
  rw [eS]
  rw [wp_ix_ref, eN]
  have G := fun v L' t' (a : t' ≤ t + 19) b c e => q v L' t' (by omega) b c ((Fr.grow g).trans e)
  have ixd : ∀ (kvs : List (L2.Key × LV)) (i : Int), ixR (some (.dic kvs)) (.int i) = M.ofO (dval kvs (.inl i)) M.ret := fun _ _ => rfl
  have one : ∀ (n : Nat), dval (dmerge [] ([Sum.inl 2, Sum.inl 3, Sum.inl 4, Sum.inl 6].zip [LV.int 5, LV.int 3, LV.int 3, LV.int 2])) (.inl s) = some (.int (n : Int)) → (1 ≤ (n : Int) ∧ (n : Int) ≤ 6) → (0 < s ∧ s < 100) → (1 < s ^ n ∧ s ^ n < 100) → _ := fun n e h1 h2 h3 => (⟨_, e, power_ok (k := k + 3) h2 (by omega) (great_tail (k := k) (D.grow g) h3 h1 ht G)⟩ : ∃ v, dval (dmerge [] ([Sum.inl 2, Sum.inl 3, Sum.inl 4, Sum.inl 6].zip [LV.int 5, LV.int 3, LV.int 3, LV.int 2])) (.inl s) = some v ∧ wp (Mv.run prog (k + 4) 9 [LV.int s, v]) _ (fun z L1 => wp (evB (Mv.run prog (k + 4)) greatT [some (.ref d), some (.int s), some v, some z, none, none, none]) L1 fun r L1 => wp (retK r) L1 Q))
  simp only [ixd, wp_bind, wp_ret, wp_chk, wp_ofO, wp_look, wp_new, wp_setO, wp_br, v_var, v_lit, v_glo, v_bin, v_neg, v_cmp, v_cmp2, v_and, v_or, v_not, v_ife, v_tup, v_lst, v_dct0, v_dct, v_ix, v_slc, v_rev, v_bi, v_isi, v_mth, v_call, v_comp, vs_nil, vs_cons, vo_none, vo_some, vc_none, vc_some, vi_val, vi_rng1, vi_rng2, vt_tup, vt_sub, vts_nil, vts_cons, x_asg, x_par, x_aug, x_exp, x_ret, x_retN, x_ifs, x_for, x_whl, x_brk, x_cnt, x_pss, b_nil', b_cons', sq_nx, sq_rt, sq_bk, sq_ct, gv_0, gv_S, wt_0, wt_S, o_add, o_sub, o_mul, o_fdiv, o_mod, o_pow, o_addT, o_mulT, c_lt, c_le, c_gt, c_ge, wp_eq_int, wp_ne_int, n_bl, n_int, bi_int, bi_len, bi_tuple, bi_list, it_tup, r_tup, r_ref, ix_tup, wp_ix_ref, ixR_lst, ixR_dic, wp_set_ref, setR_dic, sl_tup, sl_ref, pk_int, r1_int, ck_bl, rk_rt, rk_nx, wp_mth, m_append, m_pop, Option.some.injEq, exists_eq_left', setAll, List.length_cons, List.length_nil, List.set_cons_succ, List.set_cons_zero, List.length_set, Nat.reduceAdd, Nat.reduceLT, if_true, Nat.zero_add, reduceCtorEq, false_implies, true_implies, eq_self, and_true, true_and, Bool.true_eq_false, Bool.false_eq_true]
  rcases hs with rfl | rfl | rfl | rfl
  · exact one 5 rfl (by decide) (by decide) (by decide)
  · exact one 3 rfl (by decide) (by decide) (by decide)
  · exact one 3 rfl (by decide) (by decide) (by decide)
  · exact one 2 rfl (by decide) (by decide) (by decide)
end K35


namespace K35
open PySem Mv
theorem mach_of {s p w : Int} {a : Str} {tabs : List LV} (hs : 1 < s ∧ s < 7) (ha : a = Str.ofString "right" ∨ a = Str.ofString "left") (hp : 1 ≤ p ∧ p ≤ 3) (hw : 1 ≤ w ∧ w ≤ 2) (hl : 1 ≤ tabs.length ∧ tabs.length ≤ 12) (tb : ∀ x ∈ tabs, IsTb (itemsF s p w.toNat).toNat x) :
    ∃ n, Mach s p w a n tabs ∧ isSweep s (.tup [.str a, .int p, .int w, .tup tabs]) = true := by
  obtain ⟨n, e1, e2, e3, e4⟩ := items_small hs hp hw
  rw [e2] at tb
  refine ⟨n, ⟨hs, ha, hp, hw, ⟨e3, e4⟩, e1, hl, tb⟩, ?_⟩
  have e5 : tabs.all (isTab (n : Int)) = true := by
    rw [List.all_eq_true]
    intro x hx
    obtain ⟨xs, rfl, h1, h2⟩ := tb x hx
    unfold isTab
    have h1 : xs.length = n := h1
    simp only [iv_len, h1, decide_true, Bool.true_and]
    rw [List.all_eq_true]
    intro y hy
    obtain ⟨i, hi, rfl⟩ := List.mem_map.mp hy
    have := h2 i hi
    unfold inB
    simp only [Bool.and_eq_true, decide_eq_true_eq]
    have h3 : i < (n : Int) := this.2
    omega
  have e6 : isWay (.str a) = true := by rcases ha with rfl | rfl <;> rfl
  unfold isSweep tabsOk
  simp only [e2, e5, e6]
  rw [decide_eq_true hp.1, decide_eq_true hw.1, decide_eq_false (show ¬ (n : Int) = 0 by omega), decide_eq_true (show 1 ≤ (tabs.length : Int) by omega), decide_eq_true (show (tabs.length : Int) ≤ 12 by omega)]
  rfl
def lawEnd : List IS := f_law.body.drop 2
theorem law_end {k d h t : Nat} {s : Int} {L : LH} {a x2 x4 x5 : Option LV} (D : Deck d h t L) (hs : s = 2 ∨ s = 3 ∨ s = 4 ∨ s = 6) (ht : t < 10000) :
    wp (evB (run prog (k + 11)) lawEnd [a, some (.ref d), x2, some (.int s), x4, x5, none]) L fun r L1 => wp (retK r) L1 fun v _ => v = .bl true := by
  have l1 : d < L.length := by obtain ⟨_, _, _, _, e, _⟩ := D; exact lt_of e
  have l2 : h < L.length := by obtain ⟨_, _, _, _, _, e⟩ := D; exact lt_of e
  have e10 : ∀ (x y z : LO), (L ++ [x] ++ [y] ++ [z])[(L ++ [x] ++ [y]).length]? = some z := fun x y z => by
    rw [List.getElem?_append_right (Nat.le_refl _), Nat.sub_self]; rfl
  simp only [lawEnd, f_law, List.drop_succ_cons, List.drop_zero, pm01, pm012, wp_bind, wp_ret, wp_chk, wp_ofO, wp_look, wp_new, wp_setO, wp_br, v_var, v_lit, v_glo, v_bin, v_neg, v_cmp, v_cmp2, v_and, v_or, v_not, v_ife, v_tup, v_lst, v_dct0, v_dct, v_ix, v_slc, v_rev, v_bi, v_isi, v_mth, v_call, v_comp, vs_nil, vs_cons, vo_none, vo_some, vc_none, vc_some, vi_val, vi_rng1, vi_rng2, vt_tup, vt_sub, vts_nil, vts_cons, x_asg, x_par, x_aug, x_exp, x_ret, x_retN, x_ifs, x_for, x_whl, x_brk, x_cnt, x_pss, b_nil', b_cons', sq_nx, sq_rt, sq_bk, sq_ct, gv_0, gv_S, wt_0, wt_S, o_add, o_sub, o_mul, o_fdiv, o_mod, o_pow, o_addT, o_mulT, c_lt, c_le, c_gt, c_ge, wp_eq_int, wp_ne_int, n_bl, n_int, bi_int, bi_len, bi_tuple, bi_list, it_tup, r_tup, r_ref, ix_tup, wp_ix_ref, ixR_lst, ixR_dic, wp_set_ref, setR_dic, sl_tup, sl_ref, pk_int, r1_int, ck_bl, rk_rt, rk_nx, wp_mth, m_append, m_pop, Option.some.injEq, exists_eq_left', setAll, List.length_cons, List.length_nil, List.set_cons_succ, List.set_cons_zero, List.length_set, Nat.reduceAdd, Nat.reduceLT, if_true, Nat.zero_add, reduceCtorEq, false_implies, true_implies, eq_self, and_true, true_and, Bool.true_eq_false, Bool.false_eq_true]
  refine ⟨by decide, by decide, by decide, by decide, by decide, by decide, (), ?_, by decide, by decide, by decide, by decide, by decide, ?_⟩
  · unfold lstAt
    simp only [e10]
  rw [e10]
  simp only [wp_bind, wp_ret, wp_chk, wp_ofO, wp_look, wp_new, wp_setO, wp_br, v_var, v_lit, v_glo, v_bin, v_neg, v_cmp, v_cmp2, v_and, v_or, v_not, v_ife, v_tup, v_lst, v_dct0, v_dct, v_ix, v_slc, v_rev, v_bi, v_isi, v_mth, v_call, v_comp, vs_nil, vs_cons, vo_none, vo_some, vc_none, vc_some, vi_val, vi_rng1, vi_rng2, vt_tup, vt_sub, vts_nil, vts_cons, x_asg, x_par, x_aug, x_exp, x_ret, x_retN, x_ifs, x_for, x_whl, x_brk, x_cnt, x_pss, b_nil', b_cons', sq_nx, sq_rt, sq_bk, sq_ct, gv_0, gv_S, wt_0, wt_S, o_add, o_sub, o_mul, o_fdiv, o_mod, o_pow, o_addT, o_mulT, c_lt, c_le, c_gt, c_ge, wp_eq_int, wp_ne_int, n_bl, n_int, bi_int, bi_len, bi_tuple, bi_list, it_tup, r_tup, r_ref, ix_tup, wp_ix_ref, ixR_lst, ixR_dic, wp_set_ref, setR_dic, sl_tup, sl_ref, pk_int, r1_int, ck_bl, rk_rt, rk_nx, wp_mth, m_append, m_pop, Option.some.injEq, exists_eq_left', setAll, List.length_cons, List.length_nil, List.set_cons_succ, List.set_cons_zero, List.length_set, Nat.reduceAdd, Nat.reduceLT, if_true, Nat.zero_add, reduceCtorEq, false_implies, true_implies, eq_self, and_true, true_and, Bool.true_eq_false, Bool.false_eq_true]
  refine ⟨by decide, ?_⟩
  have eS : ∀ (x y z o : LO), (L ++ [x] ++ [y] ++ [z]).set (L ++ [x] ++ [y]).length o = L ++ [x, y, o] := fun x y z o => by
    rw [List.set_append_right _ _ (Nat.le_refl _), Nat.sub_self]
    simp
  rw [eS]
  have eL : ∀ (x y : LO), (L ++ [x] ++ [y]).length = L.length + 2 := fun x y => by simp
  refine pick_ok (D.grow ⟨_, rfl⟩) (by omega) (by rw [eL]; omega) (by rw [eL, List.getElem?_append_right (by omega), show L.length + 2 - L.length = 2 by omega]; rfl) (by simp) fun x M2 hx D2 F2 => ?_
  have at1 : M2[L.length]? = some (.lst []) := by
    rw [F2.at_ L.length (by simp) (by omega) (by omega), List.getElem?_append_right (Nat.le_refl _), Nat.sub_self]
    rfl
  have at2 : M2[(L ++ [LO.lst []]).length]? = some (.dic []) := by
    rw [List.length_append, List.length_singleton, F2.at_ (L.length + 1) (by simp) (by omega) (by omega), List.getElem?_append_right (by omega), show L.length + 1 - L.length = 1 by omega]
    rfl
  have R : Ri M2 x := by
    have ig := fun (i : Int) (h : -1 ≤ i ∧ i < 1000) n => int_gd (L := M2) h n
    have one : ∀ {n w : Nat} {xs : List LV}, GDs M2 41 n 1000 xs → xs.length ≤ 1000 → Ri M2 (.tup xs) ∨ n ≥ 40 := fun {n w xs} h hl => by
      by_cases c : n < 40
      · exact .inl (ri_of (n := n + 1) (w := 1000) (.tup h (sl4 hl)) (by omega) (by decide))
      · exact .inr (by omega)
    simp only [List.cons_append, List.nil_append, List.mem_cons, List.not_mem_nil, or_false] at hx
    rcases hx with rfl | rfl | rfl | rfl | rfl | rfl | rfl | rfl | rfl | rfl | rfl
    · exact ri_of (n := 1) (w := 0) .non (by decide) (by decide)
    · exact ri_of (n := 1) (w := 200) (ig 0 (by decide) _) (by decide) (by decide)
    · exact ri_of (n := 1) (w := 0) (.bl _) (by decide) (by decide)
    · exact ri_of (n := 1) (w := 200) (str_gd _ (by decide) _) (by decide) (by decide)
    · exact ri_of (n := 1) (w := 200) (.tup .nil (sl4 (by simp))) (by decide) (by decide)
    · exact ri_of (n := 2) (w := 201) (.tup (.cons (w2 := 0) (str_gd _ (by decide) _) .nil (by decide)) (sl4 (by simp))) (by decide) (by decide)
    · exact ri_of (n := 1) (w := 0) (.lst at1 .nil) (by decide) (by decide)
    · have o : okV M2 (.ref (L ++ [LO.lst []]).length) := ⟨[.dict], by unfold tyOf; simp only [at2]⟩
      refine ⟨⟨o, fun xs z => by cases z⟩, fun a b c ts z => (by cases z), .dict [], ?_, by decide +kernel⟩
      unfold toR dicAt
      simp only [at2]
      rfl
    · exact ri_of (n := 2) (w := 1001) (.tup (.cons (w2 := 800) (str_gd _ (by decide) _) (.cons (w2 := 500) (ig 1 (by decide) _) (.cons (w2 := 0) (ig 1 (by decide) _) .nil (by decide)) (by decide)) (by decide)) (sl4 (by simp))) (by decide) (by decide)
    · exact ri_of (n := 2) (w := 1700) (.tup (.cons (w2 := 1300) (ig 1 (by decide) _) (.cons (w2 := 800) (ig 1 (by decide) _) (.cons (w2 := 500) (ig 1 (by decide) _) (.cons (w2 := 0) (ig 1 (by decide) _) .nil (by decide)) (by decide)) (by decide)) (by decide)) (sl4 (by simp))) (by decide) (by decide)
    · have e : ∀ n, GD M2 41 (n + 1) 0 (.tup []) := fun n => .tup .nil (sl4 (by simp))
      exact ri_of (n := 2) (w := 1700) (.tup (.cons (w2 := 1300) (e 0) (.cons (w2 := 800) (e 0) (.cons (w2 := 500) (e 0) (.cons (w2 := 0) (e 0) .nil (by decide)) (by decide)) (by decide)) (by decide)) (sl4 (by simp))) (by decide) (by decide)
  refine ri_right (by omega) R fun M3 g3 => ?_
  simp only [pm0, pm01, pm012, Bool.not_true, wp_bind, wp_ret, wp_chk, wp_ofO, wp_look, wp_new, wp_setO, wp_br, v_var, v_lit, v_glo, v_bin, v_neg, v_cmp, v_cmp2, v_and, v_or, v_not, v_ife, v_tup, v_lst, v_dct0, v_dct, v_ix, v_slc, v_rev, v_bi, v_isi, v_mth, v_call, v_comp, vs_nil, vs_cons, vo_none, vo_some, vc_none, vc_some, vi_val, vi_rng1, vi_rng2, vt_tup, vt_sub, vts_nil, vts_cons, x_asg, x_par, x_aug, x_exp, x_ret, x_retN, x_ifs, x_for, x_whl, x_brk, x_cnt, x_pss, b_nil', b_cons', sq_nx, sq_rt, sq_bk, sq_ct, gv_0, gv_S, wt_0, wt_S, o_add, o_sub, o_mul, o_fdiv, o_mod, o_pow, o_addT, o_mulT, c_lt, c_le, c_gt, c_ge, wp_eq_int, wp_ne_int, n_bl, n_int, bi_int, bi_len, bi_tuple, bi_list, it_tup, r_tup, r_ref, ix_tup, wp_ix_ref, ixR_lst, ixR_dic, wp_set_ref, setR_dic, sl_tup, sl_ref, pk_int, r1_int, ck_bl, rk_rt, rk_nx, wp_mth, m_append, m_pop, Option.some.injEq, exists_eq_left', setAll, List.length_cons, List.length_nil, List.set_cons_succ, List.set_cons_zero, List.length_set, Nat.reduceAdd, Nat.reduceLT, if_true, Nat.zero_add, reduceCtorEq, false_implies, true_implies, eq_self, and_true, true_and, Bool.true_eq_false, Bool.false_eq_true]
  refine great_ok (D2.grow g3) hs (by omega) fun v M4 t4 ht4 R4 D4 F4 => ?_
  refine ri_right (by omega) R4 fun M5 g5 => ?_
  rfl
theorem law_wp {ns : List Int} (hl : ns.length ≤ 63) : wp (run prog 12 22 [.ref 0]) [.frz ns] fun v _ => v = .bl true := by
  show wp (callFn (run prog 11) f_law [.ref 0]) [.frz ns] _
  rw [call_eq, wp_chk]
  refine ⟨rfl, ?_⟩
  show wp (Mv.M.bind (evB _ (f_law.body.take 2 ++ lawEnd) [some (.ref 0), none, none, none, none, none, none]) retK) [.frz ns] _
  rw [b_app]
  simp only [f_law, List.take_succ_cons, List.take_zero, pm0, pm01, pm012, wp_bind, wp_ret, wp_chk, wp_ofO, wp_look, wp_new, wp_setO, wp_br, v_var, v_lit, v_glo, v_bin, v_neg, v_cmp, v_cmp2, v_and, v_or, v_not, v_ife, v_tup, v_lst, v_dct0, v_dct, v_ix, v_slc, v_rev, v_bi, v_isi, v_mth, v_call, v_comp, vs_nil, vs_cons, vo_none, vo_some, vc_none, vc_some, vi_val, vi_rng1, vi_rng2, vt_tup, vt_sub, vts_nil, vts_cons, x_asg, x_par, x_aug, x_exp, x_ret, x_retN, x_ifs, x_for, x_whl, x_brk, x_cnt, x_pss, b_nil', b_cons', sq_nx, sq_rt, sq_bk, sq_ct, gv_0, gv_S, wt_0, wt_S, o_add, o_sub, o_mul, o_fdiv, o_mod, o_pow, o_addT, o_mulT, c_lt, c_le, c_gt, c_ge, wp_eq_int, wp_ne_int, n_bl, n_int, bi_int, bi_len, bi_tuple, bi_list, it_tup, r_tup, r_ref, ix_tup, wp_ix_ref, ixR_lst, ixR_dic, wp_set_ref, setR_dic, sl_tup, sl_ref, pk_int, r1_int, ck_bl, rk_rt, rk_nx, wp_mth, m_append, m_pop, Option.some.injEq, exists_eq_left', setAll, List.length_cons, List.length_nil, List.set_cons_succ, List.set_cons_zero, List.length_set, Nat.reduceAdd, Nat.reduceLT, if_true, Nat.zero_add, reduceCtorEq, false_implies, true_implies, eq_self, and_true, true_and, Bool.true_eq_false, Bool.false_eq_true]
  refine deck_ok hl fun L0 D0 => ?_
  try simp only [pm0, pm01, pm012, wp_bind, wp_ret, wp_chk, wp_ofO, wp_look, wp_new, wp_setO, wp_br, v_var, v_lit, v_glo, v_bin, v_neg, v_cmp, v_cmp2, v_and, v_or, v_not, v_ife, v_tup, v_lst, v_dct0, v_dct, v_ix, v_slc, v_rev, v_bi, v_isi, v_mth, v_call, v_comp, vs_nil, vs_cons, vo_none, vo_some, vc_none, vc_some, vi_val, vi_rng1, vi_rng2, vt_tup, vt_sub, vts_nil, vts_cons, x_asg, x_par, x_aug, x_exp, x_ret, x_retN, x_ifs, x_for, x_whl, x_brk, x_cnt, x_pss, b_nil', b_cons', sq_nx, sq_rt, sq_bk, sq_ct, gv_0, gv_S, wt_0, wt_S, o_add, o_sub, o_mul, o_fdiv, o_mod, o_pow, o_addT, o_mulT, c_lt, c_le, c_gt, c_ge, wp_eq_int, wp_ne_int, n_bl, n_int, bi_int, bi_len, bi_tuple, bi_list, it_tup, r_tup, r_ref, ix_tup, wp_ix_ref, ixR_lst, ixR_dic, wp_set_ref, setR_dic, sl_tup, sl_ref, pk_int, r1_int, ck_bl, rk_rt, rk_nx, wp_mth, m_append, m_pop, Option.some.injEq, exists_eq_left', setAll, List.length_cons, List.length_nil, List.set_cons_succ, List.set_cons_zero, List.length_set, Nat.reduceAdd, Nat.reduceLT, if_true, Nat.zero_add, reduceCtorEq, false_implies, true_implies, eq_self, and_true, true_and, Bool.true_eq_false, Bool.false_eq_true]
  refine ⟨by decide, ?_⟩
  have e3 : (rngV 0 (Int.toNat 3)).len = 3 := rfl
  refine wp_for (fun i σ L => ∃ x2 x3 x4 x5 t, σ = [some (.ref 0), some (.ref 4), x2, x3, x4, x5, none] ∧ (0 < i → ∃ s, x3 = some (.int s) ∧ (s = 2 ∨ s = 3 ∨ s = 4 ∨ s = 6)) ∧ t ≤ 1000 * i ∧ Deck 4 3 t L) ⟨_, _, _, _, 0, rfl, fun h => absurd h (Nat.lt_irrefl 0), Nat.le_refl _, D0⟩ ?_ ?_
  · rintro i σ L hi ⟨x2, x3, x4, x5, t, rfl, _, ht, D⟩
    rw [e3] at hi
    refine ⟨.int i, by simp [Src.at, rngV, hi], ?_⟩
    have l1 : 4 < L.length := by obtain ⟨_, _, _, _, e, _⟩ := D; exact lt_of e
    try simp only [pm0, pm01, pm012, wp_bind, wp_ret, wp_chk, wp_ofO, wp_look, wp_new, wp_setO, wp_br, v_var, v_lit, v_glo, v_bin, v_neg, v_cmp, v_cmp2, v_and, v_or, v_not, v_ife, v_tup, v_lst, v_dct0, v_dct, v_ix, v_slc, v_rev, v_bi, v_isi, v_mth, v_call, v_comp, vs_nil, vs_cons, vo_none, vo_some, vc_none, vc_some, vi_val, vi_rng1, vi_rng2, vt_tup, vt_sub, vts_nil, vts_cons, x_asg, x_par, x_aug, x_exp, x_ret, x_retN, x_ifs, x_for, x_whl, x_brk, x_cnt, x_pss, b_nil', b_cons', sq_nx, sq_rt, sq_bk, sq_ct, gv_0, gv_S, wt_0, wt_S, o_add, o_sub, o_mul, o_fdiv, o_mod, o_pow, o_addT, o_mulT, c_lt, c_le, c_gt, c_ge, wp_eq_int, wp_ne_int, n_bl, n_int, bi_int, bi_len, bi_tuple, bi_list, it_tup, r_tup, r_ref, ix_tup, wp_ix_ref, ixR_lst, ixR_dic, wp_set_ref, setR_dic, sl_tup, sl_ref, pk_int, r1_int, ck_bl, rk_rt, rk_nx, wp_mth, m_append, m_pop, Option.some.injEq, exists_eq_left', setAll, List.length_cons, List.length_nil, List.set_cons_succ, List.set_cons_zero, List.length_set, Nat.reduceAdd, Nat.reduceLT, if_true, Nat.zero_add, reduceCtorEq, false_implies, true_implies, eq_self, and_true, true_and, Bool.true_eq_false, Bool.false_eq_true]
    refine ⟨by decide, ?_⟩
    refine pick_ok (k := 9) (ys := [.int 2, .int 3, .int 4, .int 6]) (D.grow ⟨_, rfl⟩) (by omega) (by omega) (by rw [List.getElem?_append_right (Nat.le_refl _), Nat.sub_self]; rfl) (by simp) fun x M2 hx D2 F2 => ?_
    obtain ⟨s, rfl, hs⟩ : ∃ s, x = .int s ∧ (s = 2 ∨ s = 3 ∨ s = 4 ∨ s = 6) := by
      simp only [List.mem_cons, List.not_mem_nil, or_false] at hx
      rcases hx with rfl | rfl | rfl | rfl
      · exact ⟨_, rfl, .inl rfl⟩
      · exact ⟨_, rfl, .inr (.inl rfl)⟩
      · exact ⟨_, rfl, .inr (.inr (.inl rfl))⟩
      · exact ⟨_, rfl, .inr (.inr (.inr rfl))⟩
    try simp only [pm0, pm01, pm012, wp_bind, wp_ret, wp_chk, wp_ofO, wp_look, wp_new, wp_setO, wp_br, v_var, v_lit, v_glo, v_bin, v_neg, v_cmp, v_cmp2, v_and, v_or, v_not, v_ife, v_tup, v_lst, v_dct0, v_dct, v_ix, v_slc, v_rev, v_bi, v_isi, v_mth, v_call, v_comp, vs_nil, vs_cons, vo_none, vo_some, vc_none, vc_some, vi_val, vi_rng1, vi_rng2, vt_tup, vt_sub, vts_nil, vts_cons, x_asg, x_par, x_aug, x_exp, x_ret, x_retN, x_ifs, x_for, x_whl, x_brk, x_cnt, x_pss, b_nil', b_cons', sq_nx, sq_rt, sq_bk, sq_ct, gv_0, gv_S, wt_0, wt_S, o_add, o_sub, o_mul, o_fdiv, o_mod, o_pow, o_addT, o_mulT, c_lt, c_le, c_gt, c_ge, wp_eq_int, wp_ne_int, n_bl, n_int, bi_int, bi_len, bi_tuple, bi_list, it_tup, r_tup, r_ref, ix_tup, wp_ix_ref, ixR_lst, ixR_dic, wp_set_ref, setR_dic, sl_tup, sl_ref, pk_int, r1_int, ck_bl, rk_rt, rk_nx, wp_mth, m_append, m_pop, Option.some.injEq, exists_eq_left', setAll, List.length_cons, List.length_nil, List.set_cons_succ, List.set_cons_zero, List.length_set, Nat.reduceAdd, Nat.reduceLT, if_true, Nat.zero_add, reduceCtorEq, false_implies, true_implies, eq_self, and_true, true_and, Bool.true_eq_false, Bool.false_eq_true]
    refine machine_ok (k := 8) D2 (by omega) (by omega) fun a p w tabs M3 t3 ha hp hw htl htb ht3 D3 F3 => ?_
    obtain ⟨n, M, sw⟩ := mach_of (by omega) ha hp hw htl htb
    try simp only [pm0, pm01, pm012, wp_bind, wp_ret, wp_chk, wp_ofO, wp_look, wp_new, wp_setO, wp_br, v_var, v_lit, v_glo, v_bin, v_neg, v_cmp, v_cmp2, v_and, v_or, v_not, v_ife, v_tup, v_lst, v_dct0, v_dct, v_ix, v_slc, v_rev, v_bi, v_isi, v_mth, v_call, v_comp, vs_nil, vs_cons, vo_none, vo_some, vc_none, vc_some, vi_val, vi_rng1, vi_rng2, vt_tup, vt_sub, vts_nil, vts_cons, x_asg, x_par, x_aug, x_exp, x_ret, x_retN, x_ifs, x_for, x_whl, x_brk, x_cnt, x_pss, b_nil', b_cons', sq_nx, sq_rt, sq_bk, sq_ct, gv_0, gv_S, wt_0, wt_S, o_add, o_sub, o_mul, o_fdiv, o_mod, o_pow, o_addT, o_mulT, c_lt, c_le, c_gt, c_ge, wp_eq_int, wp_ne_int, n_bl, n_int, bi_int, bi_len, bi_tuple, bi_list, it_tup, r_tup, r_ref, ix_tup, wp_ix_ref, ixR_lst, ixR_dic, wp_set_ref, setR_dic, sl_tup, sl_ref, pk_int, r1_int, ck_bl, rk_rt, rk_nx, wp_mth, m_append, m_pop, Option.some.injEq, exists_eq_left', setAll, List.length_cons, List.length_nil, List.set_cons_succ, List.set_cons_zero, List.length_set, Nat.reduceAdd, Nat.reduceLT, if_true, Nat.zero_add, reduceCtorEq, false_implies, true_implies, eq_self, and_true, true_and, Bool.true_eq_false, Bool.false_eq_true]
    refine ri_right (k := 6) (by omega) (ri_of (M.gd) (by decide) (by decide)) fun M4 g4 => ?_
    try simp only [pm0, pm01, pm012, Bool.not_true, wp_bind, wp_ret, wp_chk, wp_ofO, wp_look, wp_new, wp_setO, wp_br, v_var, v_lit, v_glo, v_bin, v_neg, v_cmp, v_cmp2, v_and, v_or, v_not, v_ife, v_tup, v_lst, v_dct0, v_dct, v_ix, v_slc, v_rev, v_bi, v_isi, v_mth, v_call, v_comp, vs_nil, vs_cons, vo_none, vo_some, vc_none, vc_some, vi_val, vi_rng1, vi_rng2, vt_tup, vt_sub, vts_nil, vts_cons, x_asg, x_par, x_aug, x_exp, x_ret, x_retN, x_ifs, x_for, x_whl, x_brk, x_cnt, x_pss, b_nil', b_cons', sq_nx, sq_rt, sq_bk, sq_ct, gv_0, gv_S, wt_0, wt_S, o_add, o_sub, o_mul, o_fdiv, o_mod, o_pow, o_addT, o_mulT, c_lt, c_le, c_gt, c_ge, wp_eq_int, wp_ne_int, n_bl, n_int, bi_int, bi_len, bi_tuple, bi_list, it_tup, r_tup, r_ref, ix_tup, wp_ix_ref, ixR_lst, ixR_dic, wp_set_ref, setR_dic, sl_tup, sl_ref, pk_int, r1_int, ck_bl, rk_rt, rk_nx, wp_mth, m_append, m_pop, Option.some.injEq, exists_eq_left', setAll, List.length_cons, List.length_nil, List.set_cons_succ, List.set_cons_zero, List.length_set, Nat.reduceAdd, Nat.reduceLT, if_true, Nat.zero_add, reduceCtorEq, false_implies, true_implies, eq_self, and_true, true_and, Bool.true_eq_false, Bool.false_eq_true]
    have R4 : Ri M4 (.tup [.str a, .int p, .int w, .tup tabs]) := ri_of (M.gd) (by decide) (by decide)
    refine due_ok (k := 7) (by omega) R4.ni R4.da fun M5 g5 => ?_
    rw [sw]
    have e6 : (rngV 0 (Int.toNat 6)).len = 6 := rfl
    simp only [pm0, pm01, pm012, Bool.not_true, wp_bind, wp_ret, wp_chk, wp_ofO, wp_look, wp_new, wp_setO, wp_br, v_var, v_lit, v_glo, v_bin, v_neg, v_cmp, v_cmp2, v_and, v_or, v_not, v_ife, v_tup, v_lst, v_dct0, v_dct, v_ix, v_slc, v_rev, v_bi, v_isi, v_mth, v_call, v_comp, vs_nil, vs_cons, vo_none, vo_some, vc_none, vc_some, vi_val, vi_rng1, vi_rng2, vt_tup, vt_sub, vts_nil, vts_cons, x_asg, x_par, x_aug, x_exp, x_ret, x_retN, x_ifs, x_for, x_whl, x_brk, x_cnt, x_pss, b_nil', b_cons', sq_nx, sq_rt, sq_bk, sq_ct, gv_0, gv_S, wt_0, wt_S, o_add, o_sub, o_mul, o_fdiv, o_mod, o_pow, o_addT, o_mulT, c_lt, c_le, c_gt, c_ge, wp_eq_int, wp_ne_int, n_bl, n_int, bi_int, bi_len, bi_tuple, bi_list, it_tup, r_tup, r_ref, ix_tup, wp_ix_ref, ixR_lst, ixR_dic, wp_set_ref, setR_dic, sl_tup, sl_ref, pk_int, r1_int, ck_bl, rk_rt, rk_nx, wp_mth, m_append, m_pop, Option.some.injEq, exists_eq_left', setAll, List.length_cons, List.length_nil, List.set_cons_succ, List.set_cons_zero, List.length_set, Nat.reduceAdd, Nat.reduceLT, if_true, Nat.zero_add, reduceCtorEq, false_implies, true_implies, eq_self, and_true, true_and, Bool.true_eq_false, Bool.false_eq_true]
    refine ⟨by decide, ?_⟩
    refine wp_for (fun j σ L => ∃ x5 t', σ = [some (.ref 0), some (.ref 4), some (.int i), some (.int s), some (.tup [.str a, .int p, .int w, .tup tabs]), x5, none] ∧ t' ≤ t + 500 + 20 * j ∧ Deck 4 3 t' L) ⟨_, t3, rfl, by omega, (D3.grow g4).grow g5⟩ ?_ ?_
    · rintro j σ L6 hj ⟨y5, t6, rfl, ht6, D6⟩
      rw [e6] at hj
      refine ⟨.int j, by simp [Src.at, rngV, hj], ?_⟩
      try simp only [pm0, pm01, pm012, wp_bind, wp_ret, wp_chk, wp_ofO, wp_look, wp_new, wp_setO, wp_br, v_var, v_lit, v_glo, v_bin, v_neg, v_cmp, v_cmp2, v_and, v_or, v_not, v_ife, v_tup, v_lst, v_dct0, v_dct, v_ix, v_slc, v_rev, v_bi, v_isi, v_mth, v_call, v_comp, vs_nil, vs_cons, vo_none, vo_some, vc_none, vc_some, vi_val, vi_rng1, vi_rng2, vt_tup, vt_sub, vts_nil, vts_cons, x_asg, x_par, x_aug, x_exp, x_ret, x_retN, x_ifs, x_for, x_whl, x_brk, x_cnt, x_pss, b_nil', b_cons', sq_nx, sq_rt, sq_bk, sq_ct, gv_0, gv_S, wt_0, wt_S, o_add, o_sub, o_mul, o_fdiv, o_mod, o_pow, o_addT, o_mulT, c_lt, c_le, c_gt, c_ge, wp_eq_int, wp_ne_int, n_bl, n_int, bi_int, bi_len, bi_tuple, bi_list, it_tup, r_tup, r_ref, ix_tup, wp_ix_ref, ixR_lst, ixR_dic, wp_set_ref, setR_dic, sl_tup, sl_ref, pk_int, r1_int, ck_bl, rk_rt, rk_nx, wp_mth, m_append, m_pop, Option.some.injEq, exists_eq_left', setAll, List.length_cons, List.length_nil, List.set_cons_succ, List.set_cons_zero, List.length_set, Nat.reduceAdd, Nat.reduceLT, if_true, Nat.zero_add, reduceCtorEq, false_implies, true_implies, eq_self, and_true, true_and, Bool.true_eq_false, Bool.false_eq_true]
      refine bent_ok (k := 6) D6 M (by omega) fun v L7 t7 ht7 R7 D7 F7 => ?_
      refine ri_right (k := 6) (by omega) R7 fun M8 g8 => ?_
      simp only [pm0, pm01, pm012, Bool.not_true, turnQ, wp_bind, wp_ret, wp_chk, wp_ofO, wp_look, wp_new, wp_setO, wp_br, v_var, v_lit, v_glo, v_bin, v_neg, v_cmp, v_cmp2, v_and, v_or, v_not, v_ife, v_tup, v_lst, v_dct0, v_dct, v_ix, v_slc, v_rev, v_bi, v_isi, v_mth, v_call, v_comp, vs_nil, vs_cons, vo_none, vo_some, vc_none, vc_some, vi_val, vi_rng1, vi_rng2, vt_tup, vt_sub, vts_nil, vts_cons, x_asg, x_par, x_aug, x_exp, x_ret, x_retN, x_ifs, x_for, x_whl, x_brk, x_cnt, x_pss, b_nil', b_cons', sq_nx, sq_rt, sq_bk, sq_ct, gv_0, gv_S, wt_0, wt_S, o_add, o_sub, o_mul, o_fdiv, o_mod, o_pow, o_addT, o_mulT, c_lt, c_le, c_gt, c_ge, wp_eq_int, wp_ne_int, n_bl, n_int, bi_int, bi_len, bi_tuple, bi_list, it_tup, r_tup, r_ref, ix_tup, wp_ix_ref, ixR_lst, ixR_dic, wp_set_ref, setR_dic, sl_tup, sl_ref, pk_int, r1_int, ck_bl, rk_rt, rk_nx, wp_mth, m_append, m_pop, Option.some.injEq, exists_eq_left', setAll, List.length_cons, List.length_nil, List.set_cons_succ, List.set_cons_zero, List.length_set, Nat.reduceAdd, Nat.reduceLT, if_true, Nat.zero_add, reduceCtorEq, false_implies, true_implies, eq_self, and_true, true_and, Bool.true_eq_false, Bool.false_eq_true]
      exact ⟨_, t7, rfl, by omega, D7.grow g8⟩
    · rintro σ L6 ⟨y5, t6, rfl, ht6, D6⟩
      rw [e6] at ht6
      refine ⟨rfl, ?_⟩
      simp only [pm0, pm01, pm012, turnQ, wp_bind, wp_ret, wp_chk, wp_ofO, wp_look, wp_new, wp_setO, wp_br, v_var, v_lit, v_glo, v_bin, v_neg, v_cmp, v_cmp2, v_and, v_or, v_not, v_ife, v_tup, v_lst, v_dct0, v_dct, v_ix, v_slc, v_rev, v_bi, v_isi, v_mth, v_call, v_comp, vs_nil, vs_cons, vo_none, vo_some, vc_none, vc_some, vi_val, vi_rng1, vi_rng2, vt_tup, vt_sub, vts_nil, vts_cons, x_asg, x_par, x_aug, x_exp, x_ret, x_retN, x_ifs, x_for, x_whl, x_brk, x_cnt, x_pss, b_nil', b_cons', sq_nx, sq_rt, sq_bk, sq_ct, gv_0, gv_S, wt_0, wt_S, o_add, o_sub, o_mul, o_fdiv, o_mod, o_pow, o_addT, o_mulT, c_lt, c_le, c_gt, c_ge, wp_eq_int, wp_ne_int, n_bl, n_int, bi_int, bi_len, bi_tuple, bi_list, it_tup, r_tup, r_ref, ix_tup, wp_ix_ref, ixR_lst, ixR_dic, wp_set_ref, setR_dic, sl_tup, sl_ref, pk_int, r1_int, ck_bl, rk_rt, rk_nx, wp_mth, m_append, m_pop, Option.some.injEq, exists_eq_left', setAll, List.length_cons, List.length_nil, List.set_cons_succ, List.set_cons_zero, List.length_set, Nat.reduceAdd, Nat.reduceLT, if_true, Nat.zero_add, reduceCtorEq, false_implies, true_implies, eq_self, and_true, true_and, Bool.true_eq_false, Bool.false_eq_true]
      exact ⟨_, _, _, _, t6, rfl, fun _ => ⟨s, rfl, hs⟩, by omega, D6⟩
  · rintro σ L ⟨x2, x3, x4, x5, t, rfl, hx3, ht, D⟩
    rw [e3] at ht hx3
    obtain ⟨s, rfl, hs⟩ := hx3 (by decide)
    refine ⟨rfl, ?_⟩
    try simp only [pm0, pm01, pm012, wp_bind, wp_ret, wp_chk, wp_ofO, wp_look, wp_new, wp_setO, wp_br, v_var, v_lit, v_glo, v_bin, v_neg, v_cmp, v_cmp2, v_and, v_or, v_not, v_ife, v_tup, v_lst, v_dct0, v_dct, v_ix, v_slc, v_rev, v_bi, v_isi, v_mth, v_call, v_comp, vs_nil, vs_cons, vo_none, vo_some, vc_none, vc_some, vi_val, vi_rng1, vi_rng2, vt_tup, vt_sub, vts_nil, vts_cons, x_asg, x_par, x_aug, x_exp, x_ret, x_retN, x_ifs, x_for, x_whl, x_brk, x_cnt, x_pss, b_nil', b_cons', sq_nx, sq_rt, sq_bk, sq_ct, gv_0, gv_S, wt_0, wt_S, o_add, o_sub, o_mul, o_fdiv, o_mod, o_pow, o_addT, o_mulT, c_lt, c_le, c_gt, c_ge, wp_eq_int, wp_ne_int, n_bl, n_int, bi_int, bi_len, bi_tuple, bi_list, it_tup, r_tup, r_ref, ix_tup, wp_ix_ref, ixR_lst, ixR_dic, wp_set_ref, setR_dic, sl_tup, sl_ref, pk_int, r1_int, ck_bl, rk_rt, rk_nx, wp_mth, m_append, m_pop, Option.some.injEq, exists_eq_left', setAll, List.length_cons, List.length_nil, List.set_cons_succ, List.set_cons_zero, List.length_set, Nat.reduceAdd, Nat.reduceLT, if_true, Nat.zero_add, reduceCtorEq, false_implies, true_implies, eq_self, and_true, true_and, Bool.true_eq_false, Bool.false_eq_true]
    exact law_end (k := 0) D hs (by omega)
theorem law_ok (ns : List Int) (hl : ns.length ≤ 63) : ∃ L', run prog 12 22 [.ref 0] [.frz ns] = some (.ok (.bl true) L') := by
  obtain ⟨v, L', e, h⟩ := law_wp hl
  rw [h] at e
  exact ⟨L', e⟩
end K35


namespace K35
open PySem PySem.Spec PyProof.Rows L2 Mv
def top (i : Nat) : Stmt := PySem.Challenge.pw_twostrokes_k35_sweeps_of_any_value.main.body.getD i (.Pass ⟨0, 0, 0, 0⟩)
abbrev s_is_integer : Stmt := top 1
abbrev s_is_between : Stmt := top 2
abbrev s_is_way : Stmt := top 9
abbrev s_items_of : Stmt := top 10
abbrev s_is_table : Stmt := top 11
abbrev s_is_sweep : Stmt := top 12
abbrev s_l_deck : Stmt := top 14
abbrev s_l_draw : Stmt := top 15
abbrev s_l_pick : Stmt := top 16
abbrev s_l_power : Stmt := top 17
abbrev s_l_items : Stmt := top 18
abbrev s_l_is_integer : Stmt := top 19
abbrev s_l_is_table : Stmt := top 20
abbrev s_l_due : Stmt := top 21
abbrev s_l_table : Stmt := top 22
abbrev s_l_machine : Stmt := top 23
abbrev s_l_put : Stmt := top 24
abbrev s_l_other : Stmt := top 25
abbrev s_l_bent_table : Stmt := top 26
abbrev s_l_bent : Stmt := top 27
abbrev s_l_great : Stmt := top 28
abbrev s_l_is_right : Stmt := top 29
abbrev s_law : Stmt := top 30
/-- what the module does not name, its constants -/
structure Txt (mg : Str → Option Value) : Prop where
  z_all : mg "all" = none
  z_bool : mg "bool" = none
  z_int : mg "int" = none
  z_isinstance : mg "isinstance" = none
  z_len : mg "len" = none
  z_list : mg "list" = none
  z_min : mg "min" = none
  z_range : mg "range" = none
  z_repr : mg "repr" = none
  z_str : mg "str" = none
  z_tuple : mg "tuple" = none
  v_LEFT : ∃ u, mg "LEFT" = some u ∧ RelC (.str "left") u
  v_MOST_ITEMS : ∃ u, mg "MOST_ITEMS" = some u ∧ RelC (.int 100000) u
  v_MOST_TABLES : ∃ u, mg "MOST_TABLES" = some u ∧ RelC (.int 12) u
  v_NEVER : ∃ u, mg "NEVER" = some u ∧ RelC (.int (-1)) u
  v_RIGHT : ∃ u, mg "RIGHT" = some u ∧ RelC (.str "right") u
/-- the defs, as they may be called -/
structure Cs (P : Program) (w : World) (K : PySem.W.Frag) (mg : Str → Option Value) (base : Heap) (k : Nat) (fs : Nat → Addr) (ds : Nat → FuncData) : Prop where
  c0 : CalG P w K mg base k "is_integer" (fs 0) (ds 0) ["thing"] (run prog k 0)
  b0_0 : BindOk K (ds 0) ["thing"] 1 [] [0]
  c1 : CalG P w K mg base k "is_between" (fs 1) (ds 1) ["thing", "least", "greatest"] (run prog k 1)
  b1_0 : BindOk K (ds 1) ["thing", "least", "greatest"] 3 [] [0, 1, 2]
  c2 : CalG P w K mg base k "is_way" (fs 2) (ds 2) ["thing"] (run prog k 2)
  b2_0 : BindOk K (ds 2) ["thing"] 1 [] [0]
  c3 : CalG P w K mg base k "items_of" (fs 3) (ds 3) ["signs", "purse", "width"] (run prog k 3)
  b3_0 : BindOk K (ds 3) ["signs", "purse", "width"] 3 [] [0, 1, 2]
  c4 : CalG P w K mg base k "is_table" (fs 4) (ds 4) ["many", "thing"] (run prog k 4)
  b4_0 : BindOk K (ds 4) ["many", "thing"] 2 [] [0, 1]
  c5 : CalG P w K mg base k "is_sweep" (fs 5) (ds 5) ["signs", "thing"] (run prog k 5)
  b5_0 : BindOk K (ds 5) ["signs", "thing"] 2 [] [0, 1]
  b5_1 : BindOk K (ds 5) ["signs", "thing"] 0 ["thing", "signs"] [1, 0]
  c6 : CalG P w K mg base k "_law_deck" (fs 6) (ds 6) ["_law_script"] (run prog k 6)
  b6_0 : BindOk K (ds 6) ["_law_script"] 1 [] [0]
  c7 : CalG P w K mg base k "_law_draw" (fs 7) (ds 7) ["_law_deck_here", "_law_below"] (run prog k 7)
  b7_0 : BindOk K (ds 7) ["_law_deck_here", "_law_below"] 2 [] [0, 1]
  c8 : CalG P w K mg base k "_law_pick" (fs 8) (ds 8) ["_law_deck_here", "_law_some"] (run prog k 8)
  b8_0 : BindOk K (ds 8) ["_law_deck_here", "_law_some"] 2 [] [0, 1]
  c9 : CalG P w K mg base k "_law_power" (fs 9) (ds 9) ["_law_many", "_law_size"] (run prog k 9)
  b9_0 : BindOk K (ds 9) ["_law_many", "_law_size"] 2 [] [0, 1]
  c10 : CalG P w K mg base k "_law_items" (fs 10) (ds 10) ["_law_many", "_law_purse", "_law_width"] (run prog k 10)
  b10_0 : BindOk K (ds 10) ["_law_many", "_law_purse", "_law_width"] 3 [] [0, 1, 2]
  c11 : CalG P w K mg base k "_law_is_integer" (fs 11) (ds 11) ["_law_value"] (run prog k 11)
  b11_0 : BindOk K (ds 11) ["_law_value"] 1 [] [0]
  c12 : CalG P w K mg base k "_law_is_table" (fs 12) (ds 12) ["_law_size", "_law_value"] (run prog k 12)
  b12_0 : BindOk K (ds 12) ["_law_size", "_law_value"] 2 [] [0, 1]
  c13 : CalG P w K mg base k "_law_due" (fs 13) (ds 13) ["_law_many", "_law_value"] (run prog k 13)
  b13_0 : BindOk K (ds 13) ["_law_many", "_law_value"] 2 [] [0, 1]
  c14 : CalG P w K mg base k "_law_table" (fs 14) (ds 14) ["_law_deck_here", "_law_size"] (run prog k 14)
  b14_0 : BindOk K (ds 14) ["_law_deck_here", "_law_size"] 2 [] [0, 1]
  c15 : CalG P w K mg base k "_law_machine" (fs 15) (ds 15) ["_law_deck_here", "_law_many"] (run prog k 15)
  b15_0 : BindOk K (ds 15) ["_law_deck_here", "_law_many"] 2 [] [0, 1]
  c16 : CalG P w K mg base k "_law_put" (fs 16) (ds 16) ["_law_some", "_law_at", "_law_value"] (run prog k 16)
  b16_0 : BindOk K (ds 16) ["_law_some", "_law_at", "_law_value"] 3 [] [0, 1, 2]
  c17 : CalG P w K mg base k "_law_other" (fs 17) (ds 17) ["_law_deck_here", "_law_value"] (run prog k 17)
  b17_0 : BindOk K (ds 17) ["_law_deck_here", "_law_value"] 2 [] [0, 1]
  c18 : CalG P w K mg base k "_law_bent_table" (fs 18) (ds 18) ["_law_deck_here", "_law_size", "_law_table_here"] (run prog k 18)
  b18_0 : BindOk K (ds 18) ["_law_deck_here", "_law_size", "_law_table_here"] 3 [] [0, 1, 2]
  c19 : CalG P w K mg base k "_law_bent" (fs 19) (ds 19) ["_law_deck_here", "_law_many", "_law_machine_here"] (run prog k 19)
  b19_0 : BindOk K (ds 19) ["_law_deck_here", "_law_many", "_law_machine_here"] 3 [] [0, 1, 2]
  c20 : CalG P w K mg base k "_law_great" (fs 20) (ds 20) ["_law_deck_here", "_law_many"] (run prog k 20)
  b20_0 : BindOk K (ds 20) ["_law_deck_here", "_law_many"] 2 [] [0, 1]
  c21 : CalG P w K mg base k "_law_is_right" (fs 21) (ds 21) ["_law_many", "_law_value"] (run prog k 21)
  b21_0 : BindOk K (ds 21) ["_law_many", "_law_value"] 2 [] [0, 1]
  c22 : CalG P w K mg base k "law" (fs 22) (ds 22) ["_law_script"] (run prog k 22)
section
variable {P : Program} {w : World} {K : PySem.W.Frag} {mg : Str → Option Value} {base : Heap} {k : Nat} {fs : Nat → Addr} {ds : Nat → FuncData}
theorem sc_is_integer : FnScope n_is_integer ["thing"] (defScope s_is_integer) := ⟨rfl, rfl, rfl, by decide +kernel, rfl, by decide +kernel, by decide +kernel⟩
theorem w_is_integer {f : Addr} {cdv : Value} {A : Around} {outer : List Env} {s : Shared} {H : Hp} {W : XW} (S : Cs P w K mg base k fs ds) (T : Txt mg) (hW : WInv W) (hr : Room k (A.deeper (envOfC "is_integer" (defScope s_is_integer) s.heap.objs.size f cdv))) (hgu : A.guards = some []) :
    EB (cxG P w K mg base n_is_integer "is_integer" (defScope s_is_integer) f cdv A outer s H) W (run prog k) (defBody s_is_integer) f_is_integer.body :=
  have G : Good (cxG P w K mg base n_is_integer "is_integer" (defScope s_is_integer) f cdv A outer s H) := good_of sc_is_integer hr hgu
  (B_cons hW (S_ret (E_and (E_isi .int T.z_isinstance T.z_int (E_var rfl (.inl rfl) (by decide) (by decide))) (E_one (E_not (E_isi .bool T.z_isinstance T.z_bool (E_var rfl (.inl rfl) (by decide) (by decide)))))))
  B_nil)
theorem sc_is_between : FnScope n_is_between ["thing", "least", "greatest"] (defScope s_is_between) := ⟨rfl, rfl, rfl, by decide +kernel, rfl, by decide +kernel, by decide +kernel⟩
theorem w_is_between {f : Addr} {cdv : Value} {A : Around} {outer : List Env} {s : Shared} {H : Hp} {W : XW} (S : Cs P w K mg base k fs ds) (T : Txt mg) (hW : WInv W) (hr : Room k (A.deeper (envOfC "is_between" (defScope s_is_between) s.heap.objs.size f cdv))) (hgu : A.guards = some []) :
    EB (cxG P w K mg base n_is_between "is_between" (defScope s_is_between) f cdv A outer s H) W (run prog k) (defBody s_is_between) f_is_between.body :=
  have G : Good (cxG P w K mg base n_is_between "is_between" (defScope s_is_between) f cdv A outer s H) := good_of sc_is_between hr hgu
  (B_cons hW (S_ret (E_and (E_call G S.c0 hr S.b0_0 (A_cons (E_var rfl (.inl rfl) (by decide) (by decide)) A_nil) K_nil) (E_one (E_cmp2 G .le .le (E_var rfl (.inl rfl) (by decide) (by decide)) (E_var rfl (.inl rfl) (by decide) (by decide)) (E_var rfl (.inl rfl) (by decide) (by decide))))))
  B_nil)
theorem sc_is_way : FnScope n_is_way ["thing"] (defScope s_is_way) := ⟨rfl, rfl, rfl, by decide +kernel, rfl, by decide +kernel, by decide +kernel⟩
theorem w_is_way {f : Addr} {cdv : Value} {A : Around} {outer : List Env} {s : Shared} {H : Hp} {W : XW} (S : Cs P w K mg base k fs ds) (T : Txt mg) (hW : WInv W) (hr : Room k (A.deeper (envOfC "is_way" (defScope s_is_way) s.heap.objs.size f cdv))) (hgu : A.guards = some []) :
    EB (cxG P w K mg base n_is_way "is_way" (defScope s_is_way) f cdv A outer s H) W (run prog k) (defBody s_is_way) f_is_way.body :=
  have G : Good (cxG P w K mg base n_is_way "is_way" (defScope s_is_way) f cdv A outer s H) := good_of sc_is_way hr hgu
  (B_cons hW (S_ret (E_and (E_isi .str T.z_isinstance T.z_str (E_var rfl (.inl rfl) (by decide) (by decide))) (E_one (E_cmp G .inn (E_var rfl (.inl rfl) (by decide) (by decide)) (E_tup (A_cons (E_gloX T.v_RIGHT) (A_cons (E_gloX T.v_LEFT) A_nil)))))))
  B_nil)
theorem sc_items_of : FnScope n_items_of ["signs", "purse", "width"] (defScope s_items_of) := ⟨rfl, rfl, rfl, by decide +kernel, rfl, by decide +kernel, by decide +kernel⟩
theorem w_items_of {f : Addr} {cdv : Value} {A : Around} {outer : List Env} {s : Shared} {H : Hp} {W : XW} (S : Cs P w K mg base k fs ds) (T : Txt mg) (hW : WInv W) (hr : Room k (A.deeper (envOfC "items_of" (defScope s_items_of) s.heap.objs.size f cdv))) (hgu : A.guards = some []) :
    EB (cxG P w K mg base n_items_of "items_of" (defScope s_items_of) f cdv A outer s H) W (run prog k) (defBody s_items_of) f_items_of.body :=
  have G : Good (cxG P w K mg base n_items_of "items_of" (defScope s_items_of) f cdv A outer s H) := good_of sc_items_of hr hgu
  (B_cons hW (S_ifs (T_w (W_or (T_cmp G .gt (E_var rfl (.inl rfl) (by decide) (by decide)) (E_gloX T.v_MOST_ITEMS)) (W_or1 (T_cmp G .gt (E_var rfl (.inl rfl) (by decide) (by decide)) (E_gloX T.v_MOST_ITEMS))))) (B_cons hW (S_ret E_int)
  B_nil) B_nil)
  (B_cons hW (S_asg (own := [3]) (E_var rfl (.inl rfl) (by decide) (by decide)) (G_name G rfl (.inl rfl) (.inl rfl) (by decide)))
  (B_cons hW (S_for (own := [4]) G hW PassesOwn.never (I_rng1 T.z_range (E_var rfl (.inl rfl) (by decide) (by decide))) (G_name G rfl (.inl rfl) (.inl rfl) (by decide)) (B_cons hW (S_aug .mul G rfl (.inl rfl) (E_var rfl (.inl rfl) (by decide) (by decide)) (.inl rfl))
  (B_cons hW (S_ifs (T_cmp G .gt (E_var rfl (.inl rfl) (by decide) (by decide)) (E_gloX T.v_MOST_ITEMS)) (B_cons hW (S_ret E_int)
  B_nil) B_nil)
  B_nil)))
  (B_cons hW (S_ret (E_var rfl (.inl rfl) (by decide) (by decide)))
  B_nil))))
theorem sc_is_table : FnScope n_is_table ["many", "thing"] (defScope s_is_table) := ⟨rfl, rfl, rfl, by decide +kernel, rfl, by decide +kernel, by decide +kernel⟩
theorem w_is_table {f : Addr} {cdv : Value} {A : Around} {outer : List Env} {s : Shared} {H : Hp} {W : XW} (S : Cs P w K mg base k fs ds) (T : Txt mg) (hW : WInv W) (hr : Room k (A.deeper (envOfC "is_table" (defScope s_is_table) s.heap.objs.size f cdv))) (hgu : A.guards = some []) :
    EB (cxG P w K mg base n_is_table "is_table" (defScope s_is_table) f cdv A outer s H) W (run prog k) (defBody s_is_table) f_is_table.body :=
  have G : Good (cxG P w K mg base n_is_table "is_table" (defScope s_is_table) f cdv A outer s H) := good_of sc_is_table hr hgu
  (B_cons hW (S_ifs (T_w (W_or (T_not (T_val (E_isi .tuple T.z_isinstance T.z_tuple (E_var rfl (.inl rfl) (by decide) (by decide))))) (W_or1 (T_cmp G .ne (E_bi G .len T.z_len (A_cons (E_var rfl (.inl rfl) (by decide) (by decide)) A_nil)) (E_var rfl (.inr (.inl rfl)) (by decide) (by decide)))))) (B_cons hW (S_ret E_bl)
  B_nil) B_nil)
  (B_cons hW (S_ret (E_bi G .all T.z_all (A_cons (E_comp (ow := [("item", 2)]) G hW (I_val (E_var rfl (.inl rfl) (by decide) (by decide))) (blkOk_by (by show blkC n_is_table (defScope s_is_table) _ _ = true; decide +kernel)) (fun _ _ _ _ _ => (G_name (Good.blk G) rfl (.inl rfl) (.inr rfl) (by decide))) (fun _ _ _ _ _ => C_none) (fun _ _ _ _ _ => (E_call (Good.blk G) S.c1 hr S.b1_0 (A_cons (E_var rfl (.inl rfl) (by decide) (by decide)) (A_cons (E_gloX T.v_NEVER) (A_cons (E_bin .sub (E_var rfl (.inr (.inl rfl)) (by decide) (by decide)) E_int) A_nil))) K_nil))) A_nil)))
  B_nil))
theorem sc_is_sweep : FnScope n_is_sweep ["signs", "thing"] (defScope s_is_sweep) := ⟨rfl, rfl, rfl, by decide +kernel, rfl, by decide +kernel, by decide +kernel⟩
theorem w_is_sweep {f : Addr} {cdv : Value} {A : Around} {outer : List Env} {s : Shared} {H : Hp} {W : XW} (S : Cs P w K mg base k fs ds) (T : Txt mg) (hW : WInv W) (hr : Room k (A.deeper (envOfC "is_sweep" (defScope s_is_sweep) s.heap.objs.size f cdv))) (hgu : A.guards = some []) :
    EB (cxG P w K mg base n_is_sweep "is_sweep" (defScope s_is_sweep) f cdv A outer s H) W (run prog k) (defBody s_is_sweep) f_is_sweep.body :=
  have G : Good (cxG P w K mg base n_is_sweep "is_sweep" (defScope s_is_sweep) f cdv A outer s H) := good_of sc_is_sweep hr hgu
  (B_cons hW (S_ifs (T_w (W_or (T_not (T_val (E_isi .tuple T.z_isinstance T.z_tuple (E_var rfl (.inl rfl) (by decide) (by decide))))) (W_or1 (T_cmp G .ne (E_bi G .len T.z_len (A_cons (E_var rfl (.inl rfl) (by decide) (by decide)) A_nil)) E_int)))) (B_cons hW (S_ret E_bl)
  B_nil) B_nil)
  (B_cons hW (S_asg (own := [2, 3, 4, 5]) (E_var rfl (.inl rfl) (by decide) (by decide)) (G_tup G (Gs_cons hW (G_name G rfl (.inl rfl) (.inl rfl) (by decide)) (Gs_cons hW (G_name G rfl (.inl rfl) (.inl rfl) (by decide)) (Gs_cons hW (G_name G rfl (.inl rfl) (.inl rfl) (by decide)) (Gs_cons hW (G_name G rfl (.inl rfl) (.inl rfl) (by decide)) Gs_nil))))))
  (B_cons hW (S_ifs (T_w (W_or (T_not (T_val (E_call G S.c2 hr S.b2_0 (A_cons (E_var rfl (.inl rfl) (by decide) (by decide)) A_nil) K_nil))) (W_or (T_not (T_val (E_call G S.c0 hr S.b0_0 (A_cons (E_var rfl (.inl rfl) (by decide) (by decide)) A_nil) K_nil))) (W_or (T_not (T_val (E_call G S.c0 hr S.b0_0 (A_cons (E_var rfl (.inl rfl) (by decide) (by decide)) A_nil) K_nil))) (W_or (T_cmp G .lt (E_var rfl (.inl rfl) (by decide) (by decide)) E_int) (W_or1 (T_cmp G .lt (E_var rfl (.inl rfl) (by decide) (by decide)) E_int))))))) (B_cons hW (S_ret E_bl)
  B_nil) B_nil)
  (B_cons hW (S_asg (own := [6]) (E_call G S.c3 hr S.b3_0 (A_cons (E_var rfl (.inl rfl) (by decide) (by decide)) (A_cons (E_var rfl (.inl rfl) (by decide) (by decide)) (A_cons (E_var rfl (.inl rfl) (by decide) (by decide)) A_nil))) K_nil) (G_name G rfl (.inr rfl) (.inl rfl) (by decide)))
  (B_cons hW (S_ifs (T_w (W_or (T_cmp G .eq (E_var rfl (.inr (.inl rfl)) (by decide) (by decide)) E_int) (W_or (T_not (T_val (E_isi .tuple T.z_isinstance T.z_tuple (E_var rfl (.inl rfl) (by decide) (by decide))))) (W_or1 (T_not (T_cmp2 G .le .le E_int (E_bi G .len T.z_len (A_cons (E_var rfl (.inl rfl) (by decide) (by decide)) A_nil)) (E_gloX T.v_MOST_TABLES))))))) (B_cons hW (S_ret E_bl)
  B_nil) B_nil)
  (B_cons hW (S_ret (E_bi G .all T.z_all (A_cons (E_comp (ow := [("table", 7)]) G hW (I_val (E_var rfl (.inl rfl) (by decide) (by decide))) (blkOk_by (by show blkC n_is_sweep (defScope s_is_sweep) _ _ = true; decide +kernel)) (fun _ _ _ _ _ => (G_name (Good.blk G) rfl (.inl rfl) (.inr rfl) (by decide))) (fun _ _ _ _ _ => C_none) (fun _ _ _ _ _ => (E_call (Good.blk G) S.c4 hr S.b4_0 (A_cons (E_var rfl (.inr (.inl rfl)) (by decide) (by decide)) (A_cons (E_var rfl (.inl rfl) (by decide) (by decide)) A_nil)) K_nil))) A_nil)))
  B_nil))))))
theorem sc_l_deck : FnScope n_l_deck ["_law_script"] (defScope s_l_deck) := ⟨rfl, rfl, rfl, by decide +kernel, rfl, by decide +kernel, by decide +kernel⟩
theorem w_l_deck {f : Addr} {cdv : Value} {A : Around} {outer : List Env} {s : Shared} {H : Hp} {W : XW} (S : Cs P w K mg base k fs ds) (T : Txt mg) (hW : WInv W) (hr : Room k (A.deeper (envOfC "_law_deck" (defScope s_l_deck) s.heap.objs.size f cdv))) (hgu : A.guards = some []) :
    EB (cxG P w K mg base n_l_deck "_law_deck" (defScope s_l_deck) f cdv A outer s H) W (run prog k) (defBody s_l_deck) f_l_deck.body :=
  have G : Good (cxG P w K mg base n_l_deck "_law_deck" (defScope s_l_deck) f cdv A outer s H) := good_of sc_l_deck hr hgu
  (B_cons hW (S_par G rfl rfl (by decide) rfl rfl (A_cons (E_bi G .list T.z_list (A_cons (E_slc (E_var rfl (.inl rfl) (by decide) (by decide)) O_none (O_some E_int)) A_nil)) (A_cons E_int A_nil)))
  (B_cons hW (S_for (own := [3]) G hW PassesOwn.never (I_val (E_var rfl (.inl rfl) (by decide) (by decide))) (G_name G rfl (.inl rfl) (.inl rfl) (by decide)) (B_cons hW (S_asg (own := [2]) (E_bin .mod (E_bi G .int T.z_int (A_cons (E_bin .add (E_bin .add (E_bin .mul (E_var rfl (.inl rfl) (by decide) (by decide)) E_int) (E_bin .mod (E_bi G .int T.z_int (A_cons (E_var rfl (.inl rfl) (by decide) (by decide)) A_nil)) E_int)) E_int) A_nil)) E_int) (G_name G rfl (.inl rfl) (.inl rfl) (by decide)))
  B_nil))
  (B_cons hW (S_ret (E_lst (A_cons (E_rev (E_var rfl (.inl rfl) (by decide) (by decide))) (A_cons (E_var rfl (.inl rfl) (by decide) (by decide)) (A_cons E_int A_nil)))))
  B_nil)))
theorem sc_l_draw : FnScope n_l_draw ["_law_deck_here", "_law_below"] (defScope s_l_draw) := ⟨rfl, rfl, rfl, by decide +kernel, rfl, by decide +kernel, by decide +kernel⟩
theorem w_l_draw {f : Addr} {cdv : Value} {A : Around} {outer : List Env} {s : Shared} {H : Hp} {W : XW} (S : Cs P w K mg base k fs ds) (T : Txt mg) (hW : WInv W) (hr : Room k (A.deeper (envOfC "_law_draw" (defScope s_l_draw) s.heap.objs.size f cdv))) (hgu : A.guards = some []) :
    EB (cxG P w K mg base n_l_draw "_law_draw" (defScope s_l_draw) f cdv A outer s H) W (run prog k) (defBody s_l_draw) f_l_draw.body :=
  have G : Good (cxG P w K mg base n_l_draw "_law_draw" (defScope s_l_draw) f cdv A outer s H) := good_of sc_l_draw hr hgu
  (B_cons hW (S_asg (own := []) (E_bin .add (E_ix G (E_var rfl (.inl rfl) (by decide) (by decide)) E_int) E_int) (G_sub G (E_var rfl (.inl rfl) (by decide) (by decide)) E_int))
  (B_cons hW (S_asg (own := [2]) (E_bin .add (E_ix G (E_var rfl (.inl rfl) (by decide) (by decide)) E_int) (E_bin .mul E_int (E_ix G (E_var rfl (.inl rfl) (by decide) (by decide)) E_int))) (G_name G rfl (.inl rfl) (.inl rfl) (by decide)))
  (B_cons hW (S_ifs (T_cmp G .ne (E_ix G (E_var rfl (.inl rfl) (by decide) (by decide)) E_int) (E_lst A_nil)) (B_cons hW (S_asg (own := [3]) (E_mth0 .pop (E_ix G (E_var rfl (.inl rfl) (by decide) (by decide)) E_int)) (G_name G rfl (.inl rfl) (.inl rfl) (by decide)))
  (B_cons hW (S_ifs (T_cmp G .ge (E_var rfl (.inl rfl) (by decide) (by decide)) (E_bin .pow E_int E_int)) (B_cons hW (S_exp (E_mth .append (E_ix G (E_var rfl (.inl rfl) (by decide) (by decide)) E_int) (A_cons (E_bin .fdiv (E_var rfl (.inl rfl) (by decide) (by decide)) (E_var rfl (.inl rfl) (by decide) (by decide))) A_nil)))
  (B_cons hW (S_ret (E_bi G .int T.z_int (A_cons (E_bin .mod (E_var rfl (.inl rfl) (by decide) (by decide)) (E_var rfl (.inl rfl) (by decide) (by decide))) A_nil)))
  B_nil)) B_nil)
  (B_cons hW (S_asg (own := [2]) (E_bin .add (E_var rfl (.inl rfl) (by decide) (by decide)) (E_bin .mod (E_bi G .int T.z_int (A_cons (E_var rfl (.inl rfl) (by decide) (by decide)) A_nil)) E_int)) (G_name G rfl (.inl rfl) (.inl rfl) (by decide)))
  B_nil))) B_nil)
  (B_cons hW (S_asg (own := [2]) (E_bin .mod (E_bi G .int T.z_int (A_cons (E_bin .add (E_bin .mul (E_var rfl (.inl rfl) (by decide) (by decide)) E_int) E_int) A_nil)) E_int) (G_name G rfl (.inl rfl) (.inl rfl) (by decide)))
  (B_cons hW (S_asg (own := [2]) (E_bin .mod (E_bi G .int T.z_int (A_cons (E_bin .add (E_bin .add (E_bin .mul (E_var rfl (.inl rfl) (by decide) (by decide)) (E_var rfl (.inl rfl) (by decide) (by decide))) (E_bin .mul E_int (E_ix G (E_var rfl (.inl rfl) (by decide) (by decide)) E_int))) E_int) A_nil)) E_int) (G_name G rfl (.inl rfl) (.inl rfl) (by decide)))
  (B_cons hW (S_ret (E_bin .mod (E_bin .fdiv (E_bin .mod (E_bin .mul (E_var rfl (.inl rfl) (by decide) (by decide)) E_int) E_int) E_int) (E_var rfl (.inl rfl) (by decide) (by decide))))
  B_nil))))))
theorem sc_l_pick : FnScope n_l_pick ["_law_deck_here", "_law_some"] (defScope s_l_pick) := ⟨rfl, rfl, rfl, by decide +kernel, rfl, by decide +kernel, by decide +kernel⟩
theorem w_l_pick {f : Addr} {cdv : Value} {A : Around} {outer : List Env} {s : Shared} {H : Hp} {W : XW} (S : Cs P w K mg base k fs ds) (T : Txt mg) (hW : WInv W) (hr : Room k (A.deeper (envOfC "_law_pick" (defScope s_l_pick) s.heap.objs.size f cdv))) (hgu : A.guards = some []) :
    EB (cxG P w K mg base n_l_pick "_law_pick" (defScope s_l_pick) f cdv A outer s H) W (run prog k) (defBody s_l_pick) f_l_pick.body :=
  have G : Good (cxG P w K mg base n_l_pick "_law_pick" (defScope s_l_pick) f cdv A outer s H) := good_of sc_l_pick hr hgu
  (B_cons hW (S_ret (E_ix G (E_var rfl (.inl rfl) (by decide) (by decide)) (E_call G S.c7 hr S.b7_0 (A_cons (E_var rfl (.inl rfl) (by decide) (by decide)) (A_cons (E_bi G .len T.z_len (A_cons (E_var rfl (.inl rfl) (by decide) (by decide)) A_nil)) A_nil)) K_nil)))
  B_nil)
theorem sc_l_power : FnScope n_l_power ["_law_many", "_law_size"] (defScope s_l_power) := ⟨rfl, rfl, rfl, by decide +kernel, rfl, by decide +kernel, by decide +kernel⟩
theorem w_l_power {f : Addr} {cdv : Value} {A : Around} {outer : List Env} {s : Shared} {H : Hp} {W : XW} (S : Cs P w K mg base k fs ds) (T : Txt mg) (hW : WInv W) (hr : Room k (A.deeper (envOfC "_law_power" (defScope s_l_power) s.heap.objs.size f cdv))) (hgu : A.guards = some []) :
    EB (cxG P w K mg base n_l_power "_law_power" (defScope s_l_power) f cdv A outer s H) W (run prog k) (defBody s_l_power) f_l_power.body :=
  have G : Good (cxG P w K mg base n_l_power "_law_power" (defScope s_l_power) f cdv A outer s H) := good_of sc_l_power hr hgu
  (B_cons hW (S_asg (own := [2]) E_int (G_name G rfl (.inl rfl) (.inl rfl) (by decide)))
  (B_cons hW (S_for (own := [3]) G hW PassesOwn.never (I_rng1 T.z_range (E_var rfl (.inl rfl) (by decide) (by decide))) (G_name G rfl (.inl rfl) (.inl rfl) (by decide)) (B_cons hW (S_asg (own := [2]) (E_bin .mul (E_var rfl (.inl rfl) (by decide) (by decide)) (E_var rfl (.inl rfl) (by decide) (by decide))) (G_name G rfl (.inl rfl) (.inl rfl) (by decide)))
  B_nil))
  (B_cons hW (S_ret (E_var rfl (.inl rfl) (by decide) (by decide)))
  B_nil)))
theorem sc_l_items : FnScope n_l_items ["_law_many", "_law_purse", "_law_width"] (defScope s_l_items) := ⟨rfl, rfl, rfl, by decide +kernel, rfl, by decide +kernel, by decide +kernel⟩
theorem w_l_items {f : Addr} {cdv : Value} {A : Around} {outer : List Env} {s : Shared} {H : Hp} {W : XW} (S : Cs P w K mg base k fs ds) (T : Txt mg) (hW : WInv W) (hr : Room k (A.deeper (envOfC "_law_items" (defScope s_l_items) s.heap.objs.size f cdv))) (hgu : A.guards = some []) :
    EB (cxG P w K mg base n_l_items "_law_items" (defScope s_l_items) f cdv A outer s H) W (run prog k) (defBody s_l_items) f_l_items.body :=
  have G : Good (cxG P w K mg base n_l_items "_law_items" (defScope s_l_items) f cdv A outer s H) := good_of sc_l_items hr hgu
  (B_cons hW (S_asg (own := [3]) (E_var rfl (.inl rfl) (by decide) (by decide)) (G_name G rfl (.inl rfl) (.inl rfl) (by decide)))
  (B_cons hW (S_for (own := [4]) G hW PassesOwn.never (I_rng1 T.z_range (E_bi G .min T.z_min (A_cons (E_var rfl (.inl rfl) (by decide) (by decide)) (A_cons E_int A_nil)))) (G_name G rfl (.inl rfl) (.inl rfl) (by decide)) (B_cons hW (S_asg (own := [3]) (E_bin .mul (E_var rfl (.inl rfl) (by decide) (by decide)) (E_var rfl (.inl rfl) (by decide) (by decide))) (G_name G rfl (.inl rfl) (.inl rfl) (by decide)))
  B_nil))
  (B_cons hW (S_ret (E_bi G .min T.z_min (A_cons (E_var rfl (.inl rfl) (by decide) (by decide)) (A_cons E_int A_nil))))
  B_nil)))
theorem sc_l_is_integer : FnScope n_l_is_integer ["_law_value"] (defScope s_l_is_integer) := ⟨rfl, rfl, rfl, by decide +kernel, rfl, by decide +kernel, by decide +kernel⟩
theorem w_l_is_integer {f : Addr} {cdv : Value} {A : Around} {outer : List Env} {s : Shared} {H : Hp} {W : XW} (S : Cs P w K mg base k fs ds) (T : Txt mg) (hW : WInv W) (hr : Room k (A.deeper (envOfC "_law_is_integer" (defScope s_l_is_integer) s.heap.objs.size f cdv))) (hgu : A.guards = some []) :
    EB (cxG P w K mg base n_l_is_integer "_law_is_integer" (defScope s_l_is_integer) f cdv A outer s H) W (run prog k) (defBody s_l_is_integer) f_l_is_integer.body :=
  have G : Good (cxG P w K mg base n_l_is_integer "_law_is_integer" (defScope s_l_is_integer) f cdv A outer s H) := good_of sc_l_is_integer hr hgu
  (B_cons hW (S_ret (E_and (E_isi .int T.z_isinstance T.z_int (E_var rfl (.inl rfl) (by decide) (by decide))) (E_one (E_not (E_isi .bool T.z_isinstance T.z_bool (E_var rfl (.inl rfl) (by decide) (by decide)))))))
  B_nil)
theorem sc_l_is_table : FnScope n_l_is_table ["_law_size", "_law_value"] (defScope s_l_is_table) := ⟨rfl, rfl, rfl, by decide +kernel, rfl, by decide +kernel, by decide +kernel⟩
theorem w_l_is_table {f : Addr} {cdv : Value} {A : Around} {outer : List Env} {s : Shared} {H : Hp} {W : XW} (S : Cs P w K mg base k fs ds) (T : Txt mg) (hW : WInv W) (hr : Room k (A.deeper (envOfC "_law_is_table" (defScope s_l_is_table) s.heap.objs.size f cdv))) (hgu : A.guards = some []) :
    EB (cxG P w K mg base n_l_is_table "_law_is_table" (defScope s_l_is_table) f cdv A outer s H) W (run prog k) (defBody s_l_is_table) f_l_is_table.body :=
  have G : Good (cxG P w K mg base n_l_is_table "_law_is_table" (defScope s_l_is_table) f cdv A outer s H) := good_of sc_l_is_table hr hgu
  (B_cons hW (S_ifs (T_w (W_or (T_not (T_val (E_isi .tuple T.z_isinstance T.z_tuple (E_var rfl (.inl rfl) (by decide) (by decide))))) (W_or1 (T_cmp G .ne (E_bi G .len T.z_len (A_cons (E_var rfl (.inl rfl) (by decide) (by decide)) A_nil)) (E_var rfl (.inl rfl) (by decide) (by decide)))))) (B_cons hW (S_ret E_bl)
  B_nil) B_nil)
  (B_cons hW (S_for (own := [2]) G hW PassesOwn.never (I_val (E_var rfl (.inl rfl) (by decide) (by decide))) (G_name G rfl (.inl rfl) (.inl rfl) (by decide)) (B_cons hW (S_ifs (T_w (W_or (T_not (T_val (E_call G S.c11 hr S.b11_0 (A_cons (E_var rfl (.inl rfl) (by decide) (by decide)) A_nil) K_nil))) (W_or (T_cmp G .lt (E_var rfl (.inl rfl) (by decide) (by decide)) (E_neg E_int)) (W_or1 (T_cmp G .ge (E_var rfl (.inl rfl) (by decide) (by decide)) (E_var rfl (.inl rfl) (by decide) (by decide))))))) (B_cons hW (S_ret E_bl)
  B_nil) B_nil)
  B_nil))
  (B_cons hW (S_ret E_bl)
  B_nil)))
theorem sc_l_due : FnScope n_l_due ["_law_many", "_law_value"] (defScope s_l_due) := ⟨rfl, rfl, rfl, by decide +kernel, rfl, by decide +kernel, by decide +kernel⟩
theorem w_l_due {f : Addr} {cdv : Value} {A : Around} {outer : List Env} {s : Shared} {H : Hp} {W : XW} (S : Cs P w K mg base k fs ds) (T : Txt mg) (hW : WInv W) (hr : Room k (A.deeper (envOfC "_law_due" (defScope s_l_due) s.heap.objs.size f cdv))) (hgu : A.guards = some []) :
    EB (cxG P w K mg base n_l_due "_law_due" (defScope s_l_due) f cdv A outer s H) W (run prog k) (defBody s_l_due) f_l_due.body :=
  have G : Good (cxG P w K mg base n_l_due "_law_due" (defScope s_l_due) f cdv A outer s H) := good_of sc_l_due hr hgu
  (B_cons hW (S_ifs (T_w (W_or (T_not (T_val (E_isi .tuple T.z_isinstance T.z_tuple (E_var rfl (.inl rfl) (by decide) (by decide))))) (W_or1 (T_cmp G .ne (E_bi G .len T.z_len (A_cons (E_var rfl (.inl rfl) (by decide) (by decide)) A_nil)) E_int)))) (B_cons hW (S_ret E_bl)
  B_nil) B_nil)
  (B_cons hW (S_asg (own := [2, 3, 4, 5]) (E_var rfl (.inl rfl) (by decide) (by decide)) (G_tup G (Gs_cons hW (G_name G rfl (.inl rfl) (.inl rfl) (by decide)) (Gs_cons hW (G_name G rfl (.inl rfl) (.inl rfl) (by decide)) (Gs_cons hW (G_name G rfl (.inl rfl) (.inl rfl) (by decide)) (Gs_cons hW (G_name G rfl (.inl rfl) (.inl rfl) (by decide)) Gs_nil))))))
  (B_cons hW (S_ifs (T_w (W_or (T_not (T_val (E_isi .str T.z_isinstance T.z_str (E_var rfl (.inl rfl) (by decide) (by decide))))) (W_or1 (T_cmp G .nin (E_var rfl (.inl rfl) (by decide) (by decide)) (E_tup (A_cons E_str (A_cons E_str A_nil))))))) (B_cons hW (S_ret E_bl)
  B_nil) B_nil)
  (B_cons hW (S_ifs (T_w (W_or (T_not (T_val (E_call G S.c11 hr S.b11_0 (A_cons (E_var rfl (.inl rfl) (by decide) (by decide)) A_nil) K_nil))) (W_or (T_not (T_val (E_call G S.c11 hr S.b11_0 (A_cons (E_var rfl (.inl rfl) (by decide) (by decide)) A_nil) K_nil))) (W_or (T_cmp G .lt (E_var rfl (.inl rfl) (by decide) (by decide)) E_int) (W_or1 (T_cmp G .lt (E_var rfl (.inl rfl) (by decide) (by decide)) E_int)))))) (B_cons hW (S_ret E_bl)
  B_nil) B_nil)
  (B_cons hW (S_asg (own := [6]) (E_call G S.c10 hr S.b10_0 (A_cons (E_var rfl (.inl rfl) (by decide) (by decide)) (A_cons (E_var rfl (.inl rfl) (by decide) (by decide)) (A_cons (E_var rfl (.inl rfl) (by decide) (by decide)) A_nil))) K_nil) (G_name G rfl (.inr rfl) (.inl rfl) (by decide)))
  (B_cons hW (S_ifs (T_w (W_or (T_cmp G .gt (E_var rfl (.inr (.inl rfl)) (by decide) (by decide)) E_int) (W_or (T_not (T_val (E_isi .tuple T.z_isinstance T.z_tuple (E_var rfl (.inl rfl) (by decide) (by decide))))) (W_or1 (T_not (T_cmp2 G .le .le E_int (E_bi G .len T.z_len (A_cons (E_var rfl (.inl rfl) (by decide) (by decide)) A_nil)) E_int)))))) (B_cons hW (S_ret E_bl)
  B_nil) B_nil)
  (B_cons hW (S_ret (E_cmp G .eq (E_comp (ow := [("_law_table_here", 7)]) G hW (I_val (E_var rfl (.inl rfl) (by decide) (by decide))) (blkOk_by (by show blkC n_l_due (defScope s_l_due) _ _ = true; decide +kernel)) (fun _ _ _ _ _ => (G_name (Good.blk G) rfl (.inl rfl) (.inr rfl) (by decide))) (fun _ _ _ _ _ => (C_one (T_not (T_val (E_call (Good.blk G) S.c12 hr S.b12_0 (A_cons (E_var rfl (.inr (.inl rfl)) (by decide) (by decide)) (A_cons (E_var rfl (.inl rfl) (by decide) (by decide)) A_nil)) K_nil))))) (fun _ _ _ _ _ => (E_var rfl (.inl rfl) (by decide) (by decide)))) (E_lst A_nil)))
  B_nil)))))))
theorem sc_l_table : FnScope n_l_table ["_law_deck_here", "_law_size"] (defScope s_l_table) := ⟨rfl, rfl, rfl, by decide +kernel, rfl, by decide +kernel, by decide +kernel⟩
theorem w_l_table {f : Addr} {cdv : Value} {A : Around} {outer : List Env} {s : Shared} {H : Hp} {W : XW} (S : Cs P w K mg base k fs ds) (T : Txt mg) (hW : WInv W) (hr : Room k (A.deeper (envOfC "_law_table" (defScope s_l_table) s.heap.objs.size f cdv))) (hgu : A.guards = some []) :
    EB (cxG P w K mg base n_l_table "_law_table" (defScope s_l_table) f cdv A outer s H) W (run prog k) (defBody s_l_table) f_l_table.body :=
  have G : Good (cxG P w K mg base n_l_table "_law_table" (defScope s_l_table) f cdv A outer s H) := good_of sc_l_table hr hgu
  (B_cons hW (S_setLc (ow := [("_law_k", 3)]) G hW rfl rfl (sw_true rfl rfl rfl rfl) (I_rng1 T.z_range (E_bi G .min T.z_min (A_cons (E_var rfl (.inr (.inl rfl)) (by decide) (by decide)) (A_cons E_int A_nil)))) (blkOk_by (by show blkC n_l_table (defScope s_l_table) _ _ = true; decide +kernel)) (fun _ _ _ _ _ => (G_name (Good.blk G) rfl (.inl rfl) (.inr rfl) (by decide))) (fun _ _ _ _ _ => C_none) (fun _ _ _ _ _ => (E_bin .sub (E_call (Good.blk G) S.c7 hr S.b7_0 (A_cons (E_var rfl (.inr (.inl rfl)) (by decide) (by decide)) (A_cons (E_bin .add (E_var rfl (.inr (.inl rfl)) (by decide) (by decide)) E_int) A_nil)) K_nil) E_int)))
  (B_cons hW (S_ret (E_bi G .tuple T.z_tuple (A_cons (E_bin .add (E_var rfl (.inl rfl) (by decide) (by decide)) (E_bin .mul (E_lst (A_cons (E_neg E_int) A_nil)) (E_bin .sub (E_var rfl (.inr (.inl rfl)) (by decide) (by decide)) (E_bi G .len T.z_len (A_cons (E_var rfl (.inl rfl) (by decide) (by decide)) A_nil))))) A_nil)))
  B_nil))
theorem sc_l_machine : FnScope n_l_machine ["_law_deck_here", "_law_many"] (defScope s_l_machine) := ⟨rfl, rfl, rfl, by decide +kernel, rfl, by decide +kernel, by decide +kernel⟩
theorem w_l_machine {f : Addr} {cdv : Value} {A : Around} {outer : List Env} {s : Shared} {H : Hp} {W : XW} (S : Cs P w K mg base k fs ds) (T : Txt mg) (hW : WInv W) (hr : Room k (A.deeper (envOfC "_law_machine" (defScope s_l_machine) s.heap.objs.size f cdv))) (hgu : A.guards = some []) :
    EB (cxG P w K mg base n_l_machine "_law_machine" (defScope s_l_machine) f cdv A outer s H) W (run prog k) (defBody s_l_machine) f_l_machine.body :=
  have G : Good (cxG P w K mg base n_l_machine "_law_machine" (defScope s_l_machine) f cdv A outer s H) := good_of sc_l_machine hr hgu
  (B_cons hW (S_asg (own := [2, 3]) (E_tup (A_cons (E_bin .add E_int (E_call G S.c7 hr S.b7_0 (A_cons (E_var rfl (.inr (.inl rfl)) (by decide) (by decide)) (A_cons E_int A_nil)) K_nil)) (A_cons (E_bin .add E_int (E_call G S.c7 hr S.b7_0 (A_cons (E_var rfl (.inr (.inl rfl)) (by decide) (by decide)) (A_cons E_int A_nil)) K_nil)) A_nil))) (G_tup G (Gs_cons hW (G_name G rfl (.inr rfl) (.inl rfl) (by decide)) (Gs_cons hW (G_name G rfl (.inr rfl) (.inl rfl) (by decide)) Gs_nil))))
  (B_cons hW (S_asg (own := [4]) (E_ife (T_cmp G .eq (E_call G S.c7 hr S.b7_0 (A_cons (E_var rfl (.inr (.inl rfl)) (by decide) (by decide)) (A_cons E_int A_nil)) K_nil) E_int) E_int (E_bin .add E_int (E_call G S.c7 hr S.b7_0 (A_cons (E_var rfl (.inr (.inl rfl)) (by decide) (by decide)) (A_cons E_int A_nil)) K_nil))) (G_name G rfl (.inl rfl) (.inl rfl) (by decide)))
  (B_cons hW (S_setLc (ow := [("_law_k", 6)]) G hW rfl rfl (sw_true rfl rfl rfl rfl) (I_rng1 T.z_range (E_var rfl (.inl rfl) (by decide) (by decide))) (blkOk_by (by show blkC n_l_machine (defScope s_l_machine) _ _ = true; decide +kernel)) (fun _ _ _ _ _ => (G_name (Good.blk G) rfl (.inl rfl) (.inr rfl) (by decide))) (fun _ _ _ _ _ => C_none) (fun _ _ _ _ _ => (E_call (Good.blk G) S.c14 hr S.b14_0 (A_cons (E_var rfl (.inr (.inl rfl)) (by decide) (by decide)) (A_cons (E_call (Good.blk G) S.c10 hr S.b10_0 (A_cons (E_var rfl (.inr (.inl rfl)) (by decide) (by decide)) (A_cons (E_var rfl (.inr (.inl rfl)) (by decide) (by decide)) (A_cons (E_var rfl (.inr (.inl rfl)) (by decide) (by decide)) A_nil))) K_nil) A_nil)) K_nil)))
  (B_cons hW (S_ret (E_tup (A_cons (E_call G S.c8 hr S.b8_0 (A_cons (E_var rfl (.inr (.inl rfl)) (by decide) (by decide)) (A_cons (E_lst (A_cons E_str (A_cons E_str A_nil))) A_nil)) K_nil) (A_cons (E_var rfl (.inr (.inl rfl)) (by decide) (by decide)) (A_cons (E_var rfl (.inr (.inl rfl)) (by decide) (by decide)) (A_cons (E_bi G .tuple T.z_tuple (A_cons (E_var rfl (.inl rfl) (by decide) (by decide)) A_nil)) A_nil))))))
  B_nil))))
theorem sc_l_put : FnScope n_l_put ["_law_some", "_law_at", "_law_value"] (defScope s_l_put) := ⟨rfl, rfl, rfl, by decide +kernel, rfl, by decide +kernel, by decide +kernel⟩
theorem w_l_put {f : Addr} {cdv : Value} {A : Around} {outer : List Env} {s : Shared} {H : Hp} {W : XW} (S : Cs P w K mg base k fs ds) (T : Txt mg) (hW : WInv W) (hr : Room k (A.deeper (envOfC "_law_put" (defScope s_l_put) s.heap.objs.size f cdv))) (hgu : A.guards = some []) :
    EB (cxG P w K mg base n_l_put "_law_put" (defScope s_l_put) f cdv A outer s H) W (run prog k) (defBody s_l_put) f_l_put.body :=
  have G : Good (cxG P w K mg base n_l_put "_law_put" (defScope s_l_put) f cdv A outer s H) := good_of sc_l_put hr hgu
  (B_cons hW (S_ret (E_bin .add (E_bin .add (E_bi G .tuple T.z_tuple (A_cons (E_slc (E_var rfl (.inl rfl) (by decide) (by decide)) O_none (O_some (E_var rfl (.inl rfl) (by decide) (by decide)))) A_nil)) (E_tup (A_cons (E_var rfl (.inl rfl) (by decide) (by decide)) A_nil))) (E_bi G .tuple T.z_tuple (A_cons (E_slc (E_var rfl (.inl rfl) (by decide) (by decide)) (O_some (E_bin .add (E_var rfl (.inl rfl) (by decide) (by decide)) E_int)) O_none) A_nil))))
  B_nil)
theorem sc_l_other : FnScope n_l_other ["_law_deck_here", "_law_value"] (defScope s_l_other) := ⟨rfl, rfl, rfl, by decide +kernel, rfl, by decide +kernel, by decide +kernel⟩
theorem w_l_other {f : Addr} {cdv : Value} {A : Around} {outer : List Env} {s : Shared} {H : Hp} {W : XW} (S : Cs P w K mg base k fs ds) (T : Txt mg) (hW : WInv W) (hr : Room k (A.deeper (envOfC "_law_other" (defScope s_l_other) s.heap.objs.size f cdv))) (hgu : A.guards = some []) :
    EB (cxG P w K mg base n_l_other "_law_other" (defScope s_l_other) f cdv A outer s H) W (run prog k) (defBody s_l_other) f_l_other.body :=
  have G : Good (cxG P w K mg base n_l_other "_law_other" (defScope s_l_other) f cdv A outer s H) := good_of sc_l_other hr hgu
  (B_cons hW (S_ret (E_call G S.c8 hr S.b8_0 (A_cons (E_var rfl (.inl rfl) (by decide) (by decide)) (A_cons (E_lst (A_cons (E_bin .sub (E_var rfl (.inl rfl) (by decide) (by decide)) E_int) (A_cons (E_bin .add (E_var rfl (.inl rfl) (by decide) (by decide)) E_int) (A_cons E_int (A_cons (E_neg E_int) (A_cons (E_neg E_int) (A_cons E_bl (A_cons E_bl (A_cons E_non (A_cons (E_bi G .str T.z_str (A_cons (E_var rfl (.inl rfl) (by decide) (by decide)) A_nil)) (A_cons (E_tup (A_cons (E_var rfl (.inl rfl) (by decide) (by decide)) A_nil)) (A_cons (E_bin .pow E_int E_int) A_nil)))))))))))) A_nil)) K_nil))
  B_nil)
theorem sc_l_bent_table : FnScope n_l_bent_table ["_law_deck_here", "_law_size", "_law_table_here"] (defScope s_l_bent_table) := ⟨rfl, rfl, rfl, by decide +kernel, rfl, by decide +kernel, by decide +kernel⟩
theorem w_l_bent_table {f : Addr} {cdv : Value} {A : Around} {outer : List Env} {s : Shared} {H : Hp} {W : XW} (S : Cs P w K mg base k fs ds) (T : Txt mg) (hW : WInv W) (hr : Room k (A.deeper (envOfC "_law_bent_table" (defScope s_l_bent_table) s.heap.objs.size f cdv))) (hgu : A.guards = some []) :
    EB (cxG P w K mg base n_l_bent_table "_law_bent_table" (defScope s_l_bent_table) f cdv A outer s H) W (run prog k) (defBody s_l_bent_table) f_l_bent_table.body :=
  have G : Good (cxG P w K mg base n_l_bent_table "_law_bent_table" (defScope s_l_bent_table) f cdv A outer s H) := good_of sc_l_bent_table hr hgu
  (B_cons hW (S_asg (own := [3]) (E_call G S.c7 hr S.b7_0 (A_cons (E_var rfl (.inl rfl) (by decide) (by decide)) (A_cons (E_bi G .len T.z_len (A_cons (E_var rfl (.inl rfl) (by decide) (by decide)) A_nil)) A_nil)) K_nil) (G_name G rfl (.inl rfl) (.inl rfl) (by decide)))
  (B_cons hW (S_asg (own := [4]) (E_call G S.c7 hr S.b7_0 (A_cons (E_var rfl (.inl rfl) (by decide) (by decide)) (A_cons E_int A_nil)) K_nil) (G_name G rfl (.inl rfl) (.inl rfl) (by decide)))
  (B_cons hW (S_ifs (T_cmp G .eq (E_var rfl (.inl rfl) (by decide) (by decide)) E_int) (B_cons hW (S_ret (E_bi G .list T.z_list (A_cons (E_var rfl (.inl rfl) (by decide) (by decide)) A_nil)))
  B_nil) B_nil)
  (B_cons hW (S_ifs (T_cmp G .eq (E_var rfl (.inl rfl) (by decide) (by decide)) E_int) (B_cons hW (S_ret (E_slc (E_var rfl (.inl rfl) (by decide) (by decide)) O_none (O_some (E_neg E_int))))
  B_nil) B_nil)
  (B_cons hW (S_ifs (T_cmp G .eq (E_var rfl (.inl rfl) (by decide) (by decide)) E_int) (B_cons hW (S_ret (E_bin .add (E_var rfl (.inl rfl) (by decide) (by decide)) (E_tup (A_cons E_int A_nil))))
  B_nil) B_nil)
  (B_cons hW (S_ifs (T_cmp G .eq (E_var rfl (.inl rfl) (by decide) (by decide)) E_int) (B_cons hW (S_ret (E_call G S.c16 hr S.b16_0 (A_cons (E_var rfl (.inl rfl) (by decide) (by decide)) (A_cons (E_var rfl (.inl rfl) (by decide) (by decide)) (A_cons (E_bin .sub (E_var rfl (.inl rfl) (by decide) (by decide)) (E_call G S.c7 hr S.b7_0 (A_cons (E_var rfl (.inl rfl) (by decide) (by decide)) (A_cons E_int A_nil)) K_nil)) A_nil))) K_nil))
  B_nil) B_nil)
  (B_cons hW (S_ret (E_call G S.c16 hr S.b16_0 (A_cons (E_var rfl (.inl rfl) (by decide) (by decide)) (A_cons (E_var rfl (.inl rfl) (by decide) (by decide)) (A_cons (E_call G S.c17 hr S.b17_0 (A_cons (E_var rfl (.inl rfl) (by decide) (by decide)) (A_cons (E_ix G (E_var rfl (.inl rfl) (by decide) (by decide)) (E_var rfl (.inl rfl) (by decide) (by decide))) A_nil)) K_nil) A_nil))) K_nil))
  B_nil)))))))
theorem sc_l_bent : FnScope n_l_bent ["_law_deck_here", "_law_many", "_law_machine_here"] (defScope s_l_bent) := ⟨rfl, rfl, rfl, by decide +kernel, rfl, by decide +kernel, by decide +kernel⟩
theorem w_l_bent {f : Addr} {cdv : Value} {A : Around} {outer : List Env} {s : Shared} {H : Hp} {W : XW} (S : Cs P w K mg base k fs ds) (T : Txt mg) (hW : WInv W) (hr : Room k (A.deeper (envOfC "_law_bent" (defScope s_l_bent) s.heap.objs.size f cdv))) (hgu : A.guards = some []) :
    EB (cxG P w K mg base n_l_bent "_law_bent" (defScope s_l_bent) f cdv A outer s H) W (run prog k) (defBody s_l_bent) f_l_bent.body :=
  have G : Good (cxG P w K mg base n_l_bent "_law_bent" (defScope s_l_bent) f cdv A outer s H) := good_of sc_l_bent hr hgu
  (B_cons hW (S_asg (own := [3, 4, 5, 6]) (E_var rfl (.inl rfl) (by decide) (by decide)) (G_tup G (Gs_cons hW (G_name G rfl (.inl rfl) (.inl rfl) (by decide)) (Gs_cons hW (G_name G rfl (.inl rfl) (.inl rfl) (by decide)) (Gs_cons hW (G_name G rfl (.inl rfl) (.inl rfl) (by decide)) (Gs_cons hW (G_name G rfl (.inl rfl) (.inl rfl) (by decide)) Gs_nil))))))
  (B_cons hW (S_asg (own := [7]) (E_call G S.c7 hr S.b7_0 (A_cons (E_var rfl (.inl rfl) (by decide) (by decide)) (A_cons E_int A_nil)) K_nil) (G_name G rfl (.inl rfl) (.inl rfl) (by decide)))
  (B_cons hW (S_ifs (T_cmp G .eq (E_var rfl (.inl rfl) (by decide) (by decide)) E_int) (B_cons hW (S_asg (own := [8]) (E_lst (A_cons E_str (A_cons E_str (A_cons E_str (A_cons E_non (A_cons E_str (A_cons (E_tup (A_cons E_str A_nil)) (A_cons E_str (A_cons E_str A_nil))))))))) (G_name G rfl (.inl rfl) (.inl rfl) (by decide)))
  (B_cons hW (S_ret (E_tup (A_cons (E_call G S.c8 hr S.b8_0 (A_cons (E_var rfl (.inl rfl) (by decide) (by decide)) (A_cons (E_var rfl (.inl rfl) (by decide) (by decide)) A_nil)) K_nil) (A_cons (E_var rfl (.inl rfl) (by decide) (by decide)) (A_cons (E_var rfl (.inl rfl) (by decide) (by decide)) (A_cons (E_var rfl (.inl rfl) (by decide) (by decide)) A_nil))))))
  B_nil)) B_nil)
  (B_cons hW (S_ifs (T_cmp G .eq (E_var rfl (.inl rfl) (by decide) (by decide)) E_int) (B_cons hW (S_ret (E_tup (A_cons (E_var rfl (.inl rfl) (by decide) (by decide)) (A_cons (E_call G S.c17 hr S.b17_0 (A_cons (E_var rfl (.inl rfl) (by decide) (by decide)) (A_cons (E_var rfl (.inl rfl) (by decide) (by decide)) A_nil)) K_nil) (A_cons (E_var rfl (.inl rfl) (by decide) (by decide)) (A_cons (E_var rfl (.inl rfl) (by decide) (by decide)) A_nil))))))
  B_nil) B_nil)
  (B_cons hW (S_ifs (T_cmp G .eq (E_var rfl (.inl rfl) (by decide) (by decide)) E_int) (B_cons hW (S_ret (E_tup (A_cons (E_var rfl (.inl rfl) (by decide) (by decide)) (A_cons (E_var rfl (.inl rfl) (by decide) (by decide)) (A_cons (E_call G S.c17 hr S.b17_0 (A_cons (E_var rfl (.inl rfl) (by decide) (by decide)) (A_cons (E_var rfl (.inl rfl) (by decide) (by decide)) A_nil)) K_nil) (A_cons (E_var rfl (.inl rfl) (by decide) (by decide)) A_nil))))))
  B_nil) B_nil)
  (B_cons hW (S_ifs (T_cmp G .eq (E_var rfl (.inl rfl) (by decide) (by decide)) E_int) (B_cons hW (S_asg (own := [8]) (E_lst (A_cons (E_tup A_nil) (A_cons (E_slc (E_var rfl (.inl rfl) (by decide) (by decide)) (O_some E_int) O_none) (A_cons (E_bi G .list T.z_list (A_cons (E_var rfl (.inl rfl) (by decide) (by decide)) A_nil)) (A_cons (E_bin .add (E_var rfl (.inl rfl) (by decide) (by decide)) (E_slc (E_var rfl (.inl rfl) (by decide) (by decide)) O_none (O_some E_int))) (A_cons (E_ix G (E_var rfl (.inl rfl) (by decide) (by decide)) E_int) A_nil)))))) (G_name G rfl (.inl rfl) (.inl rfl) (by decide)))
  (B_cons hW (S_ret (E_tup (A_cons (E_var rfl (.inl rfl) (by decide) (by decide)) (A_cons (E_var rfl (.inl rfl) (by decide) (by decide)) (A_cons (E_var rfl (.inl rfl) (by decide) (by decide)) (A_cons (E_call G S.c8 hr S.b8_0 (A_cons (E_var rfl (.inl rfl) (by decide) (by decide)) (A_cons (E_var rfl (.inl rfl) (by decide) (by decide)) A_nil)) K_nil) A_nil))))))
  B_nil)) B_nil)
  (B_cons hW (S_ifs (T_cmp G .eq (E_var rfl (.inl rfl) (by decide) (by decide)) E_int) (B_cons hW (S_ret (E_tup (A_cons (E_var rfl (.inl rfl) (by decide) (by decide)) (A_cons (E_var rfl (.inl rfl) (by decide) (by decide)) (A_cons (E_var rfl (.inl rfl) (by decide) (by decide)) (A_cons (E_slc (E_bin .mul (E_var rfl (.inl rfl) (by decide) (by decide)) E_int) O_none (O_some (E_bin .add E_int (E_call G S.c7 hr S.b7_0 (A_cons (E_var rfl (.inl rfl) (by decide) (by decide)) (A_cons E_int A_nil)) K_nil)))) A_nil))))))
  B_nil) B_nil)
  (B_cons hW (S_ifs (T_cmp G .eq (E_var rfl (.inl rfl) (by decide) (by decide)) E_int) (B_cons hW (S_asg (own := [8]) (E_lst (A_cons (E_bi G .list T.z_list (A_cons (E_var rfl (.inl rfl) (by decide) (by decide)) A_nil)) (A_cons (E_slc (E_var rfl (.inl rfl) (by decide) (by decide)) O_none (O_some E_int)) (A_cons (E_bin .add (E_var rfl (.inl rfl) (by decide) (by decide)) (E_tup (A_cons E_int A_nil))) (A_cons (E_rev (E_var rfl (.inl rfl) (by decide) (by decide))) (A_cons (E_dct (P_str (E_var rfl (.inl rfl) (by decide) (by decide)) P_nil)) A_nil)))))) (G_name G rfl (.inl rfl) (.inl rfl) (by decide)))
  (B_cons hW (S_ret (E_call G S.c8 hr S.b8_0 (A_cons (E_var rfl (.inl rfl) (by decide) (by decide)) (A_cons (E_var rfl (.inl rfl) (by decide) (by decide)) A_nil)) K_nil))
  B_nil)) B_nil)
  (B_cons hW (S_par G rfl rfl (by decide) rfl rfl (A_cons (E_call G S.c10 hr S.b10_0 (A_cons (E_var rfl (.inl rfl) (by decide) (by decide)) (A_cons (E_var rfl (.inl rfl) (by decide) (by decide)) (A_cons (E_var rfl (.inl rfl) (by decide) (by decide)) A_nil))) K_nil) (A_cons (E_call G S.c7 hr S.b7_0 (A_cons (E_var rfl (.inl rfl) (by decide) (by decide)) (A_cons (E_bi G .len T.z_len (A_cons (E_var rfl (.inl rfl) (by decide) (by decide)) A_nil)) A_nil)) K_nil) A_nil)))
  (B_cons hW (S_asg (own := [11]) (E_call G S.c18 hr S.b18_0 (A_cons (E_var rfl (.inl rfl) (by decide) (by decide)) (A_cons (E_var rfl (.inl rfl) (by decide) (by decide)) (A_cons (E_ix G (E_var rfl (.inl rfl) (by decide) (by decide)) (E_var rfl (.inl rfl) (by decide) (by decide))) A_nil))) K_nil) (G_name G rfl (.inl rfl) (.inl rfl) (by decide)))
  (B_cons hW (S_ret (E_tup (A_cons (E_var rfl (.inl rfl) (by decide) (by decide)) (A_cons (E_var rfl (.inl rfl) (by decide) (by decide)) (A_cons (E_var rfl (.inl rfl) (by decide) (by decide)) (A_cons (E_call G S.c16 hr S.b16_0 (A_cons (E_var rfl (.inl rfl) (by decide) (by decide)) (A_cons (E_var rfl (.inl rfl) (by decide) (by decide)) (A_cons (E_var rfl (.inl rfl) (by decide) (by decide)) A_nil))) K_nil) A_nil))))))
  B_nil)))))))))))
theorem sc_l_great : FnScope n_l_great ["_law_deck_here", "_law_many"] (defScope s_l_great) := ⟨rfl, rfl, rfl, by decide +kernel, rfl, by decide +kernel, by decide +kernel⟩
theorem w_l_great {f : Addr} {cdv : Value} {A : Around} {outer : List Env} {s : Shared} {H : Hp} {W : XW} (S : Cs P w K mg base k fs ds) (T : Txt mg) (hW : WInv W) (hr : Room k (A.deeper (envOfC "_law_great" (defScope s_l_great) s.heap.objs.size f cdv))) (hgu : A.guards = some []) :
    EB (cxG P w K mg base n_l_great "_law_great" (defScope s_l_great) f cdv A outer s H) W (run prog k) (defBody s_l_great) f_l_great.body :=
  have G : Good (cxG P w K mg base n_l_great "_law_great" (defScope s_l_great) f cdv A outer s H) := good_of sc_l_great hr hgu
  (B_cons hW (S_asg (own := [2]) (E_ix G (E_dct (P_int E_int (P_int E_int (P_int E_int (P_int E_int P_nil))))) (E_var rfl (.inl rfl) (by decide) (by decide))) (G_name G rfl (.inl rfl) (.inl rfl) (by decide)))
  (B_cons hW (S_asg (own := [3]) (E_call G S.c9 hr S.b9_0 (A_cons (E_var rfl (.inl rfl) (by decide) (by decide)) (A_cons (E_var rfl (.inl rfl) (by decide) (by decide)) A_nil)) K_nil) (G_name G rfl (.inl rfl) (.inl rfl) (by decide)))
  (B_cons hW (S_asg (own := [4]) (E_bin .add (E_bin .fdiv E_int (E_var rfl (.inl rfl) (by decide) (by decide))) (E_call G S.c7 hr S.b7_0 (A_cons (E_var rfl (.inl rfl) (by decide) (by decide)) (A_cons E_int A_nil)) K_nil)) (G_name G rfl (.inl rfl) (.inl rfl) (by decide)))
  (B_cons hW (S_asg (own := [5]) (E_tup (A_cons E_str (A_cons (E_var rfl (.inl rfl) (by decide) (by decide)) (A_cons (E_var rfl (.inl rfl) (by decide) (by decide)) (A_cons (E_tup (A_cons (E_bin .mul (E_tup (A_cons (E_neg E_int) A_nil)) (E_bin .mul (E_var rfl (.inl rfl) (by decide) (by decide)) (E_var rfl (.inl rfl) (by decide) (by decide)))) A_nil)) A_nil))))) (G_name G rfl (.inl rfl) (.inl rfl) (by decide)))
  (B_cons hW (S_asg (own := [6]) (E_lst (A_cons (E_var rfl (.inl rfl) (by decide) (by decide)) (A_cons (E_tup (A_cons E_str (A_cons (E_bin .pow E_int E_int) (A_cons E_int (A_cons (E_tup A_nil) A_nil))))) (A_cons (E_tup (A_cons E_str (A_cons E_int (A_cons (E_bin .pow E_int E_int) (A_cons (E_tup (A_cons (E_tup (A_cons E_int A_nil)) A_nil)) A_nil))))) A_nil)))) (G_name G rfl (.inl rfl) (.inl rfl) (by decide)))
  (B_cons hW (S_ret (E_call G S.c8 hr S.b8_0 (A_cons (E_var rfl (.inl rfl) (by decide) (by decide)) (A_cons (E_var rfl (.inl rfl) (by decide) (by decide)) A_nil)) K_nil))
  B_nil))))))
theorem sc_l_is_right : FnScope n_l_is_right ["_law_many", "_law_value"] (defScope s_l_is_right) := ⟨rfl, rfl, rfl, by decide +kernel, rfl, by decide +kernel, by decide +kernel⟩
theorem w_l_is_right {f : Addr} {cdv : Value} {A : Around} {outer : List Env} {s : Shared} {H : Hp} {W : XW} (S : Cs P w K mg base k fs ds) (T : Txt mg) (hW : WInv W) (hr : Room k (A.deeper (envOfC "_law_is_right" (defScope s_l_is_right) s.heap.objs.size f cdv))) (hgu : A.guards = some []) :
    EB (cxG P w K mg base n_l_is_right "_law_is_right" (defScope s_l_is_right) f cdv A outer s H) W (run prog k) (defBody s_l_is_right) f_l_is_right.body :=
  have G : Good (cxG P w K mg base n_l_is_right "_law_is_right" (defScope s_l_is_right) f cdv A outer s H) := good_of sc_l_is_right hr hgu
  (B_cons hW (S_par G rfl rfl (by decide) rfl rfl (A_cons (E_bi G .repr T.z_repr (A_cons (E_var rfl (.inl rfl) (by decide) (by decide)) A_nil)) (A_cons (E_call G S.c13 hr S.b13_0 (A_cons (E_var rfl (.inl rfl) (by decide) (by decide)) (A_cons (E_var rfl (.inl rfl) (by decide) (by decide)) A_nil)) K_nil) A_nil)))
  (B_cons hW (S_asg (own := [4]) (E_lst (A_cons (E_call G S.c5 hr S.b5_0 (A_cons (E_var rfl (.inl rfl) (by decide) (by decide)) (A_cons (E_var rfl (.inl rfl) (by decide) (by decide)) A_nil)) K_nil) (A_cons (E_callK G S.c5 hr S.b5_1 (K_cons (E_var rfl (.inl rfl) (by decide) (by decide)) (K_cons (E_var rfl (.inl rfl) (by decide) (by decide)) K_nil))) A_nil))) (G_name G rfl (.inl rfl) (.inl rfl) (by decide)))
  (B_cons hW (S_ret (E_and (E_cmp G .eq (E_bi G .repr T.z_repr (A_cons (E_var rfl (.inl rfl) (by decide) (by decide)) A_nil)) (E_bi G .repr T.z_repr (A_cons (E_lst (A_cons (E_var rfl (.inl rfl) (by decide) (by decide)) (A_cons (E_var rfl (.inl rfl) (by decide) (by decide)) A_nil))) A_nil))) (E_one (E_cmp G .eq (E_bi G .repr T.z_repr (A_cons (E_var rfl (.inl rfl) (by decide) (by decide)) A_nil)) (E_var rfl (.inl rfl) (by decide) (by decide))))))
  B_nil)))
theorem sc_law : FnScope n_law ["_law_script"] (defScope s_law) := ⟨rfl, rfl, rfl, by decide +kernel, rfl, by decide +kernel, by decide +kernel⟩
theorem w_law {f : Addr} {cdv : Value} {A : Around} {outer : List Env} {s : Shared} {H : Hp} {W : XW} (S : Cs P w K mg base k fs ds) (T : Txt mg) (hW : WInv W) (hr : Room k (A.deeper (envOfC "law" (defScope s_law) s.heap.objs.size f cdv))) (hgu : A.guards = some []) :
    EB (cxG P w K mg base n_law "law" (defScope s_law) f cdv A outer s H) W (run prog k) (defBody s_law) f_law.body :=
  have G : Good (cxG P w K mg base n_law "law" (defScope s_law) f cdv A outer s H) := good_of sc_law hr hgu
  (B_cons hW (S_asg (own := [1]) (E_call G S.c6 hr S.b6_0 (A_cons (E_var rfl (.inl rfl) (by decide) (by decide)) A_nil) K_nil) (G_name G rfl (.inl rfl) (.inl rfl) (by decide)))
  (B_cons hW (S_for (own := [2]) G hW PassesOwn.never (I_rng1 T.z_range E_int) (G_name G rfl (.inl rfl) (.inl rfl) (by decide)) (B_cons hW (S_asg (own := [3]) (E_call G S.c8 hr S.b8_0 (A_cons (E_var rfl (.inl rfl) (by decide) (by decide)) (A_cons (E_lst (A_cons E_int (A_cons E_int (A_cons E_int (A_cons E_int A_nil))))) A_nil)) K_nil) (G_name G rfl (.inl rfl) (.inl rfl) (by decide)))
  (B_cons hW (S_asg (own := [4]) (E_call G S.c15 hr S.b15_0 (A_cons (E_var rfl (.inl rfl) (by decide) (by decide)) (A_cons (E_var rfl (.inl rfl) (by decide) (by decide)) A_nil)) K_nil) (G_name G rfl (.inl rfl) (.inl rfl) (by decide)))
  (B_cons hW (S_ifs (T_w (W_or (T_not (T_val (E_call G S.c21 hr S.b21_0 (A_cons (E_var rfl (.inl rfl) (by decide) (by decide)) (A_cons (E_var rfl (.inl rfl) (by decide) (by decide)) A_nil)) K_nil))) (W_or1 (T_not (T_val (E_call G S.c13 hr S.b13_0 (A_cons (E_var rfl (.inl rfl) (by decide) (by decide)) (A_cons (E_var rfl (.inl rfl) (by decide) (by decide)) A_nil)) K_nil)))))) (B_cons hW (S_ret E_bl)
  B_nil) B_nil)
  (B_cons hW (S_for (own := [5]) G hW PassesOwn.never (I_rng1 T.z_range E_int) (G_name G rfl (.inl rfl) (.inl rfl) (by decide)) (B_cons hW (S_ifs (T_not (T_val (E_call G S.c21 hr S.b21_0 (A_cons (E_var rfl (.inl rfl) (by decide) (by decide)) (A_cons (E_call G S.c19 hr S.b19_0 (A_cons (E_var rfl (.inl rfl) (by decide) (by decide)) (A_cons (E_var rfl (.inl rfl) (by decide) (by decide)) (A_cons (E_var rfl (.inl rfl) (by decide) (by decide)) A_nil))) K_nil) A_nil)) K_nil))) (B_cons hW (S_ret E_bl)
  B_nil) B_nil)
  B_nil))
  B_nil)))))
  (B_cons hW (S_asg (own := [6]) (E_lst (A_cons E_non (A_cons E_int (A_cons E_bl (A_cons E_str (A_cons (E_tup A_nil) (A_cons (E_tup (A_cons E_str A_nil)) (A_cons (E_lst A_nil) (A_cons E_dct0 (A_cons (E_tup (A_cons E_str (A_cons E_int (A_cons E_int A_nil)))) (A_cons (E_tup (A_cons E_int (A_cons E_int (A_cons E_int (A_cons E_int A_nil))))) A_nil))))))))))) (G_name G rfl (.inl rfl) (.inl rfl) (by decide)))
  (B_cons hW (S_exp (E_mth .append (E_var rfl (.inl rfl) (by decide) (by decide)) (A_cons (E_tup (A_cons (E_tup A_nil) (A_cons (E_tup A_nil) (A_cons (E_tup A_nil) (A_cons (E_tup A_nil) A_nil))))) A_nil)))
  (B_cons hW (S_ifs (T_not (T_val (E_call G S.c21 hr S.b21_0 (A_cons (E_var rfl (.inl rfl) (by decide) (by decide)) (A_cons (E_call G S.c8 hr S.b8_0 (A_cons (E_var rfl (.inl rfl) (by decide) (by decide)) (A_cons (E_var rfl (.inl rfl) (by decide) (by decide)) A_nil)) K_nil) A_nil)) K_nil))) (B_cons hW (S_ret E_bl)
  B_nil) B_nil)
  (B_cons hW (S_ret (E_call G S.c21 hr S.b21_0 (A_cons (E_var rfl (.inl rfl) (by decide) (by decide)) (A_cons (E_call G S.c20 hr S.b20_0 (A_cons (E_var rfl (.inl rfl) (by decide) (by decide)) (A_cons (E_var rfl (.inl rfl) (by decide) (by decide)) A_nil)) K_nil) A_nil)) K_nil))
  B_nil))))))
end

theorem all_mk {l : PySem.W.OpenLaw} {w : World} {K : PySem.W.Frag} {h : Heap} {mg : Str → Option Value} {fa g0 g1 g2 g3 g4 g5 g6 g7 g8 g9 g10 g11 g12 g13 g14 g15 g16 g17 g18 g19 g20 g21 g22 : Addr} (X : K.In h) (hns : h.Ns mainGlobals mg) (hfa : mg "law" = some (.ref fa))
    {od0 an0 : Option Addr} {sl0 : Array (Option Value)} {oc0 kV0 dc0 pm0 cd0 ct0 : Value}
    (a0 : PySem.W.nsIn K mainGlobals "is_integer" = some (some (.ref g0))) (l0 : K.lookup g0 = some ⟨oc0, od0, .func (PySem.W.fnOf "is_integer" "is_integer" (defArgs s_is_integer) (defBody s_is_integer) (defScope s_is_integer) .none kV0 dc0 pm0 an0 cd0 ct0), sl0⟩) (c0 : PySem.W.codeIn K cd0 "is_integer" = true) (k0 : PySem.W.keepIn K (.ref g0) = true)
    {od1 an1 : Option Addr} {sl1 : Array (Option Value)} {oc1 kV1 dc1 pm1 cd1 ct1 : Value}
    (a1 : PySem.W.nsIn K mainGlobals "is_between" = some (some (.ref g1))) (l1 : K.lookup g1 = some ⟨oc1, od1, .func (PySem.W.fnOf "is_between" "is_between" (defArgs s_is_between) (defBody s_is_between) (defScope s_is_between) .none kV1 dc1 pm1 an1 cd1 ct1), sl1⟩) (c1 : PySem.W.codeIn K cd1 "is_between" = true) (k1 : PySem.W.keepIn K (.ref g1) = true)
    {od2 an2 : Option Addr} {sl2 : Array (Option Value)} {oc2 kV2 dc2 pm2 cd2 ct2 : Value}
    (a2 : PySem.W.nsIn K mainGlobals "is_way" = some (some (.ref g2))) (l2 : K.lookup g2 = some ⟨oc2, od2, .func (PySem.W.fnOf "is_way" "is_way" (defArgs s_is_way) (defBody s_is_way) (defScope s_is_way) .none kV2 dc2 pm2 an2 cd2 ct2), sl2⟩) (c2 : PySem.W.codeIn K cd2 "is_way" = true) (k2 : PySem.W.keepIn K (.ref g2) = true)
    {od3 an3 : Option Addr} {sl3 : Array (Option Value)} {oc3 kV3 dc3 pm3 cd3 ct3 : Value}
    (a3 : PySem.W.nsIn K mainGlobals "items_of" = some (some (.ref g3))) (l3 : K.lookup g3 = some ⟨oc3, od3, .func (PySem.W.fnOf "items_of" "items_of" (defArgs s_items_of) (defBody s_items_of) (defScope s_items_of) .none kV3 dc3 pm3 an3 cd3 ct3), sl3⟩) (c3 : PySem.W.codeIn K cd3 "items_of" = true) (k3 : PySem.W.keepIn K (.ref g3) = true)
    {od4 an4 : Option Addr} {sl4 : Array (Option Value)} {oc4 kV4 dc4 pm4 cd4 ct4 : Value}
    (a4 : PySem.W.nsIn K mainGlobals "is_table" = some (some (.ref g4))) (l4 : K.lookup g4 = some ⟨oc4, od4, .func (PySem.W.fnOf "is_table" "is_table" (defArgs s_is_table) (defBody s_is_table) (defScope s_is_table) .none kV4 dc4 pm4 an4 cd4 ct4), sl4⟩) (c4 : PySem.W.codeIn K cd4 "is_table" = true) (k4 : PySem.W.keepIn K (.ref g4) = true)
    {od5 an5 : Option Addr} {sl5 : Array (Option Value)} {oc5 kV5 dc5 pm5 cd5 ct5 : Value}
    (a5 : PySem.W.nsIn K mainGlobals "is_sweep" = some (some (.ref g5))) (l5 : K.lookup g5 = some ⟨oc5, od5, .func (PySem.W.fnOf "is_sweep" "is_sweep" (defArgs s_is_sweep) (defBody s_is_sweep) (defScope s_is_sweep) .none kV5 dc5 pm5 an5 cd5 ct5), sl5⟩) (c5 : PySem.W.codeIn K cd5 "is_sweep" = true) (k5 : PySem.W.keepIn K (.ref g5) = true)
    {od6 an6 : Option Addr} {sl6 : Array (Option Value)} {oc6 kV6 dc6 pm6 cd6 ct6 : Value}
    (a6 : PySem.W.nsIn K mainGlobals "_law_deck" = some (some (.ref g6))) (l6 : K.lookup g6 = some ⟨oc6, od6, .func (PySem.W.fnOf "_law_deck" "_law_deck" (defArgs s_l_deck) (defBody s_l_deck) (defScope s_l_deck) .none kV6 dc6 pm6 an6 cd6 ct6), sl6⟩) (c6 : PySem.W.codeIn K cd6 "_law_deck" = true) (k6 : PySem.W.keepIn K (.ref g6) = true)
    {od7 an7 : Option Addr} {sl7 : Array (Option Value)} {oc7 kV7 dc7 pm7 cd7 ct7 : Value}
    (a7 : PySem.W.nsIn K mainGlobals "_law_draw" = some (some (.ref g7))) (l7 : K.lookup g7 = some ⟨oc7, od7, .func (PySem.W.fnOf "_law_draw" "_law_draw" (defArgs s_l_draw) (defBody s_l_draw) (defScope s_l_draw) .none kV7 dc7 pm7 an7 cd7 ct7), sl7⟩) (c7 : PySem.W.codeIn K cd7 "_law_draw" = true) (k7 : PySem.W.keepIn K (.ref g7) = true)
    {od8 an8 : Option Addr} {sl8 : Array (Option Value)} {oc8 kV8 dc8 pm8 cd8 ct8 : Value}
    (a8 : PySem.W.nsIn K mainGlobals "_law_pick" = some (some (.ref g8))) (l8 : K.lookup g8 = some ⟨oc8, od8, .func (PySem.W.fnOf "_law_pick" "_law_pick" (defArgs s_l_pick) (defBody s_l_pick) (defScope s_l_pick) .none kV8 dc8 pm8 an8 cd8 ct8), sl8⟩) (c8 : PySem.W.codeIn K cd8 "_law_pick" = true) (k8 : PySem.W.keepIn K (.ref g8) = true)
    {od9 an9 : Option Addr} {sl9 : Array (Option Value)} {oc9 kV9 dc9 pm9 cd9 ct9 : Value}
    (a9 : PySem.W.nsIn K mainGlobals "_law_power" = some (some (.ref g9))) (l9 : K.lookup g9 = some ⟨oc9, od9, .func (PySem.W.fnOf "_law_power" "_law_power" (defArgs s_l_power) (defBody s_l_power) (defScope s_l_power) .none kV9 dc9 pm9 an9 cd9 ct9), sl9⟩) (c9 : PySem.W.codeIn K cd9 "_law_power" = true) (k9 : PySem.W.keepIn K (.ref g9) = true)
    {od10 an10 : Option Addr} {sl10 : Array (Option Value)} {oc10 kV10 dc10 pm10 cd10 ct10 : Value}
    (a10 : PySem.W.nsIn K mainGlobals "_law_items" = some (some (.ref g10))) (l10 : K.lookup g10 = some ⟨oc10, od10, .func (PySem.W.fnOf "_law_items" "_law_items" (defArgs s_l_items) (defBody s_l_items) (defScope s_l_items) .none kV10 dc10 pm10 an10 cd10 ct10), sl10⟩) (c10 : PySem.W.codeIn K cd10 "_law_items" = true) (k10 : PySem.W.keepIn K (.ref g10) = true)
    {od11 an11 : Option Addr} {sl11 : Array (Option Value)} {oc11 kV11 dc11 pm11 cd11 ct11 : Value}
    (a11 : PySem.W.nsIn K mainGlobals "_law_is_integer" = some (some (.ref g11))) (l11 : K.lookup g11 = some ⟨oc11, od11, .func (PySem.W.fnOf "_law_is_integer" "_law_is_integer" (defArgs s_l_is_integer) (defBody s_l_is_integer) (defScope s_l_is_integer) .none kV11 dc11 pm11 an11 cd11 ct11), sl11⟩) (c11 : PySem.W.codeIn K cd11 "_law_is_integer" = true) (k11 : PySem.W.keepIn K (.ref g11) = true)
    {od12 an12 : Option Addr} {sl12 : Array (Option Value)} {oc12 kV12 dc12 pm12 cd12 ct12 : Value}
    (a12 : PySem.W.nsIn K mainGlobals "_law_is_table" = some (some (.ref g12))) (l12 : K.lookup g12 = some ⟨oc12, od12, .func (PySem.W.fnOf "_law_is_table" "_law_is_table" (defArgs s_l_is_table) (defBody s_l_is_table) (defScope s_l_is_table) .none kV12 dc12 pm12 an12 cd12 ct12), sl12⟩) (c12 : PySem.W.codeIn K cd12 "_law_is_table" = true) (k12 : PySem.W.keepIn K (.ref g12) = true)
    {od13 an13 : Option Addr} {sl13 : Array (Option Value)} {oc13 kV13 dc13 pm13 cd13 ct13 : Value}
    (a13 : PySem.W.nsIn K mainGlobals "_law_due" = some (some (.ref g13))) (l13 : K.lookup g13 = some ⟨oc13, od13, .func (PySem.W.fnOf "_law_due" "_law_due" (defArgs s_l_due) (defBody s_l_due) (defScope s_l_due) .none kV13 dc13 pm13 an13 cd13 ct13), sl13⟩) (c13 : PySem.W.codeIn K cd13 "_law_due" = true) (k13 : PySem.W.keepIn K (.ref g13) = true)
    {od14 an14 : Option Addr} {sl14 : Array (Option Value)} {oc14 kV14 dc14 pm14 cd14 ct14 : Value}
    (a14 : PySem.W.nsIn K mainGlobals "_law_table" = some (some (.ref g14))) (l14 : K.lookup g14 = some ⟨oc14, od14, .func (PySem.W.fnOf "_law_table" "_law_table" (defArgs s_l_table) (defBody s_l_table) (defScope s_l_table) .none kV14 dc14 pm14 an14 cd14 ct14), sl14⟩) (c14 : PySem.W.codeIn K cd14 "_law_table" = true) (k14 : PySem.W.keepIn K (.ref g14) = true)
    {od15 an15 : Option Addr} {sl15 : Array (Option Value)} {oc15 kV15 dc15 pm15 cd15 ct15 : Value}
    (a15 : PySem.W.nsIn K mainGlobals "_law_machine" = some (some (.ref g15))) (l15 : K.lookup g15 = some ⟨oc15, od15, .func (PySem.W.fnOf "_law_machine" "_law_machine" (defArgs s_l_machine) (defBody s_l_machine) (defScope s_l_machine) .none kV15 dc15 pm15 an15 cd15 ct15), sl15⟩) (c15 : PySem.W.codeIn K cd15 "_law_machine" = true) (k15 : PySem.W.keepIn K (.ref g15) = true)
    {od16 an16 : Option Addr} {sl16 : Array (Option Value)} {oc16 kV16 dc16 pm16 cd16 ct16 : Value}
    (a16 : PySem.W.nsIn K mainGlobals "_law_put" = some (some (.ref g16))) (l16 : K.lookup g16 = some ⟨oc16, od16, .func (PySem.W.fnOf "_law_put" "_law_put" (defArgs s_l_put) (defBody s_l_put) (defScope s_l_put) .none kV16 dc16 pm16 an16 cd16 ct16), sl16⟩) (c16 : PySem.W.codeIn K cd16 "_law_put" = true) (k16 : PySem.W.keepIn K (.ref g16) = true)
    {od17 an17 : Option Addr} {sl17 : Array (Option Value)} {oc17 kV17 dc17 pm17 cd17 ct17 : Value}
    (a17 : PySem.W.nsIn K mainGlobals "_law_other" = some (some (.ref g17))) (l17 : K.lookup g17 = some ⟨oc17, od17, .func (PySem.W.fnOf "_law_other" "_law_other" (defArgs s_l_other) (defBody s_l_other) (defScope s_l_other) .none kV17 dc17 pm17 an17 cd17 ct17), sl17⟩) (c17 : PySem.W.codeIn K cd17 "_law_other" = true) (k17 : PySem.W.keepIn K (.ref g17) = true)
    {od18 an18 : Option Addr} {sl18 : Array (Option Value)} {oc18 kV18 dc18 pm18 cd18 ct18 : Value}
    (a18 : PySem.W.nsIn K mainGlobals "_law_bent_table" = some (some (.ref g18))) (l18 : K.lookup g18 = some ⟨oc18, od18, .func (PySem.W.fnOf "_law_bent_table" "_law_bent_table" (defArgs s_l_bent_table) (defBody s_l_bent_table) (defScope s_l_bent_table) .none kV18 dc18 pm18 an18 cd18 ct18), sl18⟩) (c18 : PySem.W.codeIn K cd18 "_law_bent_table" = true) (k18 : PySem.W.keepIn K (.ref g18) = true)
    {od19 an19 : Option Addr} {sl19 : Array (Option Value)} {oc19 kV19 dc19 pm19 cd19 ct19 : Value}
    (a19 : PySem.W.nsIn K mainGlobals "_law_bent" = some (some (.ref g19))) (l19 : K.lookup g19 = some ⟨oc19, od19, .func (PySem.W.fnOf "_law_bent" "_law_bent" (defArgs s_l_bent) (defBody s_l_bent) (defScope s_l_bent) .none kV19 dc19 pm19 an19 cd19 ct19), sl19⟩) (c19 : PySem.W.codeIn K cd19 "_law_bent" = true) (k19 : PySem.W.keepIn K (.ref g19) = true)
    {od20 an20 : Option Addr} {sl20 : Array (Option Value)} {oc20 kV20 dc20 pm20 cd20 ct20 : Value}
    (a20 : PySem.W.nsIn K mainGlobals "_law_great" = some (some (.ref g20))) (l20 : K.lookup g20 = some ⟨oc20, od20, .func (PySem.W.fnOf "_law_great" "_law_great" (defArgs s_l_great) (defBody s_l_great) (defScope s_l_great) .none kV20 dc20 pm20 an20 cd20 ct20), sl20⟩) (c20 : PySem.W.codeIn K cd20 "_law_great" = true) (k20 : PySem.W.keepIn K (.ref g20) = true)
    {od21 an21 : Option Addr} {sl21 : Array (Option Value)} {oc21 kV21 dc21 pm21 cd21 ct21 : Value}
    (a21 : PySem.W.nsIn K mainGlobals "_law_is_right" = some (some (.ref g21))) (l21 : K.lookup g21 = some ⟨oc21, od21, .func (PySem.W.fnOf "_law_is_right" "_law_is_right" (defArgs s_l_is_right) (defBody s_l_is_right) (defScope s_l_is_right) .none kV21 dc21 pm21 an21 cd21 ct21), sl21⟩) (c21 : PySem.W.codeIn K cd21 "_law_is_right" = true) (k21 : PySem.W.keepIn K (.ref g21) = true)
    {od22 an22 : Option Addr} {sl22 : Array (Option Value)} {oc22 kV22 dc22 pm22 cd22 ct22 : Value}
    (a22 : PySem.W.nsIn K mainGlobals "law" = some (some (.ref g22))) (l22 : K.lookup g22 = some ⟨oc22, od22, .func (PySem.W.fnOf "law" "law" (defArgs s_law) (defBody s_law) (defScope s_law) .none kV22 dc22 pm22 an22 cd22 ct22), sl22⟩) (c22 : PySem.W.codeIn K cd22 "law" = true) (k22 : PySem.W.keepIn K (.ref g22) = true)
    (z_all : PySem.W.nsIn K mainGlobals "all" = some none)
    (z_bool : PySem.W.nsIn K mainGlobals "bool" = some none)
    (z_int : PySem.W.nsIn K mainGlobals "int" = some none)
    (z_isinstance : PySem.W.nsIn K mainGlobals "isinstance" = some none)
    (z_len : PySem.W.nsIn K mainGlobals "len" = some none)
    (z_list : PySem.W.nsIn K mainGlobals "list" = some none)
    (z_min : PySem.W.nsIn K mainGlobals "min" = some none)
    (z_range : PySem.W.nsIn K mainGlobals "range" = some none)
    (z_repr : PySem.W.nsIn K mainGlobals "repr" = some none)
    (z_str : PySem.W.nsIn K mainGlobals "str" = some none)
    (z_tuple : PySem.W.nsIn K mainGlobals "tuple" = some none)
    {tk_LEFT : Tok} (n_LEFT : PySem.W.nsIn K mainGlobals "LEFT" = some (some (Value.str "left" tk_LEFT)))
    {tk_MOST_ITEMS : Tok} (n_MOST_ITEMS : PySem.W.nsIn K mainGlobals "MOST_ITEMS" = some (some (Value.int (100000) tk_MOST_ITEMS)))
    {tk_MOST_TABLES : Tok} (n_MOST_TABLES : PySem.W.nsIn K mainGlobals "MOST_TABLES" = some (some (Value.int (12) tk_MOST_TABLES)))
    {tk_NEVER : Tok} (n_NEVER : PySem.W.nsIn K mainGlobals "NEVER" = some (some (Value.int (-1) tk_NEVER)))
    {tk_RIGHT : Tok} (n_RIGHT : PySem.W.nsIn K mainGlobals "RIGHT" = some (some (Value.str "right" tk_RIGHT)))
    : ∃ fd : FuncData, (∀ (s : Shared) (v : Value), BindsTo s fd ⟨[v], []⟩ [("_law_script", v)]) ∧ ∀ base : Heap, K.In base → base.Ns mainGlobals mg → FnG l.prog w K mg base 12 fa fd ["_law_script"] (run prog 12 22) := by
  have e := hfa.symm.trans (PySem.W.mg_of X hns a22)
  cases e
  have T : Txt mg := ⟨PySem.W.mg_none_of X hns z_all, PySem.W.mg_none_of X hns z_bool, PySem.W.mg_none_of X hns z_int, PySem.W.mg_none_of X hns z_isinstance, PySem.W.mg_none_of X hns z_len, PySem.W.mg_none_of X hns z_list, PySem.W.mg_none_of X hns z_min, PySem.W.mg_none_of X hns z_range, PySem.W.mg_none_of X hns z_repr, PySem.W.mg_none_of X hns z_str, PySem.W.mg_none_of X hns z_tuple, ⟨_, PySem.W.mg_of X hns n_LEFT, ⟨_, rfl⟩⟩, ⟨_, PySem.W.mg_of X hns n_MOST_ITEMS, ⟨_, rfl⟩⟩, ⟨_, PySem.W.mg_of X hns n_MOST_TABLES, ⟨_, rfl⟩⟩, ⟨_, PySem.W.mg_of X hns n_NEVER, ⟨_, rfl⟩⟩, ⟨_, PySem.W.mg_of X hns n_RIGHT, ⟨_, rfl⟩⟩⟩
  refine ⟨PySem.W.fnOf "law" "law" (defArgs s_law) (defBody s_law) (defScope s_law) .none kV22 dc22 pm22 an22 cd22 ct22, fun s v => .of_eq rfl, fun base _ _ => ?_⟩
  have all : ∀ k : Nat, FnG l.prog w K mg base k g0 (PySem.W.fnOf "is_integer" "is_integer" (defArgs s_is_integer) (defBody s_is_integer) (defScope s_is_integer) .none kV0 dc0 pm0 an0 cd0 ct0) ["thing"] (run prog k 0) ∧ FnG l.prog w K mg base k g1 (PySem.W.fnOf "is_between" "is_between" (defArgs s_is_between) (defBody s_is_between) (defScope s_is_between) .none kV1 dc1 pm1 an1 cd1 ct1) ["thing", "least", "greatest"] (run prog k 1) ∧ FnG l.prog w K mg base k g2 (PySem.W.fnOf "is_way" "is_way" (defArgs s_is_way) (defBody s_is_way) (defScope s_is_way) .none kV2 dc2 pm2 an2 cd2 ct2) ["thing"] (run prog k 2) ∧ FnG l.prog w K mg base k g3 (PySem.W.fnOf "items_of" "items_of" (defArgs s_items_of) (defBody s_items_of) (defScope s_items_of) .none kV3 dc3 pm3 an3 cd3 ct3) ["signs", "purse", "width"] (run prog k 3) ∧ FnG l.prog w K mg base k g4 (PySem.W.fnOf "is_table" "is_table" (defArgs s_is_table) (defBody s_is_table) (defScope s_is_table) .none kV4 dc4 pm4 an4 cd4 ct4) ["many", "thing"] (run prog k 4) ∧ FnG l.prog w K mg base k g5 (PySem.W.fnOf "is_sweep" "is_sweep" (defArgs s_is_sweep) (defBody s_is_sweep) (defScope s_is_sweep) .none kV5 dc5 pm5 an5 cd5 ct5) ["signs", "thing"] (run prog k 5) ∧ FnG l.prog w K mg base k g6 (PySem.W.fnOf "_law_deck" "_law_deck" (defArgs s_l_deck) (defBody s_l_deck) (defScope s_l_deck) .none kV6 dc6 pm6 an6 cd6 ct6) ["_law_script"] (run prog k 6) ∧ FnG l.prog w K mg base k g7 (PySem.W.fnOf "_law_draw" "_law_draw" (defArgs s_l_draw) (defBody s_l_draw) (defScope s_l_draw) .none kV7 dc7 pm7 an7 cd7 ct7) ["_law_deck_here", "_law_below"] (run prog k 7) ∧ FnG l.prog w K mg base k g8 (PySem.W.fnOf "_law_pick" "_law_pick" (defArgs s_l_pick) (defBody s_l_pick) (defScope s_l_pick) .none kV8 dc8 pm8 an8 cd8 ct8) ["_law_deck_here", "_law_some"] (run prog k 8) ∧ FnG l.prog w K mg base k g9 (PySem.W.fnOf "_law_power" "_law_power" (defArgs s_l_power) (defBody s_l_power) (defScope s_l_power) .none kV9 dc9 pm9 an9 cd9 ct9) ["_law_many", "_law_size"] (run prog k 9) ∧ FnG l.prog w K mg base k g10 (PySem.W.fnOf "_law_items" "_law_items" (defArgs s_l_items) (defBody s_l_items) (defScope s_l_items) .none kV10 dc10 pm10 an10 cd10 ct10) ["_law_many", "_law_purse", "_law_width"] (run prog k 10) ∧ FnG l.prog w K mg base k g11 (PySem.W.fnOf "_law_is_integer" "_law_is_integer" (defArgs s_l_is_integer) (defBody s_l_is_integer) (defScope s_l_is_integer) .none kV11 dc11 pm11 an11 cd11 ct11) ["_law_value"] (run prog k 11) ∧ FnG l.prog w K mg base k g12 (PySem.W.fnOf "_law_is_table" "_law_is_table" (defArgs s_l_is_table) (defBody s_l_is_table) (defScope s_l_is_table) .none kV12 dc12 pm12 an12 cd12 ct12) ["_law_size", "_law_value"] (run prog k 12) ∧ FnG l.prog w K mg base k g13 (PySem.W.fnOf "_law_due" "_law_due" (defArgs s_l_due) (defBody s_l_due) (defScope s_l_due) .none kV13 dc13 pm13 an13 cd13 ct13) ["_law_many", "_law_value"] (run prog k 13) ∧ FnG l.prog w K mg base k g14 (PySem.W.fnOf "_law_table" "_law_table" (defArgs s_l_table) (defBody s_l_table) (defScope s_l_table) .none kV14 dc14 pm14 an14 cd14 ct14) ["_law_deck_here", "_law_size"] (run prog k 14) ∧ FnG l.prog w K mg base k g15 (PySem.W.fnOf "_law_machine" "_law_machine" (defArgs s_l_machine) (defBody s_l_machine) (defScope s_l_machine) .none kV15 dc15 pm15 an15 cd15 ct15) ["_law_deck_here", "_law_many"] (run prog k 15) ∧ FnG l.prog w K mg base k g16 (PySem.W.fnOf "_law_put" "_law_put" (defArgs s_l_put) (defBody s_l_put) (defScope s_l_put) .none kV16 dc16 pm16 an16 cd16 ct16) ["_law_some", "_law_at", "_law_value"] (run prog k 16) ∧ FnG l.prog w K mg base k g17 (PySem.W.fnOf "_law_other" "_law_other" (defArgs s_l_other) (defBody s_l_other) (defScope s_l_other) .none kV17 dc17 pm17 an17 cd17 ct17) ["_law_deck_here", "_law_value"] (run prog k 17) ∧ FnG l.prog w K mg base k g18 (PySem.W.fnOf "_law_bent_table" "_law_bent_table" (defArgs s_l_bent_table) (defBody s_l_bent_table) (defScope s_l_bent_table) .none kV18 dc18 pm18 an18 cd18 ct18) ["_law_deck_here", "_law_size", "_law_table_here"] (run prog k 18) ∧ FnG l.prog w K mg base k g19 (PySem.W.fnOf "_law_bent" "_law_bent" (defArgs s_l_bent) (defBody s_l_bent) (defScope s_l_bent) .none kV19 dc19 pm19 an19 cd19 ct19) ["_law_deck_here", "_law_many", "_law_machine_here"] (run prog k 19) ∧ FnG l.prog w K mg base k g20 (PySem.W.fnOf "_law_great" "_law_great" (defArgs s_l_great) (defBody s_l_great) (defScope s_l_great) .none kV20 dc20 pm20 an20 cd20 ct20) ["_law_deck_here", "_law_many"] (run prog k 20) ∧ FnG l.prog w K mg base k g21 (PySem.W.fnOf "_law_is_right" "_law_is_right" (defArgs s_l_is_right) (defBody s_l_is_right) (defScope s_l_is_right) .none kV21 dc21 pm21 an21 cd21 ct21) ["_law_many", "_law_value"] (run prog k 21) ∧ FnG l.prog w K mg base k fa (PySem.W.fnOf "law" "law" (defArgs s_law) (defBody s_law) (defScope s_law) .none kV22 dc22 pm22 an22 cd22 ct22) ["_law_script"] (run prog k 22) := by
    intro k
    induction k with
    | zero => exact ⟨fnG_zero, fnG_zero, fnG_zero, fnG_zero, fnG_zero, fnG_zero, fnG_zero, fnG_zero, fnG_zero, fnG_zero, fnG_zero, fnG_zero, fnG_zero, fnG_zero, fnG_zero, fnG_zero, fnG_zero, fnG_zero, fnG_zero, fnG_zero, fnG_zero, fnG_zero, fnG_zero⟩
    | succ k ih =>
      obtain ⟨h0, h1, h2, h3, h4, h5, h6, h7, h8, h9, h10, h11, h12, h13, h14, h15, h16, h17, h18, h19, h20, h21, h22⟩ := ih
      have S : Cs l.prog w K mg base k (fun i => match i with | 0 => g0 | 1 => g1 | 2 => g2 | 3 => g3 | 4 => g4 | 5 => g5 | 6 => g6 | 7 => g7 | 8 => g8 | 9 => g9 | 10 => g10 | 11 => g11 | 12 => g12 | 13 => g13 | 14 => g14 | 15 => g15 | 16 => g16 | 17 => g17 | 18 => g18 | 19 => g19 | 20 => g20 | 21 => g21 | 22 => fa | _ => 0) (fun i => match i with | 0 => PySem.W.fnOf "is_integer" "is_integer" (defArgs s_is_integer) (defBody s_is_integer) (defScope s_is_integer) .none kV0 dc0 pm0 an0 cd0 ct0 | 1 => PySem.W.fnOf "is_between" "is_between" (defArgs s_is_between) (defBody s_is_between) (defScope s_is_between) .none kV1 dc1 pm1 an1 cd1 ct1 | 2 => PySem.W.fnOf "is_way" "is_way" (defArgs s_is_way) (defBody s_is_way) (defScope s_is_way) .none kV2 dc2 pm2 an2 cd2 ct2 | 3 => PySem.W.fnOf "items_of" "items_of" (defArgs s_items_of) (defBody s_items_of) (defScope s_items_of) .none kV3 dc3 pm3 an3 cd3 ct3 | 4 => PySem.W.fnOf "is_table" "is_table" (defArgs s_is_table) (defBody s_is_table) (defScope s_is_table) .none kV4 dc4 pm4 an4 cd4 ct4 | 5 => PySem.W.fnOf "is_sweep" "is_sweep" (defArgs s_is_sweep) (defBody s_is_sweep) (defScope s_is_sweep) .none kV5 dc5 pm5 an5 cd5 ct5 | 6 => PySem.W.fnOf "_law_deck" "_law_deck" (defArgs s_l_deck) (defBody s_l_deck) (defScope s_l_deck) .none kV6 dc6 pm6 an6 cd6 ct6 | 7 => PySem.W.fnOf "_law_draw" "_law_draw" (defArgs s_l_draw) (defBody s_l_draw) (defScope s_l_draw) .none kV7 dc7 pm7 an7 cd7 ct7 | 8 => PySem.W.fnOf "_law_pick" "_law_pick" (defArgs s_l_pick) (defBody s_l_pick) (defScope s_l_pick) .none kV8 dc8 pm8 an8 cd8 ct8 | 9 => PySem.W.fnOf "_law_power" "_law_power" (defArgs s_l_power) (defBody s_l_power) (defScope s_l_power) .none kV9 dc9 pm9 an9 cd9 ct9 | 10 => PySem.W.fnOf "_law_items" "_law_items" (defArgs s_l_items) (defBody s_l_items) (defScope s_l_items) .none kV10 dc10 pm10 an10 cd10 ct10 | 11 => PySem.W.fnOf "_law_is_integer" "_law_is_integer" (defArgs s_l_is_integer) (defBody s_l_is_integer) (defScope s_l_is_integer) .none kV11 dc11 pm11 an11 cd11 ct11 | 12 => PySem.W.fnOf "_law_is_table" "_law_is_table" (defArgs s_l_is_table) (defBody s_l_is_table) (defScope s_l_is_table) .none kV12 dc12 pm12 an12 cd12 ct12 | 13 => PySem.W.fnOf "_law_due" "_law_due" (defArgs s_l_due) (defBody s_l_due) (defScope s_l_due) .none kV13 dc13 pm13 an13 cd13 ct13 | 14 => PySem.W.fnOf "_law_table" "_law_table" (defArgs s_l_table) (defBody s_l_table) (defScope s_l_table) .none kV14 dc14 pm14 an14 cd14 ct14 | 15 => PySem.W.fnOf "_law_machine" "_law_machine" (defArgs s_l_machine) (defBody s_l_machine) (defScope s_l_machine) .none kV15 dc15 pm15 an15 cd15 ct15 | 16 => PySem.W.fnOf "_law_put" "_law_put" (defArgs s_l_put) (defBody s_l_put) (defScope s_l_put) .none kV16 dc16 pm16 an16 cd16 ct16 | 17 => PySem.W.fnOf "_law_other" "_law_other" (defArgs s_l_other) (defBody s_l_other) (defScope s_l_other) .none kV17 dc17 pm17 an17 cd17 ct17 | 18 => PySem.W.fnOf "_law_bent_table" "_law_bent_table" (defArgs s_l_bent_table) (defBody s_l_bent_table) (defScope s_l_bent_table) .none kV18 dc18 pm18 an18 cd18 ct18 | 19 => PySem.W.fnOf "_law_bent" "_law_bent" (defArgs s_l_bent) (defBody s_l_bent) (defScope s_l_bent) .none kV19 dc19 pm19 an19 cd19 ct19 | 20 => PySem.W.fnOf "_law_great" "_law_great" (defArgs s_l_great) (defBody s_l_great) (defScope s_l_great) .none kV20 dc20 pm20 an20 cd20 ct20 | 21 => PySem.W.fnOf "_law_is_right" "_law_is_right" (defArgs s_l_is_right) (defBody s_l_is_right) (defScope s_l_is_right) .none kV21 dc21 pm21 an21 cd21 ct21 | 22 => PySem.W.fnOf "law" "law" (defArgs s_law) (defBody s_law) (defScope s_law) .none kV22 dc22 pm22 an22 cd22 ct22 | _ => PySem.W.fnOf "law" "law" (defArgs s_law) (defBody s_law) (defScope s_law) .none kV22 dc22 pm22 an22 cd22 ct22) := ⟨
        ⟨h0, PySem.W.mg_of X hns a0, k0⟩,
        fun s us ws zs _ e1 e2 e3 => match us, ws, e1, e2, e3 with | [_], [], _, _, e => by cases e; exact ⟨.of_eq rfl, rfl⟩,
        ⟨h1, PySem.W.mg_of X hns a1, k1⟩,
        fun s us ws zs _ e1 e2 e3 => match us, ws, e1, e2, e3 with | [_, _, _], [], _, _, e => by cases e; exact ⟨.of_eq rfl, rfl⟩,
        ⟨h2, PySem.W.mg_of X hns a2, k2⟩,
        fun s us ws zs _ e1 e2 e3 => match us, ws, e1, e2, e3 with | [_], [], _, _, e => by cases e; exact ⟨.of_eq rfl, rfl⟩,
        ⟨h3, PySem.W.mg_of X hns a3, k3⟩,
        fun s us ws zs _ e1 e2 e3 => match us, ws, e1, e2, e3 with | [_, _, _], [], _, _, e => by cases e; exact ⟨.of_eq rfl, rfl⟩,
        ⟨h4, PySem.W.mg_of X hns a4, k4⟩,
        fun s us ws zs _ e1 e2 e3 => match us, ws, e1, e2, e3 with | [_, _], [], _, _, e => by cases e; exact ⟨.of_eq rfl, rfl⟩,
        ⟨h5, PySem.W.mg_of X hns a5, k5⟩,
        fun s us ws zs _ e1 e2 e3 => match us, ws, e1, e2, e3 with | [_, _], [], _, _, e => by cases e; exact ⟨.of_eq rfl, rfl⟩,
        fun s us ws zs _ e1 e2 e3 => match us, ws, e1, e2, e3 with | [], [_, _], _, _, e => by cases e; exact ⟨.of_eq rfl, rfl⟩,
        ⟨h6, PySem.W.mg_of X hns a6, k6⟩,
        fun s us ws zs _ e1 e2 e3 => match us, ws, e1, e2, e3 with | [_], [], _, _, e => by cases e; exact ⟨.of_eq rfl, rfl⟩,
        ⟨h7, PySem.W.mg_of X hns a7, k7⟩,
        fun s us ws zs _ e1 e2 e3 => match us, ws, e1, e2, e3 with | [_, _], [], _, _, e => by cases e; exact ⟨.of_eq rfl, rfl⟩,
        ⟨h8, PySem.W.mg_of X hns a8, k8⟩,
        fun s us ws zs _ e1 e2 e3 => match us, ws, e1, e2, e3 with | [_, _], [], _, _, e => by cases e; exact ⟨.of_eq rfl, rfl⟩,
        ⟨h9, PySem.W.mg_of X hns a9, k9⟩,
        fun s us ws zs _ e1 e2 e3 => match us, ws, e1, e2, e3 with | [_, _], [], _, _, e => by cases e; exact ⟨.of_eq rfl, rfl⟩,
        ⟨h10, PySem.W.mg_of X hns a10, k10⟩,
        fun s us ws zs _ e1 e2 e3 => match us, ws, e1, e2, e3 with | [_, _, _], [], _, _, e => by cases e; exact ⟨.of_eq rfl, rfl⟩,
        ⟨h11, PySem.W.mg_of X hns a11, k11⟩,
        fun s us ws zs _ e1 e2 e3 => match us, ws, e1, e2, e3 with | [_], [], _, _, e => by cases e; exact ⟨.of_eq rfl, rfl⟩,
        ⟨h12, PySem.W.mg_of X hns a12, k12⟩,
        fun s us ws zs _ e1 e2 e3 => match us, ws, e1, e2, e3 with | [_, _], [], _, _, e => by cases e; exact ⟨.of_eq rfl, rfl⟩,
        ⟨h13, PySem.W.mg_of X hns a13, k13⟩,
        fun s us ws zs _ e1 e2 e3 => match us, ws, e1, e2, e3 with | [_, _], [], _, _, e => by cases e; exact ⟨.of_eq rfl, rfl⟩,
        ⟨h14, PySem.W.mg_of X hns a14, k14⟩,
        fun s us ws zs _ e1 e2 e3 => match us, ws, e1, e2, e3 with | [_, _], [], _, _, e => by cases e; exact ⟨.of_eq rfl, rfl⟩,
        ⟨h15, PySem.W.mg_of X hns a15, k15⟩,
        fun s us ws zs _ e1 e2 e3 => match us, ws, e1, e2, e3 with | [_, _], [], _, _, e => by cases e; exact ⟨.of_eq rfl, rfl⟩,
        ⟨h16, PySem.W.mg_of X hns a16, k16⟩,
        fun s us ws zs _ e1 e2 e3 => match us, ws, e1, e2, e3 with | [_, _, _], [], _, _, e => by cases e; exact ⟨.of_eq rfl, rfl⟩,
        ⟨h17, PySem.W.mg_of X hns a17, k17⟩,
        fun s us ws zs _ e1 e2 e3 => match us, ws, e1, e2, e3 with | [_, _], [], _, _, e => by cases e; exact ⟨.of_eq rfl, rfl⟩,
        ⟨h18, PySem.W.mg_of X hns a18, k18⟩,
        fun s us ws zs _ e1 e2 e3 => match us, ws, e1, e2, e3 with | [_, _, _], [], _, _, e => by cases e; exact ⟨.of_eq rfl, rfl⟩,
        ⟨h19, PySem.W.mg_of X hns a19, k19⟩,
        fun s us ws zs _ e1 e2 e3 => match us, ws, e1, e2, e3 with | [_, _, _], [], _, _, e => by cases e; exact ⟨.of_eq rfl, rfl⟩,
        ⟨h20, PySem.W.mg_of X hns a20, k20⟩,
        fun s us ws zs _ e1 e2 e3 => match us, ws, e1, e2, e3 with | [_, _], [], _, _, e => by cases e; exact ⟨.of_eq rfl, rfl⟩,
        ⟨h21, PySem.W.mg_of X hns a21, k21⟩,
        fun s us ws zs _ e1 e2 e3 => match us, ws, e1, e2, e3 with | [_, _], [], _, _, e => by cases e; exact ⟨.of_eq rfl, rfl⟩,
        ⟨h22, PySem.W.mg_of X hns a22, k22⟩⟩
      exact ⟨fnG_of l0 c0 sc_is_integer rfl rfl fun W A outer s H hW hr hg => w_is_integer S T hW hr hg,
        fnG_of l1 c1 sc_is_between rfl rfl fun W A outer s H hW hr hg => w_is_between S T hW hr hg,
        fnG_of l2 c2 sc_is_way rfl rfl fun W A outer s H hW hr hg => w_is_way S T hW hr hg,
        fnG_of l3 c3 sc_items_of rfl rfl fun W A outer s H hW hr hg => w_items_of S T hW hr hg,
        fnG_of l4 c4 sc_is_table rfl rfl fun W A outer s H hW hr hg => w_is_table S T hW hr hg,
        fnG_of l5 c5 sc_is_sweep rfl rfl fun W A outer s H hW hr hg => w_is_sweep S T hW hr hg,
        fnG_of l6 c6 sc_l_deck rfl rfl fun W A outer s H hW hr hg => w_l_deck S T hW hr hg,
        fnG_of l7 c7 sc_l_draw rfl rfl fun W A outer s H hW hr hg => w_l_draw S T hW hr hg,
        fnG_of l8 c8 sc_l_pick rfl rfl fun W A outer s H hW hr hg => w_l_pick S T hW hr hg,
        fnG_of l9 c9 sc_l_power rfl rfl fun W A outer s H hW hr hg => w_l_power S T hW hr hg,
        fnG_of l10 c10 sc_l_items rfl rfl fun W A outer s H hW hr hg => w_l_items S T hW hr hg,
        fnG_of l11 c11 sc_l_is_integer rfl rfl fun W A outer s H hW hr hg => w_l_is_integer S T hW hr hg,
        fnG_of l12 c12 sc_l_is_table rfl rfl fun W A outer s H hW hr hg => w_l_is_table S T hW hr hg,
        fnG_of l13 c13 sc_l_due rfl rfl fun W A outer s H hW hr hg => w_l_due S T hW hr hg,
        fnG_of l14 c14 sc_l_table rfl rfl fun W A outer s H hW hr hg => w_l_table S T hW hr hg,
        fnG_of l15 c15 sc_l_machine rfl rfl fun W A outer s H hW hr hg => w_l_machine S T hW hr hg,
        fnG_of l16 c16 sc_l_put rfl rfl fun W A outer s H hW hr hg => w_l_put S T hW hr hg,
        fnG_of l17 c17 sc_l_other rfl rfl fun W A outer s H hW hr hg => w_l_other S T hW hr hg,
        fnG_of l18 c18 sc_l_bent_table rfl rfl fun W A outer s H hW hr hg => w_l_bent_table S T hW hr hg,
        fnG_of l19 c19 sc_l_bent rfl rfl fun W A outer s H hW hr hg => w_l_bent S T hW hr hg,
        fnG_of l20 c20 sc_l_great rfl rfl fun W A outer s H hW hr hg => w_l_great S T hW hr hg,
        fnG_of l21 c21 sc_l_is_right rfl rfl fun W A outer s H hW hr hg => w_l_is_right S T hW hr hg,
        fnG_of l22 c22 sc_law rfl rfl fun W A outer s H hW hr hg => w_law S T hW hr hg⟩
  obtain ⟨h0, h1, h2, h3, h4, h5, h6, h7, h8, h9, h10, h11, h12, h13, h14, h15, h16, h17, h18, h19, h20, h21, h22⟩ := all 12
  exact h22
end K35
set_option maxRecDepth 100000 in
set_option maxHeartbeats 0 in
open PySem PySem.W PyProof.Rows in
theorem PySem.Challenge.cw_twostrokes_k35_sweeps_of_any_value_holds : PySem.Challenge.rw_twostrokes_k35_sweeps_of_any_value.Holds := by
  w_on; o_law; k_head; (case hw => w_witness2)
  k_fill
  refine Mv.walkG (l := PySem.Challenge.rw_twostrokes_k35_sweeps_of_any_value) (n := 63) (k := 12) (x := "_law_script") (Rl := Mv.run K35.prog 12 22) rfl (by decide) rfl ⟨rfl, by decide, by decide⟩ (fun w h Y => PySem.W.kIn_of Y) ?F K35.law_ok
  case F =>
    intro w mg fa h KX G hmg
    refine' K35.all_mk KX G hmg ?a0 ?l0 ?c0 ?k0 ?a1 ?l1 ?c1 ?k1 ?a2 ?l2 ?c2 ?k2 ?a3 ?l3 ?c3 ?k3 ?a4 ?l4 ?c4 ?k4 ?a5 ?l5 ?c5 ?k5 ?a6 ?l6 ?c6 ?k6 ?a7 ?l7 ?c7 ?k7 ?a8 ?l8 ?c8 ?k8 ?a9 ?l9 ?c9 ?k9 ?a10 ?l10 ?c10 ?k10 ?a11 ?l11 ?c11 ?k11 ?a12 ?l12 ?c12 ?k12 ?a13 ?l13 ?c13 ?k13 ?a14 ?l14 ?c14 ?k14 ?a15 ?l15 ?c15 ?k15 ?a16 ?l16 ?c16 ?k16 ?a17 ?l17 ?c17 ?k17 ?a18 ?l18 ?c18 ?k18 ?a19 ?l19 ?c19 ?k19 ?a20 ?l20 ?c20 ?k20 ?a21 ?l21 ?c21 ?k21 ?a22 ?l22 ?c22 ?k22 ?z_all ?z_bool ?z_int ?z_isinstance ?z_len ?z_list ?z_min ?z_range ?z_repr ?z_str ?z_tuple ?n_LEFT ?n_MOST_ITEMS ?n_MOST_TABLES ?n_NEVER ?n_RIGHT
    (case a0 => k_is)
    (case l0 => k_is)
    (case c0 => k_is)
    (case k0 => k_is)
    (case a1 => k_is)
    (case l1 => k_is)
    (case c1 => k_is)
    (case k1 => k_is)
    (case a2 => k_is)
    (case l2 => k_is)
    (case c2 => k_is)
    (case k2 => k_is)
    (case a3 => k_is)
    (case l3 => k_is)
    (case c3 => k_is)
    (case k3 => k_is)
    (case a4 => k_is)
    (case l4 => k_is)
    (case c4 => k_is)
    (case k4 => k_is)
    (case a5 => k_is)
    (case l5 => k_is)
    (case c5 => k_is)
    (case k5 => k_is)
    (case a6 => k_is)
    (case l6 => k_is)
    (case c6 => k_is)
    (case k6 => k_is)
    (case a7 => k_is)
    (case l7 => k_is)
    (case c7 => k_is)
    (case k7 => k_is)
    (case a8 => k_is)
    (case l8 => k_is)
    (case c8 => k_is)
    (case k8 => k_is)
    (case a9 => k_is)
    (case l9 => k_is)
    (case c9 => k_is)
    (case k9 => k_is)
    (case a10 => k_is)
    (case l10 => k_is)
    (case c10 => k_is)
    (case k10 => k_is)
    (case a11 => k_is)
    (case l11 => k_is)
    (case c11 => k_is)
    (case k11 => k_is)
    (case a12 => k_is)
    (case l12 => k_is)
    (case c12 => k_is)
    (case k12 => k_is)
    (case a13 => k_is)
    (case l13 => k_is)
    (case c13 => k_is)
    (case k13 => k_is)
    (case a14 => k_is)
    (case l14 => k_is)
    (case c14 => k_is)
    (case k14 => k_is)
    (case a15 => k_is)
    (case l15 => k_is)
    (case c15 => k_is)
    (case k15 => k_is)
    (case a16 => k_is)
    (case l16 => k_is)
    (case c16 => k_is)
    (case k16 => k_is)
    (case a17 => k_is)
    (case l17 => k_is)
    (case c17 => k_is)
    (case k17 => k_is)
    (case a18 => k_is)
    (case l18 => k_is)
    (case c18 => k_is)
    (case k18 => k_is)
    (case a19 => k_is)
    (case l19 => k_is)
    (case c19 => k_is)
    (case k19 => k_is)
    (case a20 => k_is)
    (case l20 => k_is)
    (case c20 => k_is)
    (case k20 => k_is)
    (case a21 => k_is)
    (case l21 => k_is)
    (case c21 => k_is)
    (case k21 => k_is)
    (case a22 => k_is)
    (case l22 => k_is)
    (case c22 => k_is)
    (case k22 => k_is)
    (case z_all => k_is)
    (case z_bool => k_is)
    (case z_int => k_is)
    (case z_isinstance => k_is)
    (case z_len => k_is)
    (case z_list => k_is)
    (case z_min => k_is)
    (case z_range => k_is)
    (case z_repr => k_is)
    (case z_str => k_is)
    (case z_tuple => k_is)
    (case n_LEFT => k_is)
    (case n_MOST_ITEMS => k_is)
    (case n_MOST_TABLES => k_is)
    (case n_NEVER => k_is)
    (case n_RIGHT => k_is)

