import PyProof.Rows.All
import PyProof.Lay0
import PyProof.EqLayable
import PyProof.ReprRoads
import Wide.All
import OpenK.AllK
import Wide.FinOn
import HandS.ForMost
import HandS.TupAny
import HandS.SetKeys
import HandS.ExcInit
import HandS.ExcValue
import KE.LtSeq
import KE.DataMinMax
import KE.GoesMore
import HandS.Defaults
import HandS.Ends
import HandS.HeadEnd
import HandS.CallLocal
import HandS.TupMul
import PyProof.StrOps2
import HandS.IsInst
import HandS.TupLe
import HandS.Deep
import HandS.Flow
import HandS.NoneIn
import HandS.HeadWalk
import HandS.Walk
import HandS.Zip
import HandS.Rev
import HandS.DictComp
import HandS.Style
import HandS.SortInts
import HandS.WordsDict
import HandS.TupLen
import PyProof.TupleOfStr
import HandS.ExcField
import KE.KExcIs
import HandS.More
import HandS.Strs
import HandS.Words
import HandS.Head0
import HandS.Head1
import HandS.Head2
import HandS.HeadHook1
import HandS.HeadHook2
import HandS.HeadHook3
import HandS.HeadHook4
import KE.KStateDown
import PySem.Challenge.RW_codelots_k02_plain_forms
import PyProof.ReprBulk
set_option Elab.async false
set_option linter.all false
set_option maxRecDepth 100000
set_option maxHeartbeats 0
/-! LotA: a small language of the program's and the laws' own kind: its values, memory, terms, and what a term evaluates to. -/
namespace Lot
open PySem

/-- data (a dict: its items as pairs, t: whether its keys are tuples; an instance that no longer changes) -/
inductive P where
  | non | bl (b : Bool) | int (i : Int) | str (s : Str) | tup (l : List P) | lst (l : List P) | dic (t : Bool) (l : List P) | set (l : List P) | ins (c : Nat) (fs : List P) | exc (c : Nat) (fs : List P)
  deriving Inhabited

/-- a value: data; an object of the memory (k = 0) or the own object of its field k - 1; a def; the law's script; a tuple of the module's top -/
inductive D where
  | p (x : P) | ref (n k : Nat) | fn (i : Nat) | scr (l : List Int) | gt (l : List P)

/-- an object that may change: a list, dict or set by what it holds; an instance, its fields data (false) or objects of its own (true) -/
inductive Obj where
  | val (x : P) | ins (c : Nat) (fs : List (Bool × P)) | dead

abbrev Mem := List Obj

inductive Out (α : Type) where
  | ok (a : α) (m : Mem) | exn (c : Nat) (xs : List P) (m : Mem) | bad

def Out.bind {α β : Type} (o : Out α) (f : α → Mem → Out β) : Out β := match o with
  | .ok a m => f a m
  | .exn c xs m => .exn c xs m
  | .bad => .bad
def Out.of {α : Type} (o : Option α) (m : Mem) : Out α := match o with
  | some a => .ok a m
  | none => .bad

@[simp] theorem Out.bind_ok {α β : Type} (a : α) (m : Mem) (f : α → Mem → Out β) : (Out.ok a m).bind f = f a m := rfl
@[simp] theorem Out.bind_bad {α β : Type} (f : α → Mem → Out β) : (Out.bad : Out α).bind f = .bad := rfl
@[simp] theorem Out.bind_exn {α β : Type} (c : Nat) (xs : List P) (m : Mem) (f : α → Mem → Out β) : (Out.exn c xs m : Out α).bind f = .exn c xs m := rfl
@[simp] theorem Out.of_some {α : Type} (a : α) (m : Mem) : Out.of (some a) m = .ok a m := rfl
@[simp] theorem Out.of_none {α : Type} (m : Mem) : (Out.of (none : Option α) m) = .bad := rfl

/-- the longest list -/
def line : Nat := 16777216

abbrev Env := List (Option D)

inductive BOp | add | sub | mul | fdiv | mod | pow
inductive COp | eq | ne | lt | le | gt | ge | is | isnot | inn | notin
inductive Ty | tInt | tStr | tBool | tTup | tLst | tDic
inductive Pr | len | sorted | tuple | list | set | dict | all | any | sum | int | bool | repr | min | max | lenset | sortset | isi (ts : List Ty)
inductive Bm | append | add | get1 | get2 | join | pop | popAt | insert | index | extend | clear | setdefault | count
/-- targets -/
inductive Tg | nm (i : Nat) | tp (l : List Nat)

mutual
inductive CE where
  | var (i : Nat) | lit (x : P) | gint (x : Str) (i : Int) | gstr (x : Str) (s : Str) | gtup (x : Str) (l : List P) | gfn (i : Nat)
  | tup (es : CEs) | lst (es : CEs) | ndict (t : Bool) | ddict (ks vs : CEs)
  | alloc (e : CE) | frz (e : CE)
  | bin (op : BOp) (a b : CE) | neg (a : CE) | not (a : CE) | cmp (op : COp) (a b : CE) | chain (op1 op2 : COp) (a b c : CE)
  | and (es : CEs) | or (es : CEs) | ife (c a b : CE)
  | call (f : Nat) (es : CEs) | callv (i : Nat) (es : CEs) | new (c : Nat) (es : CEs) | meth (c : Nat) (o : CE) (m : Nat) (es : CEs) | fld (c : Nat) (o : CE) (f : Nat)
  | prim (p : Pr) (es : CEs) | bmeth (m : Bm) (o : CE) (es : CEs) | gidx (x : Str) (l : List P) (e : CE)
  | mkx (c : Nat) (own : Option Nat) (es : CEs) | isx (n : Nat) (js : List Nat) (a : CE) | fldx (f : Str) (cks : List (Nat × Nat)) (a : CE)
  | nob | ix (o i : CE) | gix (x : Str) (kvs : List (Str × List P)) (i : CE) | gin (x : Str) (ks : List Str) (i : CE) | slice (o lo hi : CE) | rev (o : CE)
  | comp (elt : CE) (tg : Tg) (it : CI) (ifs : CEs)
  | comp2 (elt : CE) (tg : Tg) (it : CI) (ifs : CEs) (tg2 : Tg) (it2 : CI) (ifs2 : CEs)
  | dcomp (k v : CE) (t : Bool) (tg : Tg) (it : CI) (ifs : CEs)
inductive CEs where
  | nil | cons (e : CE) (es : CEs)
/-- what is walked -/
inductive CI where
  | seq (e : CE) | rng (a b : CE) | rng1 (a : CE) | enum (e : CE) | zip (a b : CE) (strict : Bool) | revd (e : CE) | items (e : CE)
end

mutual
inductive CS where
  | expr (e : CE) | set (i : Nat) (e : CE) | setc (i : Nat) (e : CE) | unp (is : List Nat) (e : CE) | par (is : List Nat) (es : CEs)
  | setix (o i e : CE) | setfld (c : Nat) (o : CE) (f : Nat) (e : CE) | aug (i : Nat) (op : BOp) (e : CE)
  | ift (c : CE) (a b : CSs) | for (tg : Tg) (it : CI) (body : CSs) | while (c : CE) (body : CSs)
  | ret (e : CE) | retn | brk | cont | pass | raise (c : Nat) (es : CEs)
inductive CSs where
  | nil | cons (s : CS) (ss : CSs)
end

/-- how a statement ends -/
inductive Fl where
  | nx (ρ : Env) | rt (d : D) | bk (ρ : Env) | ct (ρ : Env)

def getM (m : Mem) (n : Nat) : Obj := (m[n]?).getD .dead

/-- what an object of the memory holds -/
def cell (m : Mem) (n k : Nat) : Option P := match getM m n, k with
  | .val x, 0 => some x
  | .ins _ fs, k + 1 => match fs[k]? with
    | some (true, x) => some x
    | _ => none
  | _, _ => none
def setCell (m : Mem) (n k : Nat) (x : P) : Mem := match getM m n, k with
  | .val _, 0 => m.set n (.val x)
  | .ins c fs, k + 1 => m.set n (.ins c (fs.set k (true, x)))
  | _, _ => m
/-- data that a value is read as -/
def rd : D → Mem → Option P
  | .p x, _ => some x
  | .ref n k, m => cell m n k
  | _, _ => none

/-- .. also off a tuple of the top -/
def rg : D → Mem → Option P
  | .gt l, _ => some (.tup l)
  | d, m => rd d m

def seqOf : P → Option (List P)
  | .lst l => some l
  | .tup l => some l
  | _ => none

def truthP : P → Option Bool
  | .non => some false
  | .bl b => some b
  | .int i => some (i != 0)
  | .lst l => some (!l.isEmpty)
  | .tup l => some (!l.isEmpty)
  | _ => none
def truth (d : D) (m : Mem) : Option Bool := (rd d m).bind truthP

def signs (s : Str) : List P := s.cps.toList.map fun c => .str ⟨#[c]⟩

def addP : P → P → Option P
  | .int i, .int j => some (.int (i + j))
  | .str s, .str t => if s.length + t.length ≤ line then some (.str (s ++ t)) else none
  | .lst a, .lst b => if a.length + b.length ≤ line then some (.lst (a ++ b)) else none
  | .tup a, .tup b => if a.length + b.length ≤ line then some (.tup (a ++ b)) else none
  | _, _ => none
def subP : P → P → Option P
  | .int i, .int j => some (.int (i - j))
  | _, _ => none
def small64 (i : Int) : Bool := decide (-(2 ^ 64) < i) && decide (i < 2 ^ 64)
def mulP : P → P → Option P
  | .int i, .int j => if small64 i || small64 j then some (.int (i * j)) else none
  | .lst a, .int k => if decide (-(2 ^ 63) ≤ k) && decide (k < 2 ^ 63) && decide (a.length * k.toNat ≤ line) then some (.lst (List.replicate k.toNat a).flatten) else none
  | .str a, .int k => if decide (0 ≤ k) && decide (k ≤ 1000) && decide (a.length ≤ 1000) then some (.str ⟨(List.replicate k.toNat a.cps.toList).flatten.toArray⟩) else none
  | .tup a, .int k => if !a.isEmpty && decide (2 ≤ k) && decide (k ≤ 1000) && decide (a.length ≤ 1000) then some (.tup (List.replicate k.toNat a).flatten) else if a.isEmpty && decide (2 ≤ k) && decide (k ≤ 1000) then some (.tup []) else none
  | _, _ => none
def fdivP : P → P → Option P
  | .int i, .int j => if 0 < j ∧ j < 1073741824 then some (.int (i / j)) else none
  | _, _ => none
def modP : P → P → Option P
  | .int i, .int j => if 0 < j then some (.int (i % j)) else none
  | _, _ => none
def powP : P → P → Option P
  | .int i, .int j => if 0 ≤ j ∧ j ≤ 1000000 ∧ i.natAbs < 2 ^ 64 then some (.int (i ^ j.toNat)) else none
  | _, _ => none
def binP : BOp → P → P → Option P
  | .add => addP | .sub => subP | .mul => mulP | .fdiv => fdivP | .mod => modP | .pow => powP

mutual
/-- data that == and repr are asked of: no dict, set or instance in it; its texts plain -/
def flat : P → Bool
  | .non => true
  | .bl _ => true
  | .int _ => true
  | .str s => PyData.strOk s
  | .lst l => flats l
  | .tup l => flats l
  | _ => false
def flats : List P → Bool
  | [] => true
  | x :: r => flat x && flats r
end
mutual
def deep : P → Nat
  | .lst l => deeps l + 1
  | .tup l => deeps l + 1
  | _ => 0
def deeps : List P → Nat
  | [] => 0
  | x :: r => max (deep x) (deeps r)
end
mutual
/-- == of data -/
def eqP : P → P → Bool
  | .non, .non => true
  | .bl a, .bl b => a == b
  | .bl a, .int j => (if a then 1 else 0) == j
  | .int i, .bl b => i == (if b then 1 else 0)
  | .int i, .int j => i == j
  | .str x, .str y => x == y
  | .lst xs, .lst ys => eqPs xs ys
  | .tup xs, .tup ys => eqPs xs ys
  | _, _ => false
def eqPs : List P → List P → Bool
  | [], [] => true
  | x :: xs, y :: ys => eqP x y && eqPs xs ys
  | _, _ => false
end
def okD (x : P) : Bool := flat x && decide (deep x ≤ 64)
def sc : P → Bool
  | .non => true
  | .bl _ => true
  | .int _ => true
  | .str _ => true
  | _ => false
/-- data that == is asked of -/
def okEq (a b : P) : Bool := (sc a && sc b) || (okD a && okD b)

mutual
/-- < of data: the first places that differ -/
def ltW : P → P → Option Bool
  | .int i, .int j => some (decide (i < j))
  | .str s, .str t => some (decide (s.cps.toList < t.cps.toList))
  | .tup xs, .tup ys => ltWs xs ys
  | _, _ => none
def ltWs : List P → List P → Option Bool
  | [], [] => some false
  | [], _ :: _ => some true
  | _ :: _, [] => some false
  | x :: xs, y :: ys => if eqP x y then ltWs xs ys else ltW x y
end
def ltS : P → P → Option Bool
  | .int i, .int j => some (decide (i < j))
  | .str s, .str t => some (decide (s.cps.toList < t.cps.toList))
  | _, _ => none
def ltP : P → P → Option Bool
  | .int i, .int j => some (decide (i < j))
  | .str s, .str t => some (decide (s.cps.toList < t.cps.toList))
  | .tup xs, .tup ys => if okD (.tup xs) && okD (.tup ys) then ltWs xs ys else none
  | _, _ => none
/-- the first of the least -/
def minW (b : P) (l : List P) : P := l.foldl (fun a y => if ltP y a == some true then y else a) b
def isTupP : P → Bool
  | .tup _ => true
  | _ => false
def leP : P → P → Option Bool
  | .int i, .int j => some (decide (i ≤ j))
  | _, _ => none

def isNon : P → Bool
  | .non => true
  | _ => false
def isP : P → P → Option Bool
  | x, .non => some (isNon x)
  | .bl a, .bl b => some (a == b)
  | _, _ => none

/-- a key -/
abbrev Ky := Sum Int Str
def ky : P → Option Ky
  | .int i => some (.inl i)
  | .str s => some (.inr s)
  | _ => none
def kys : List P → Option (List Ky)
  | [] => some []
  | x :: r => match ky x, kys r with
    | some k, some ks => some (k :: ks)
    | _, _ => none
def kyT : P → Option (List Ky)
  | .tup l => kys l
  | _ => none
/-- a key of a dict of this kind -/
def kOk (t : Bool) (x : P) : Bool := if t then (kyT x).isSome else (ky x).isSome
def kEq (t : Bool) (a b : P) : Bool := if t then decide (kyT a = kyT b) else decide (ky a = ky b)
def keyOf : P → P
  | .tup [k, _] => k
  | _ => .non
def valOf : P → P
  | .tup [_, v] => v
  | _ => .non
def findK (t : Bool) (l : List P) (k : P) : Option P := (l.find? fun kv => kEq t (keyOf kv) k).map valOf
def putK (t : Bool) (l : List P) (k v : P) : List P := if (findK t l k).isSome then l.map fun kv => if kEq t (keyOf kv) k then .tup [keyOf kv, v] else kv else l ++ [.tup [k, v]]
def hasS (l : List P) (k : P) : Bool := l.any fun z => kEq false z k

def inP (x y : P) : Option Bool := match y with
  | .lst l => if (sc x && l.all sc) || (okD x && okD (.lst l)) then some (l.any fun z => eqP z x) else none
  | .tup l => if (sc x && l.all sc) || (okD x && okD (.tup l)) then some (l.any fun z => eqP z x) else none
  | .str t => match x with
    | .str s => match s.cps.toList with
      | [c] => some (decide (c ∈ t.cps.toList))
      | _ => none
    | _ => none
  | .dic t l => if kOk t x then some (findK t l x).isSome else (match t, x with | false, .non => some false | _, _ => none)
  | .set l => if kOk false x then some (hasS l x) else (match x with | .non => some false | _ => none)
  | _ => none

def cmpP (op : COp) (a b : P) : Option Bool := match op with
  | .is => isP a b
  | .isnot => (isP a b).map not
  | .inn => inP a b
  | .notin => (inP a b).map not
  | .eq => if okEq a b then some (eqP a b) else none
  | .ne => if okEq a b then some (!eqP a b) else none
  | .lt => ltP a b
  | .le => leP a b
  | .gt => ltS b a
  | .ge => leP b a
def isIn : COp → Bool
  | .inn => true
  | .notin => true
  | _ => false
def cmpD (op : COp) (x y : D) (m : Mem) : Option Bool := match (if isIn op then rd x m else rg x m), rg y m with
  | some a, some b => cmpP op a b
  | _, _ => none

/-- a place from the front or from behind -/
def ixN (n : Nat) (i : Int) : Option Nat := if 0 ≤ i then (if i < n then some i.toNat else none) else if -(n : Int) ≤ i then some (i + n).toNat else none
def atI {α : Type} (xs : List α) (i : Int) : Option α := (ixN xs.length i).bind fun j => xs[j]?
def sIx (n d : Nat) : Option Int → Nat
  | none => d
  | some v => if v < 0 then (v + n).toNat else min v.toNat n
def cut {α : Type} (xs : List α) (lo hi : Option Int) : List α := (xs.drop (sIx xs.length 0 lo)).take (sIx xs.length xs.length hi - sIx xs.length 0 lo)

def ixP : P → P → Option P
  | .lst l, .int i => atI l i
  | .tup l, .int i => atI l i
  | .str s, .int i => if s.length ≤ line then (atI s.cps.toList i).map fun c => .str ⟨#[c]⟩ else none
  | .dic t l, k => if kOk t k then findK t l k else none
  | _, _ => none
def ixD (o i : D) (m : Mem) : Option P := match rg o m, rd i m with
  | some x, some k => ixP x k
  | _, _ => none
def partOf : P → Option (Option Int)
  | .non => some none
  | .int i => some (some i)
  | _ => none
def sliceP (x : P) (lo hi : Option Int) : Option P := match x with
  | .lst l => some (.lst (cut l lo hi))
  | .tup l => some (.tup (cut l lo hi))
  | .str s => if s.length ≤ line then some (.str ⟨(cut s.cps.toList lo hi).toArray⟩) else none
  | _ => none
def sliceD (o : D) (lo hi : Option Int) (m : Mem) : Option P := match o with
  | .scr l => some (.lst (cut (l.map P.int) lo hi))
  | o => (rd o m).bind fun x => sliceP x lo hi

/-! ### built-ins -/
def asBls : List P → Option (List Bool)
  | [] => some []
  | .bl b :: r => (asBls r).map (b :: ·)
  | _ => none
def asInts : List P → Option (List Int)
  | [] => some []
  | .int b :: r => (asInts r).map (b :: ·)
  | _ => none
def asStrs : List P → Option (List Str)
  | [] => some []
  | .str b :: r => (asStrs r).map (b :: ·)
  | _ => none
def leI (a b : Int) : Bool := decide (a ≤ b)
def leS (a b : Str) : Bool := !decide (b.cps.toList < a.cps.toList)
/-- sorted -/
def sortP (l : List P) : Option (List P) := if line < l.length then none else match asInts l, asStrs l with
  | some ns, _ => some ((ns.mergeSort leI).map .int)
  | none, some ss => if ss.length < 64 then some ((ss.mergeSort leS).map .str) else none
  | none, none => none
/-- one of each -/
def once : List P → List P → List P
  | _, [] => []
  | seen, x :: r => if hasS seen x then once seen r else x :: once (seen ++ [x]) r
def isTy : Ty → P → Bool
  | .tInt, .int _ => true
  | .tInt, .bl _ => true
  | .tStr, .str _ => true
  | .tBool, .bl _ => true
  | .tTup, .tup _ => true
  | .tLst, .lst _ => true
  | .tDic, .dic _ _ => true
  | _, _ => false
/-- whose class is a built-in one -/
def hasTy : P → Bool
  | .set _ => false
  | .ins _ _ => false
  | .exc _ _ => false
  | _ => true
def lenP : P → Option Int
  | .lst l => some l.length
  | .tup l => some l.length
  | .str s => if s.length ≤ line then some s.length else none
  | .dic _ l => some l.length
  | _ => none
def joinS (sep : Str) : List Str → Str
  | [] => ⟨#[]⟩
  | [s] => s
  | s :: r => s ++ (sep ++ joinS sep r)

mutual
def toPy : P → PyData
  | .non => .none
  | .bl b => .bool b
  | .int i => .int i
  | .str s => .str s
  | .lst l => .list (toPys l)
  | .tup l => .tuple (toPys l)
  | _ => .none
def toPys : List P → List PyData
  | [] => []
  | x :: r => toPy x :: toPys r
end
/-- data that repr is asked of: a list or tuple, shown in a line's length -/
def repOk (x : P) : Bool := (match x with | .lst _ => true | .tup _ => true | _ => false) && flat x && decide (deep x ≤ 64) && (toPy x).showable && decide ((toPy x).shown.length ≤ sizeLine)
/-- a built-in of data -/
def primP : Pr → List P → Option P
  | .len, [x] => (lenP x).map P.int
  | .sorted, [x] => match x with
    | .lst l => (sortP l).map P.lst
    | _ => none
  | .tuple, [x] => match x with
    | .str s => if s.length ≤ 1000 then some (.tup (signs s)) else none
    | x => (seqOf x).map P.tup
  | .list, [x] => (seqOf x).map P.lst
  | .repr, [x] => if repOk x then some (.str (toPy x).shown) else none
  | .all, [.lst l] => (asBls l).map fun bs => .bl (bs.all id)
  | .any, [.lst l] => (asBls l).map fun bs => .bl (bs.any id)
  | .sum, [.lst l] => (asInts l).map fun ns => .int ns.sum
  | .int, [.bl b] => some (.int (if b then 1 else 0))
  | .int, [.int i] => some (.int i)
  | .min, [.int i, .int j] => some (.int (if j < i then j else i))
  | .max, [.int i, .int j] => some (.int (if i < j then j else i))
  | .min, [.lst (b :: l)] => if (b :: l).all fun x => isTupP x && (b :: l).all fun y => (ltP x y).isSome then some (minW b l) else none
  | .isi ts, [x] => if hasTy x then some (.bl (ts.any fun t => isTy t x)) else none
  | .lenset, [x] => (seqOf x).bind fun l => if l.all (kOk false) && decide (l.length < 4096) then some (.int (once [] l).length) else none
  | _, _ => none
def rds : List D → Mem → Option (List P)
  | [], _ => some []
  | d :: ds, m => match rd d m, rds ds m with
    | some x, some xs => some (x :: xs)
    | _, _ => none
def isPair (t : Bool) : P → Bool
  | .tup [k, _] => kOk t k
  | _ => false
/-- a built-in's call: a new list is data, a new set or dict an object of the memory -/
def pureO (p : Pr) (xs : List D) (m : Mem) : Out D := match rds xs m with
  | some ys => (Out.of (primP p ys) m).bind fun x m => .ok (.p x) m
  | none => .bad
def lenO (xs : List D) (m : Mem) : Out D := match xs with
  | [d] => (match rg d m with
    | some x => (Out.of (lenP x) m).bind fun i m => .ok (.p (.int i)) m
    | none => .bad)
  | _ => .bad
def setcO (xs : List D) (m : Mem) : Out D := match rds xs m with
  | some [x] => (match seqOf x with
    | some l => if l.all (kOk false) && decide (l.length < 4096) then .ok (.ref m.length 0) (m ++ [.val (.set (once [] l))]) else .bad
    | none => .bad)
  | _ => .bad
def dictO (xs : List D) (m : Mem) : Out D := match rds xs m with
  | some [.lst l] => if l.all (isPair false) && decide (l.length ≤ line) then .ok (.ref m.length 0) (m ++ [.val (.dic false (l.foldl (fun acc z => putK false acc (keyOf z) (valOf z)) []))]) else .bad
  | _ => .bad
def isiO (ts : List Ty) (d : D) (m : Mem) : Out D := match rg d m with
  | some x => if hasTy x then .ok (.p (.bl (ts.any fun t => isTy t x))) m else .bad
  | none => .bad
def isiL (ts : List Ty) (xs : List D) (m : Mem) : Out D := match xs with
  | [d] => isiO ts d m
  | _ => .bad
def primD (p : Pr) (xs : List D) (m : Mem) : Out D := match p with
  | .len => lenO xs m
  | .isi ts => isiL ts xs m
  | .set => setcO xs m
  | .dict => dictO xs m
  | p => pureO p xs m
/-- what a built-in method stands at: a list, a dict, a text -/
def bmTy : Bm → Nat
  | .append => 0
  | .insert => 0
  | .extend => 0
  | .index => 0
  | .get1 => 1
  | .get2 => 1
  | .join => 2
  | .popAt => 0
  | _ => 3
def bmT (b : Bm) (o : D) (m : Mem) : Bool := match rd o m with
  | some (.lst _) => bmTy b == 0
  | some (.dic _ _) => bmTy b == 1
  | some (.str _) => bmTy b == 2
  | _ => false
def appendO (o : D) (xs : List D) (m : Mem) : Out D := match o, xs with
  | .ref n k, [.p y] => (match cell m n k with
    | some (.lst l) => if l.length < line then .ok (.p .non) (setCell m n k (.lst (l ++ [y]))) else .bad
    | _ => .bad)
  | _, _ => .bad
def insertO (o : D) (xs : List D) (m : Mem) : Out D := match o, xs with
  | .ref n k, [.p (.int i), .p y] => (match cell m n k with
    | some (.lst l) => if l.length < line ∧ 0 ≤ i ∧ i < 2 ^ 63 then .ok (.p .non) (setCell m n k (.lst (l.take i.toNat ++ [y] ++ l.drop i.toNat))) else .bad
    | _ => .bad)
  | _, _ => .bad
def extendO (o : D) (xs : List D) (m : Mem) : Out D := match o, xs with
  | .ref n k, [e] => (match cell m n k, rd e m with
    | some (.lst l), some (.lst z) => if l.length + z.length ≤ line then .ok (.p .non) (setCell m n k (.lst (l ++ z))) else .bad
    | _, _ => .bad)
  | _, _ => .bad
def getO1 (o : D) (xs : List D) (m : Mem) : Out D := match rd o m, xs with
  | some (.dic t l), [.p y] => if kOk t y then .ok (.p ((findK t l y).getD .non)) m else .bad
  | _, _ => .bad
def getO2 (o : D) (xs : List D) (m : Mem) : Out D := match rd o m, xs with
  | some (.dic t l), [.p y, .p z] => if kOk t y then .ok (.p ((findK t l y).getD z)) m else .bad
  | _, _ => .bad
def joinT (a : Str) (l : List P) (m : Mem) : Out D := match asStrs l with
  | some ys => if (ys.map (·.length)).sum + ys.length * a.length ≤ line then .ok (.p (.str (Str.join a ys))) m else .bad
  | none => .bad
def joinO (o : D) (xs : List D) (m : Mem) : Out D := match o, xs with
  | .p (.str a), [e] => (match rd e m with
    | some (.lst l) => joinT a l m
    | _ => .bad)
  | _, _ => .bad
/-- the first place of an item -/
def atP (x : P) : List P → Option Nat
  | [] => none
  | z :: r => if eqP z x then some 0 else (atP x r).map (· + 1)
def indexT (y : P) (l : List P) (m : Mem) : Out D := if sc y && l.all sc then match atP y l with
  | some j => .ok (.p (.int (j : Nat))) m
  | none => .bad
  else .bad
def indexO (o : D) (xs : List D) (m : Mem) : Out D := match rd o m, xs with
  | some (.lst l), [.p y] => indexT y l m
  | _, _ => .bad
/-- .. of a tuple of the top's texts -/
def gindexO (l : List P) (y : D) (m : Mem) : Out D := match y with
  | .p (.str s) => (match asStrs l with
    | some ns => (match ns.idxOf? s with
      | some j => .ok (.p (.int (j : Nat))) m
      | none => .bad)
    | none => .bad)
  | _ => .bad
def popAtO (o : D) (xs : List D) (m : Mem) : Out D := match o, xs with
  | .ref n k, [.p (.int i)] => (match cell m n k with
    | some (.lst l) => (match ixN l.length i with
      | some j => (match l[j]? with
        | some y => if decide (-(2 ^ 63) ≤ i) && decide (i < 2 ^ 63) then .ok (.p y) (setCell m n k (.lst (l.eraseIdx j))) else .bad
        | none => .bad)
      | none => .bad)
    | _ => .bad)
  | _, _ => .bad
/-- a built-in method's call -/
def bmD (b : Bm) (o : D) (xs : List D) (m : Mem) : Out D := match b with
  | .append => appendO o xs m
  | .insert => insertO o xs m
  | .extend => extendO o xs m
  | .get1 => getO1 o xs m
  | .get2 => getO2 o xs m
  | .join => joinO o xs m
  | .index => indexO o xs m
  | .popAt => popAtO o xs m
  | _ => .bad

/-! ### evaluation -/
def wipe (ρ : Env) : List Nat → Env
  | [] => ρ
  | v :: vs => (wipe ρ vs).set v none
def Tg.vars : Tg → List Nat
  | .nm i => [i]
  | .tp l => l
def setAll (ρ : Env) : List Nat → List P → Env
  | i :: is, x :: xs => setAll (ρ.set i (some (.p x))) is xs
  | _, _ => ρ
def bindTg (tg : Tg) (x : P) (ρ : Env) : Option Env := match tg with
  | .nm i => some (ρ.set i (some (.p x)))
  | .tp is => match x with
    | .tup xs => if is.length = xs.length then some (setAll ρ is xs) else none
    | _ => none

mutual
def sameP : P → P → Bool
  | .non, .non => true
  | .bl a, .bl b => a == b
  | .int a, .int b => a == b
  | .str a, .str b => a == b
  | .tup a, .tup b => samePs a b
  | .lst a, .lst b => samePs a b
  | .dic t a, .dic u b => t == u && samePs a b
  | .set a, .set b => samePs a b
  | .ins c a, .ins d b => c == d && samePs a b
  | .exc c a, .exc d b => c == d && samePs a b
  | _, _ => false
def samePs : List P → List P → Bool
  | [], [] => true
  | x :: xs, y :: ys => sameP x y && samePs xs ys
  | _, _ => false
end
/-- the walked object is still what it was -/
def stays (g : D × P) (m : Mem) : Bool := match g.1 with
  | .p _ => true
  | .gt _ => true
  | d => match rd d m with
    | some y => sameP y g.2
    | none => false

def enumL (k : Nat) : List P → List P
  | [] => []
  | x :: r => .tup [.int (k : Nat), x] :: enumL (k + 1) r
def zipL : List P → List P → List P
  | x :: xs, y :: ys => .tup [x, y] :: zipL xs ys
  | _, _ => []
def rngL (a : Int) : Nat → List P
  | 0 => []
  | n + 1 => .int a :: rngL (a + 1) n
def itemsP : P → Option (List P)
  | .lst l => some l
  | .tup l => some l
  | .str s => some (signs s)
  | _ => none

/-- the loop of a for -/
def forL (g : Mem → Bool) (step : P → Env → Mem → Out Fl) : List P → Env → Mem → Out Fl
  | [], ρ, m => if g m then .ok (.nx ρ) m else .bad
  | x :: xs, ρ, m => if g m then (step x ρ m).bind fun f m1 => match f with
    | .nx ρ1 => forL g step xs ρ1 m1
    | .ct ρ1 => forL g step xs ρ1 m1
    | .bk ρ1 => .ok (.nx ρ1) m1
    | .rt d => .ok (.rt d) m1 else .bad
def whileL (test : Env → Mem → Out Bool) (body : Env → Mem → Out Fl) : Nat → Env → Mem → Out Fl
  | 0, _, _ => .bad
  | n + 1, ρ, m => (test ρ m).bind fun b m1 => if b then (body ρ m1).bind fun f m2 => (match f with
      | .nx ρ1 => whileL test body n ρ1 m2
      | .ct ρ1 => whileL test body n ρ1 m2
      | .bk ρ1 => .ok (.nx ρ1) m2
      | .rt d => .ok (.rt d) m2) else .ok (.nx ρ) m1
/-- the loop of a comprehension: acc holds what is made so far -/
def compL (g : Mem → Bool) (step : P → Mem → Out (List P)) : List P → List P → Mem → Out (List P)
  | [], acc, m => if g m then .ok acc m else .bad
  | x :: xs, acc, m => if g m then (step x m).bind fun o m1 => compL g step xs (acc ++ o) m1 else .bad

def asP (d : D) (m : Mem) : Out P := match d with
  | .p x => .ok x m
  | _ => .bad
def truthO (d : D) (m : Mem) : Out Bool := Out.of (truth d m) m
/-- a slice's bound: what is said, if anything -/
def bnd (e : CE) (o : Out D) : Out (Option Int) := o.bind fun d m => match e, d with
  | .nob, _ => .ok none m
  | _, .p (.int i) => .ok (some i) m
  | _, _ => .bad

/-- whether a value is an instance of the class -/
def isOf (c : Nat) (d : D) (m : Mem) : Bool := match d with
  | .ref n 0 => (match getM m n with
    | .ins c' _ => c' == c
    | _ => false)
  | .p (.ins c' _) => c' == c
  | _ => false
/-- a field of an instance of the class -/
def fldD (c k : Nat) (d : D) (m : Mem) : Out D := match d with
  | .ref n 0 => (match getM m n with
    | .ins c' fs => if c' = c then (match fs[k]? with
      | some (true, _) => .ok (.ref n (k + 1)) m
      | some (false, x) => .ok (.p x) m
      | none => .bad) else .bad
    | _ => .bad)
  | .p (.ins c' fs) => if c' = c then (match fs[k]? with
      | some x => .ok (.p x) m
      | none => .bad) else .bad
  | _ => .bad
/-- isinstance of an exception's class; a field of an exception -/
def isxO (n : Nat) (js : List Nat) (d : D) (m : Mem) : Out D := match d with
  | .p (.exc c _) => if c < n then .ok (.p (.bl (js.contains c))) m else .bad
  | _ => .bad
def mkxO (c : Nat) (own : Option Nat) (xs : List P) (m : Mem) : Out D := match own with
  | some n => if xs.length = n then .ok (.p (.exc c xs)) m else .bad
  | none => .ok (.p (.exc c [])) m
def fldxO (cks : List (Nat × Nat)) (d : D) (m : Mem) : Out D := match d with
  | .p (.exc c fs) => (match cks.lookup c with
    | some k => Out.of (fs[k]?.map D.p) m
    | none => .bad)
  | _ => .bad
def rng1O (y : D) (m2 : Mem) : Out (List P × (Mem → Bool)) := match y with
  | .p (.int j) => if -(2 ^ 62) ≤ j ∧ j < 2 ^ 62 then .ok (rngL 0 j.toNat, fun _ => true) m2 else .bad
  | _ => .bad
def rng2O (x y : D) (m2 : Mem) : Out (List P × (Mem → Bool)) := match x, y with
  | .p (.int i), .p (.int j) => if -(2 ^ 62) ≤ i ∧ i < 2 ^ 62 ∧ -(2 ^ 62) ≤ j ∧ j < 2 ^ 62 then .ok (rngL i (j - i).toNat, fun _ => true) m2 else .bad
  | _, _ => .bad
def seqO' (d : D) (m1 : Mem) : Out (List P × (Mem → Bool)) := match rg d m1 with
  | some x => (Out.of (itemsP x) m1).bind fun l m1 => .ok (l, stays (d, x)) m1
  | none => .bad
def enumO (d : D) (m1 : Mem) : Out (List P × (Mem → Bool)) := match rg d m1 with
  | some (.lst l) => .ok (enumL 0 l, stays (d, .lst l)) m1
  | some (.tup l) => .ok (enumL 0 l, stays (d, .tup l)) m1
  | _ => .bad
def zipO (d e : D) (m2 : Mem) : Out (List P × (Mem → Bool)) := match rg d m2, rg e m2 with
  | some (.lst l), some (.lst k) => .ok (zipL l k, fun m => stays (d, .lst l) m && stays (e, .lst k) m) m2
  | some (.tup l), some (.tup k) => .ok (zipL l k, fun m => stays (d, .tup l) m && stays (e, .tup k) m) m2
  | _, _ => .bad
abbrev Ev := Env → Mem → Out D
abbrev Es := Env → Mem → Out Fl
/-- a comprehension's turn, a comprehension -/
def stepO (vs : List Nat) (b : P → Env → Option Env) (fifs : Env → Mem → Out Bool) (fe : Ev) (ρ : Env) : P → Mem → Out (List P) := fun x m => match b x (wipe ρ vs) with
  | some ρ1 => (fifs ρ1 m).bind fun t m2 => if t then (fe ρ1 m2).bind fun d m3 => (asP d m3).bind fun y m3 => .ok [y] m3 else .ok [] m2
  | none => .bad
def lcO (vs : List Nat) (b : P → Env → Option Env) (fi : Env → Mem → Out (List P × (Mem → Bool))) (fifs : Env → Mem → Out Bool) (fe : Ev) : Ev := fun ρ m =>
  (fi ρ m).bind fun w m1 => (compL w.2 (stepO vs b fifs fe ρ) w.1 [] m1).bind fun l m2 => if l.length ≤ line then .ok (.p (.lst l)) m2 else .bad
/-- a dict comprehension's turn, a dict comprehension -/
def stepD (vs : List Nat) (b : P → Env → Option Env) (fifs : Env → Mem → Out Bool) (fk fv : Ev) (ρ : Env) : P → Mem → Out (List P) := fun x m => match b x (wipe ρ vs) with
  | some ρ1 => (fifs ρ1 m).bind fun q m2 => if q then (fk ρ1 m2).bind fun d m3 => (asP d m3).bind fun y m3 => (fv ρ1 m3).bind fun e m4 => (asP e m4).bind fun z m4 => if kOk false y then .ok [.tup [y, z]] m4 else .bad else .ok [] m2
  | none => .bad
def foldD (l acc : List P) : List P := l.foldl (fun acc z => putK false acc (keyOf z) (valOf z)) acc
def dcO (vs : List Nat) (b : P → Env → Option Env) (fi : Env → Mem → Out (List P × (Mem → Bool))) (fifs : Env → Mem → Out Bool) (fk fv : Ev) : Ev := fun ρ m =>
  (fi ρ m).bind fun w m1 => (compL w.2 (stepD vs b fifs fk fv ρ) w.1 [] m1).bind fun l m2 => if l.length ≤ line then .ok (.ref m2.length 0) (m2 ++ [.val (.dic false (foldD l []))]) else .bad
/-- statements -/
def seqO (f g : Es) : Es := fun ρ m => (f ρ m).bind fun fl m1 => match fl with
  | .nx ρ1 => g ρ1 m1
  | fl => .ok fl m1
def setO (i : Nat) (f : Ev) : Es := fun ρ m => (f ρ m).bind fun d m1 => .ok (.nx (ρ.set i (some d))) m1
def unpO (is : List Nat) (f : Ev) : Es := fun ρ m => (f ρ m).bind fun d m1 => match rg d m1 with
  | some (.tup xs) => if is.length = xs.length then .ok (.nx (setAll ρ is xs)) m1 else .bad
  | _ => .bad
def setAllD (ρ : Env) : List Nat → List D → Env
  | i :: is, x :: xs => setAllD (ρ.set i (some x)) is xs
  | _, _ => ρ
def parO (is : List Nat) (f : Env → Mem → Out (List D)) : Es := fun ρ m => (f ρ m).bind fun ds m1 => if is.length = ds.length ∧ ds.length ≤ 1000 then .ok (.nx (setAllD ρ is ds)) m1 else .bad
/-- o[i] = v -/
def setixO (d k v : D) (m : Mem) : Out Unit := match d, k, v with
  | .ref n j, .p k, .p v => (match cell m n j, k with
    | some (.lst l), .int i => (match ixN l.length i with
      | some q => .ok () (setCell m n j (.lst (l.set q v)))
      | none => .bad)
    | some (.dic t l), k => if kOk t k && decide (l.length < line) then .ok () (setCell m n j (.dic t (putK t l k v))) else .bad
    | _, _ => .bad)
  | _, _, _ => .bad
def augO (i : Nat) (op : BOp) (f : Ev) : Es := fun ρ m => match (ρ[i]?).bind id with
  | some x => (f ρ m).bind fun y m1 => (match x, y with
    | .p (.int a), .p (.int b) => (Out.of (binP op (.int a) (.int b)) m1).bind fun r m2 => .ok (.nx (ρ.set i (some (.p r)))) m2
    | _, _ => .bad)
  | none => .bad
def forO (b : P → Env → Option Env) (fi : Env → Mem → Out (List P × (Mem → Bool))) (f : Es) : Es := fun ρ m => (fi ρ m).bind fun w m1 => forL w.2 (fun x ρ m => match b x ρ with
  | some ρ1 => f ρ1 m
  | none => .bad) w.1 ρ m1
def frzO (f : Ev) : Ev := fun ρ m => (f ρ m).bind fun d m1 => match d with
  | .ref n 0 => (match getM m1 n with
    | .val (.lst l) => .ok (.p (.lst l)) (m1.set n .dead)
    | .val (.dic t l) => .ok (.p (.dic t l)) (m1.set n .dead)
    | _ => .bad)
  | _ => .bad
/-- e as a new object of the memory's -/
def evAlloc (f : Ev) : Ev := fun ρ m => (f ρ m).bind fun d m1 => match d with
  | .p (.lst l) => .ok (.ref m1.length 0) (m1 ++ [.val (.lst l)])
  | _ => .bad
section
variable (cf : Nat → List D → Mem → Out D) (mt : Nat → Nat → Option Nat)
mutual
def evE : CE → Env → Mem → Out D
  | .var i, ρ, m => Out.of ((ρ[i]?).bind id) m
  | .lit x, _, m => .ok (.p x) m
  | .gint _ i, _, m => .ok (.p (.int i)) m
  | .gstr _ s, _, m => .ok (.p (.str s)) m
  | .gtup _ l, _, m => .ok (.gt l) m
  | .gfn i, _, m => .ok (.fn i) m
  | .tup es, ρ, m => (evPs es ρ m).bind fun xs m1 => if xs.length ≤ line then .ok (.p (.tup xs)) m1 else .bad
  | .lst es, ρ, m => (evPs es ρ m).bind fun xs m1 => if xs.length ≤ line then .ok (.p (.lst xs)) m1 else .bad
  | .ndict t, _, m => .ok (.ref m.length 0) (m ++ [.val (.dic t [])])
  | .ddict ks vs, ρ, m => .bad
  | .alloc e, ρ, m => evAlloc (fun ρ m => evE e ρ m) ρ m
  | .frz e, ρ, m => frzO (fun ρ m => evE e ρ m) ρ m
  | .bin op a b, ρ, m => (evE a ρ m).bind fun x m1 => (evE b ρ m1).bind fun y m2 => match rd x m2, rd y m2 with
    | some u, some v => (Out.of (binP op u v) m2).bind fun r m3 => .ok (.p r) m3
    | _, _ => .bad
  | .neg a, ρ, m => (evE a ρ m).bind fun x m1 => match x with
    | .p (.int i) => .ok (.p (.int (-i))) m1
    | _ => .bad
  | .not a, ρ, m => ((evE a ρ m).bind truthO).bind fun b m1 => .ok (.p (.bl (!b))) m1
  | .cmp op a b, ρ, m => (evE a ρ m).bind fun x m1 => (evE b ρ m1).bind fun y m2 => (Out.of (cmpD op x y m2) m2).bind fun r m3 => .ok (.p (.bl r)) m3
  | .chain o1 o2 a b c, ρ, m => (evE a ρ m).bind fun x m1 => (evE b ρ m1).bind fun y m2 => (Out.of (cmpD o1 x y m2) m2).bind fun r m3 =>
      if r then (evE c ρ m3).bind fun z m4 => (Out.of (cmpD o2 y z m4) m4).bind fun r m5 => .ok (.p (.bl r)) m5 else .ok (.p (.bl false)) m3
  | .and es, ρ, m => evAnd es ρ m
  | .or es, ρ, m => evOr es ρ m
  | .ife c a b, ρ, m => ((evE c ρ m).bind truthO).bind fun t m1 => if t then evE a ρ m1 else evE b ρ m1
  | .call f es, ρ, m => (evEs es ρ m).bind fun ds m1 => cf f ds m1
  | .callv i es, ρ, m => match (ρ[i]?).bind id with
    | some (.fn f) => (evEs es ρ m).bind fun ds m1 => cf f ds m1
    | _ => .bad
  | .new c es, ρ, m => match mt c 0 with
    | some f => (evEs es ρ m).bind fun ds m1 => (cf f (.ref m1.length 0 :: ds) (m1 ++ [.ins c []])).bind fun d m2 => match d with
      | .p .non => .ok (.ref m1.length 0) m2
      | _ => .bad
    | none => .bad
  | .meth c o k es, ρ, m => match mt c k with
    | some f => (evE o ρ m).bind fun d m1 => if isOf c d m1 then (evEs es ρ m1).bind fun ds m2 => cf f (d :: ds) m2 else .bad
    | none => .bad
  | .fld c o k, ρ, m => (evE o ρ m).bind fun d m1 => fldD c k d m1
  | .prim p es, ρ, m => (evEs es ρ m).bind fun ds m1 => primD p ds m1
  | .bmeth b o es, ρ, m => (evE o ρ m).bind fun d m1 => if bmT b d m1 then (evEs es ρ m1).bind fun ds m2 => bmD b d ds m2 else .bad
  | .gidx _ l e, ρ, m => (evE e ρ m).bind fun y m1 => gindexO l y m1
  | .ix o i, ρ, m => (evE o ρ m).bind fun x m1 => (evE i ρ m1).bind fun y m2 => (Out.of (ixD x y m2) m2).bind fun r m3 => .ok (.p r) m3
  | .gix _ kvs i, ρ, m => (evE i ρ m).bind fun x m1 => match x with
    | .p (.str s) => (Out.of (kvs.lookup s) m1).bind fun r m2 => .ok (.gt r) m2
    | _ => .bad
  | .gin _ ks i, ρ, m => (evE i ρ m).bind fun x m1 => match x with
    | .p (.str s) => .ok (.p (.bl (ks.contains s))) m1
    | _ => .bad
  | .nob, _, m => .ok (.p .non) m
  | .mkx c own es, ρ, m => (evPs es ρ m).bind fun xs m1 => mkxO c own xs m1
  | .isx n js a, ρ, m => (evE a ρ m).bind fun d m1 => isxO n js d m1
  | .fldx _ cks a, ρ, m => (evE a ρ m).bind fun d m1 => fldxO cks d m1
  | .slice o lo hi, ρ, m => (evE o ρ m).bind fun x m1 => (bnd lo (evE lo ρ m1)).bind fun l m2 => (bnd hi (evE hi ρ m2)).bind fun h m3 => (Out.of (sliceD x l h m3) m3).bind fun r m4 => .ok (.p r) m4
  | .rev o, ρ, m => (evE o ρ m).bind fun x m1 => match rd x m1 with
    | some (.lst l) => .ok (.p (.lst l.reverse)) m1
    | some (.tup l) => .ok (.p (.tup l.reverse)) m1
    | _ => .bad
  | .comp elt tg it ifs, ρ, m => lcO tg.vars (bindTg tg) (fun ρ m => evI it ρ m) (fun ρ m => evIfs ifs ρ m) (fun ρ m => evE elt ρ m) ρ m
  | .comp2 elt tg it ifs tg2 it2 ifs2, ρ, m => (evI it ρ m).bind fun w m1 => (compL w.2 (fun x m => match bindTg tg x (wipe ρ (tg.vars ++ tg2.vars)) with
      | some ρ1 => (evIfs ifs ρ1 m).bind fun b m2 => if b then (evI it2 ρ1 m2).bind fun w2 m3 => compL w2.2 (fun y m => match bindTg tg2 y (wipe ρ1 tg2.vars) with
          | some ρ2 => (evIfs ifs2 ρ2 m).bind fun b m4 => if b then (evE elt ρ2 m4).bind fun d m5 => (asP d m5).bind fun y m5 => .ok [y] m5 else .ok [] m4
          | none => .bad) w2.1 [] m3 else .ok [] m2
      | none => .bad) w.1 [] m1).bind fun l m2 => if l.length ≤ line then .ok (.p (.lst l)) m2 else .bad
  | .dcomp k v t tg it ifs, ρ, m => if t then .bad else dcO tg.vars (bindTg tg) (fun ρ m => evI it ρ m) (fun ρ m => evIfs ifs ρ m) (fun ρ m => evE k ρ m) (fun ρ m => evE v ρ m) ρ m
def evEs : CEs → Env → Mem → Out (List D)
  | .nil, _, m => .ok [] m
  | .cons e es, ρ, m => (evE e ρ m).bind fun d m1 => (evEs es ρ m1).bind fun ds m2 => .ok (d :: ds) m2
/-- parts that are data -/
def evPs : CEs → Env → Mem → Out (List P)
  | .nil, _, m => .ok [] m
  | .cons e es, ρ, m => (evE e ρ m).bind fun d m1 => (asP d m1).bind fun x m1 => (evPs es ρ m1).bind fun ds m2 => .ok (x :: ds) m2
def evAnd : CEs → Env → Mem → Out D
  | .nil, _, _ => .bad
  | .cons e .nil, ρ, m => evE e ρ m
  | .cons e es, ρ, m => (evE e ρ m).bind fun d m1 => (truthO d m1).bind fun b m2 => if b then evAnd es ρ m2 else .ok d m2
def evOr : CEs → Env → Mem → Out D
  | .nil, _, _ => .bad
  | .cons e .nil, ρ, m => evE e ρ m
  | .cons e es, ρ, m => (evE e ρ m).bind fun d m1 => (truthO d m1).bind fun b m2 => if b then .ok d m2 else evOr es ρ m2
def evIfs : CEs → Env → Mem → Out Bool
  | .nil, _, m => .ok true m
  | .cons e es, ρ, m => ((evE e ρ m).bind truthO).bind fun b m1 => if b then evIfs es ρ m1 else .ok false m1
/-- the items of a walk, and the test that what is walked stays -/
def evI : CI → Env → Mem → Out (List P × (Mem → Bool))
  | .seq e, ρ, m => (evE e ρ m).bind fun d m1 => seqO' d m1
  | .rng a b, ρ, m => (evE a ρ m).bind fun x m1 => (evE b ρ m1).bind fun y m2 => rng2O x y m2
  | .rng1 b, ρ, m => (evE b ρ m).bind fun y m2 => rng1O y m2
  | .enum e, ρ, m => (evE e ρ m).bind fun d m1 => enumO d m1
  | .zip a b s, ρ, m => if s then .bad else (evE a ρ m).bind fun d m1 => (evE b ρ m1).bind fun e m2 => zipO d e m2
  | .revd e, ρ, m => (evE e ρ m).bind fun d m1 => match rg d m1 with
    | some x => (Out.of (seqOf x) m1).bind fun l m1 => .ok (l.reverse, stays (d, x)) m1
    | none => .bad
  | .items e, ρ, m => (evE e ρ m).bind fun d m1 => match rg d m1 with
    | some (.dic t l) => .ok (l, stays (d, .dic t l)) m1
    | _ => .bad
end

/-- o.f = v: data in the place of data, or behind the last field, or an object that is the field's own from now on -/
def setFldD (c k : Nat) (d v : D) (m : Mem) : Out Unit := match d with
  | .ref n 0 => (match getM m n with
    | .ins c' fs => if c' = c then (match v with
      | .p x => if k = fs.length then .ok () (m.set n (.ins c (fs ++ [(false, x)]))) else (match fs[k]? with
        | some (false, _) => .ok () (m.set n (.ins c (fs.set k (false, x))))
        | _ => .bad)
      | .ref q 0 => if k = fs.length then (match getM m q with
        | .val x => .ok () ((m.set q .dead).set n (.ins c (fs ++ [(true, x)])))
        | _ => .bad) else .bad
      | _ => .bad) else .bad
    | _ => .bad)
  | _ => .bad
/-- fuel of a while -/
def fuel : Nat := 100000

mutual
def evS : CS → Env → Mem → Out Fl
  | .expr e, ρ, m => (evE cf mt e ρ m).bind fun _ m1 => .ok (.nx ρ) m1
  | .set i e, ρ, m => setO i (fun ρ m => evE cf mt e ρ m) ρ m
  | .setc i e, ρ, m => setO i (fun ρ m => evE cf mt e ρ m) ρ m
  | .unp is e, ρ, m => unpO is (fun ρ m => evE cf mt e ρ m) ρ m
  | .par is es, ρ, m => parO is (fun ρ m => evEs cf mt es ρ m) ρ m
  | .setix o i e, ρ, m => (evE cf mt e ρ m).bind fun v m1 => (evE cf mt o ρ m1).bind fun d m2 => (evE cf mt i ρ m2).bind fun k m3 => (setixO d k v m3).bind fun _ m4 => .ok (.nx ρ) m4
  | .setfld c o k e, ρ, m => (evE cf mt e ρ m).bind fun v m1 => (evE cf mt o ρ m1).bind fun d m2 => (setFldD c k d v m2).bind fun _ m3 => .ok (.nx ρ) m3
  | .aug i op e, ρ, m => augO i op (fun ρ m => evE cf mt e ρ m) ρ m
  | .ift c a b, ρ, m => ((evE cf mt c ρ m).bind truthO).bind fun t m1 => if t then evSs a ρ m1 else evSs b ρ m1
  | .for tg it body, ρ, m => forO (bindTg tg) (fun ρ m => evI cf mt it ρ m) (fun ρ m => evSs body ρ m) ρ m
  | .while c body, ρ, m => whileL (fun ρ m => (evE cf mt c ρ m).bind truthO) (fun ρ m => evSs body ρ m) fuel ρ m
  | .ret e, ρ, m => (evE cf mt e ρ m).bind fun d m1 => .ok (.rt d) m1
  | .retn, _, m => .ok (.rt (.p .non)) m
  | .brk, ρ, m => .ok (.bk ρ) m
  | .cont, ρ, m => .ok (.ct ρ) m
  | .pass, ρ, m => .ok (.nx ρ) m
  | .raise c es, ρ, m => (evPs cf mt es ρ m).bind fun xs m1 => .exn c xs m1
def evSs : CSs → Env → Mem → Out Fl
  | .nil, ρ, m => .ok (.nx ρ) m
  | .cons s ss, ρ, m => seqO (fun ρ m => evS s ρ m) (fun ρ m => evSs ss ρ m) ρ m
end
end

/-- a def: its name, its names by slots (parameters first), how many parameters, its body -/
structure Fn where
  name : Str
  qual : Str
  cls : Option Str
  names : List Str
  np : Nat
  body : CSs
/-- a class: its name, its fields' names, its methods: name and def (number 0 is __init__) -/
structure Cl where
  name : Str
  flds : List Str
  meths : List (Str × Nat)
structure Pg where
  fns : List Fn
  cls : List Cl

def Pg.mt (g : Pg) (c k : Nat) : Option Nat := ((g.cls[c]?).bind fun q => q.meths[k]?).map (·.2)

/-- what a body's end hands back; an end that is data leaves nothing but what stood before -/
def settle (n : Nat) (o : Out Fl) : Out D := o.bind fun f m => match f with
  | .nx _ => .ok (.p .non) (m.take n)
  | .rt (.p x) => .ok (.p x) (m.take n)
  | .rt (.ref q k) => .ok (.ref q k) m
  | .rt (.fn i) => .ok (.fn i) (m.take n)
  | _ => .bad
/-- a call, so many calls deep -/
def Pg.call (g : Pg) : Nat → Nat → List D → Mem → Out D
  | 0, _, _, _ => .bad
  | d + 1, f, ds, m => match g.fns[f]? with
    | some q => if ds.length = q.np then settle m.length (evSs (g.call d) g.mt q.body (ds.map some ++ List.replicate (q.names.length - q.np) none) m) else .bad
    | none => .bad
end Lot
/-! LotB: how values of the small language lie in the hand layer's heap. -/
namespace Lot
open PySem PySem.Spec PyProof.Rows L2

/-- what is fixed: the program, the world, the written part, where defs and classes lie, the fields' names; hidden objects that stand as they are -/
structure Tb where
  P : Program
  w : World
  K : PySem.W.Frag
  fa : Nat → Addr
  ca : Nat → Addr
  fn : Nat → Nat → Option Str
  gh : Addr → Option HO
/-- .. with other hidden objects -/
def Tb.g (T : Tb) (gh : Addr → Option HO) : Tb := { T with gh := gh }

def KTup (K : PySem.W.Frag) (a : Addr) (xs : List V) : Prop :=
  ∃ (o : PySem.Obj) (its : Array Value) (n : Nat), K.lookup a = some o ∧ o.cls = .type "tuple" ∧ o.dict = none ∧ o.data = .seq its n ∧ its.size ≤ sizeLine ∧ Vals xs its.toList
/-- the script, where it is one of the top's own objects -/
def KLst (K : PySem.W.Frag) (a : Addr) (xs : List V) : Prop :=
  ∃ (o : PySem.Obj) (its : Array Value) (n : Nat), K.lookup a = some o ∧ o.cls = .type "list" ∧ o.dict = none ∧ o.data = .seq its n ∧ its.size ≤ sizeLine ∧ Vals xs its.toList
def TupAt (W : Addr → Prop) (H : Hp) (a : Addr) (xs : List V) : Prop := ¬ W a ∧ H a = some (.tup xs)
/-- an instance's fields, as __init__ stores them -/
def Flds (T : Tb) (c : Nat) : Nat → List V → List (Str × V) → Prop
  | _, [], fs => fs = []
  | k, x :: xs, fs => ∃ f r, T.fn c k = some f ∧ fs = (f, x) :: r ∧ Flds T c (k + 1) xs r
/-- an exception's fields, in its dict -/
def FldX (T : Tb) (c : Nat) (xs : List V) (r : List (Str × V)) : Prop := ∀ (i : Nat) (v : V), xs[i]? = some v → ∃ f, T.fn c i = some f ∧ r.lookup f = some v
theorem Flds_g {T : Tb} {gh : Addr → Option HO} {c : Nat} : ∀ {k : Nat} {xs : List V} {fs : List (Str × V)}, Flds (T.g gh) c k xs fs = Flds T c k xs fs
  | _, [], _ => rfl
  | k, x :: xs, fs => by simp only [Flds, Flds_g (k := k + 1) (xs := xs)]; rfl

section
variable (T : Tb) (W : Addr → Prop) (H : Hp)
mutual
/-- data as it lies; what no one writes -/
def Rp : P → V → Prop
  | .non, v => v = .non
  | .bl b, v => v = .bl b
  | .int i, v => v = .int i
  | .str s, v => v = .str s
  | .tup l, v => ∃ a xs, v = .ref a ∧ TupAt W H a xs ∧ RpL l xs
  | .lst l, v => ∃ a xs, v = .ref a ∧ ¬ W a ∧ H a = some (.lst xs) ∧ RpL l xs
  | .dic false l, v => ∃ a kvs, v = .ref a ∧ ¬ W a ∧ H a = some (.dK kvs) ∧ (kvs.map (·.1)).Nodup ∧ RpD l kvs
  | .dic true l, v => ∃ a kvs, v = .ref a ∧ ¬ W a ∧ H a = some (.dT kvs) ∧ (kvs.map (·.1)).Nodup ∧ RpT l kvs
  | .set _, _ => False
  | .ins c fs, v => ∃ a dx xs r, v = .ref a ∧ ¬ W a ∧ H a = some (.ins (T.ca c) dx r) ∧ Flds T c 0 xs r ∧ RpL fs xs
  | .exc c fs, v => ∃ a, v = .ref a ∧ ¬ W a ∧ ((∃ d xs r, ¬ W d ∧ H a = some (exo a (T.ca c) (some d)) ∧ H d = some (exd d r) ∧ FldX T c xs r ∧ RpL fs xs) ∨ (fs = [] ∧ H a = some (ExO (.ref (T.ca c)) a)))
def RpL : List P → List V → Prop
  | [], xs => xs = []
  | d :: ds, xs => ∃ v r, xs = v :: r ∧ Rp d v ∧ RpL ds r
def RpD : List P → List (Key × V) → Prop
  | [], kvs => kvs = []
  | .tup xs :: r, kvs => ∃ k y q, kvs = (k, y) :: q ∧ RpL xs [kV k, y] ∧ RpD r q
  | _ :: _, _ => False
def RpT : List P → List (List Key × V) → Prop
  | [], kvs => kvs = []
  | .tup [k, v] :: r, kvs => ∃ ks y q, kvs = (ks, y) :: q ∧ kyT k = some ks ∧ Rp v y ∧ RpT r q
  | _ :: _, _ => False
end
end

section
variable (T : Tb)
/-- what is read at an address, whether it may change or not -/
def At (W : Addr → Prop) (H : Hp) : P → Addr → Prop
  | .lst l, a => ∃ xs, H a = some (.lst xs) ∧ RpL T W H l xs
  | .dic false l, a => ∃ kvs, H a = some (.dK kvs) ∧ (kvs.map (·.1)).Nodup ∧ RpD T W H l kvs
  | .dic true l, a => ∃ kvs, H a = some (.dT kvs) ∧ (kvs.map (·.1)).Nodup ∧ RpT T W H l kvs
  | .set l, a => ∃ ks : List Ky, kys l = some ks ∧ ks.Nodup ∧ H a = some (SetK T.P T.w a (fun k => ks.any fun j => decide (j = k)) ks.length)
  | _, _ => False

/-- where objects and fields' own objects lie -/
abbrev Al := Nat → Nat → Option Addr
/-- one field's value: data, or an object of its own -/
def FldV (W : Addr → Prop) (H : Hp) (o : Option Addr) : Bool × P → V → Prop
  | (false, x), v => Rp T W H x v
  | (true, _), v => ∃ a, o = some a ∧ v = .ref a
def FldsV (W : Addr → Prop) (H : Hp) (g : Nat → Option Addr) : Nat → List (Bool × P) → List V → Prop
  | _, [], xs => xs = []
  | k, f :: fs, xs => ∃ v r, xs = v :: r ∧ FldV T W H (g (k + 1)) f v ∧ FldsV W H g (k + 1) fs r
/-- an instance that may change -/
def InsAt (W : Addr → Prop) (H : Hp) (g : Nat → Option Addr) (c : Nat) (fs : List (Bool × P)) (a : Addr) : Prop :=
  ∃ dx xs r, H a = some (.ins (T.ca c) dx r) ∧ Flds T c 0 xs r ∧ FldsV T W H g 0 fs xs

/-- whether there is an object -/
def live (m : Mem) (n k : Nat) : Bool := match getM m n, k with
  | .ins _ _, 0 => true
  | _, _ => (cell m n k).isSome
/-- the memory as it lies in the heap -/
structure HR (α : Al) (W : Addr → Prop) (H : Hp) (m : Mem) : Prop where
  wd : ∀ a, W a → H a ≠ none
  out : ∀ n k, m.length ≤ n → α n k = none
  cel : ∀ n k x, cell m n k = some x → ∃ a, α n k = some a ∧ W a ∧ At T W H x a
  ins : ∀ n c fs, getM m n = .ins c fs → ∃ a, α n 0 = some a ∧ W a ∧ InsAt T W H (α n) c fs a
  inj : ∀ n k n' k' a, live m n k = true → live m n' k' = true → α n k = some a → α n' k' = some a → n = n' ∧ k = k'
  gho : ∀ a o, T.gh a = some o → W a ∧ H a = some o ∧ ∀ n k, live m n k = true → α n k ≠ some a

/-- from one state to a later one: what isn't written stays -/
structure Ext (α : Al) (W : Addr → Prop) (H : Hp) (α' : Al) (W' : Addr → Prop) (H' : Hp) : Prop where
  al : ∀ n k a, α n k = some a → α' n k = some a
  hp : ∀ a o, ¬ W a → H a = some o → H' a = some o ∧ ¬ W' a
/-- a value as it lies -/
def RD (α : Al) (W : Addr → Prop) (H : Hp) : D → V → Prop
  | .p x, v => Rp T W H x v
  | .ref n k, v => ∃ a, α n k = some a ∧ v = .ref a
  | .fn i, v => v = .ref (T.fa i)
  | .scr l, v => ∃ a, v = .ref a ∧ ((∃ o, ¬ W a ∧ H a = some (.frz o (.lst (l.map V.int)))) ∨ KLst T.K a (l.map V.int))
  | .gt l, v => ∃ a xs, v = .ref a ∧ KTup T.K a xs ∧ RpL T W H l xs
def RDL (α : Al) (W : Addr → Prop) (H : Hp) : List D → List V → Prop
  | [], xs => xs = []
  | d :: ds, xs => ∃ v r, xs = v :: r ∧ RD T α W H d v ∧ RDL α W H ds r
def RS (α : Al) (W : Addr → Prop) (H : Hp) (ρ : Env) (σ : L2.St) : Prop := ρ.length = σ.length ∧ ∀ (i : Nat) (d : D), ρ[i]? = some (some d) → ∃ v, σ[i]? = some (some v) ∧ RD T α W H d v
/-- data read off a value at this moment -/
def Rc (W : Addr → Prop) (H : Hp) (x : P) (v : V) : Prop := Rp T W H x v ∨ ∃ a, v = .ref a ∧ At T W H x a
def Rg (W : Addr → Prop) (H : Hp) (x : P) (v : V) : Prop := Rc T W H x v ∨ ∃ l a xs, x = .tup l ∧ v = .ref a ∧ KTup T.K a xs ∧ RpL T W H l xs
end
section
variable {T : Tb} {α α' α'' : Al} {W W' W'' : Addr → Prop} {H H' H'' : Hp}
theorem Ext.refl : Ext α W H α W H := ⟨fun _ _ _ h => h, fun _ _ h e => ⟨e, h⟩⟩
theorem Ext.trans (e : Ext α W H α' W' H') (e' : Ext α' W' H' α'' W'' H'') : Ext α W H α'' W'' H'' :=
  ⟨fun n k a h => e'.al n k a (e.al n k a h), fun a o h1 h2 => let ⟨h3, h4⟩ := e.hp a o h1 h2; e'.hp a o h4 h3⟩
theorem TupAt.ext (e : Ext α W H α' W' H') {a : Addr} {xs : List V} (h : TupAt W H a xs) : TupAt W' H' a xs := by
  obtain ⟨h1, h2⟩ := h
  obtain ⟨h3, h4⟩ := e.hp a _ h1 h2
  exact ⟨h4, h3⟩
mutual
theorem Rp.ext (e : Ext α W H α' W' H') : ∀ (x : P) (v : V), Rp T W H x v → Rp T W' H' x v
  | .non, _, h => by simpa only [Rp] using h
  | .bl _, _, h => by simpa only [Rp] using h
  | .int _, _, h => by simpa only [Rp] using h
  | .str _, _, h => by simpa only [Rp] using h
  | .tup l, v, h => by
    simp only [Rp] at h ⊢
    obtain ⟨a, xs, rfl, h1, h2⟩ := h
    exact ⟨a, xs, rfl, h1.ext e, RpL.ext e l xs h2⟩
  | .lst l, v, h => by
    simp only [Rp] at h ⊢
    obtain ⟨a, xs, rfl, h1, h2, h3⟩ := h
    obtain ⟨h4, h5⟩ := e.hp a _ h1 h2
    exact ⟨a, xs, rfl, h5, h4, RpL.ext e l xs h3⟩
  | .dic false l, v, h => by
    simp only [Rp] at h ⊢
    obtain ⟨a, xs, rfl, h1, h2, nd, h3⟩ := h
    obtain ⟨h4, h5⟩ := e.hp a _ h1 h2
    exact ⟨a, xs, rfl, h5, h4, nd, RpD.ext e l xs h3⟩
  | .dic true l, v, h => by
    simp only [Rp] at h ⊢
    obtain ⟨a, xs, rfl, h1, h2, nd, h3⟩ := h
    obtain ⟨h4, h5⟩ := e.hp a _ h1 h2
    exact ⟨a, xs, rfl, h5, h4, nd, RpT.ext e l xs h3⟩
  | .set _, _, h => by simp only [Rp] at h
  | .ins c fs, v, h => by
    simp only [Rp] at h ⊢
    obtain ⟨a, dx, xs, r, rfl, h1, h2, h3, h4⟩ := h
    obtain ⟨h5, h6⟩ := e.hp a _ h1 h2
    exact ⟨a, dx, xs, r, rfl, h6, h5, h3, RpL.ext e fs xs h4⟩
  | .exc c fs, v, h => by
    simp only [Rp] at h ⊢
    obtain ⟨a, rfl, h1, h2⟩ := h
    refine ⟨a, rfl, ?_⟩
    rcases h2 with ⟨d, xs, r, h3, h4, h5, h6, h7⟩ | ⟨rfl, h3⟩
    · obtain ⟨g1, g2⟩ := e.hp a _ h1 h4
      obtain ⟨g3, g4⟩ := e.hp d _ h3 h5
      exact ⟨g2, .inl ⟨d, xs, r, g4, g1, g3, h6, RpL.ext e fs xs h7⟩⟩
    · obtain ⟨g1, g2⟩ := e.hp a _ h1 h3
      exact ⟨g2, .inr ⟨rfl, g1⟩⟩
theorem RpL.ext (e : Ext α W H α' W' H') : ∀ (l : List P) (xs : List V), RpL T W H l xs → RpL T W' H' l xs
  | [], _, h => by simpa only [RpL] using h
  | d :: ds, xs, h => by
    simp only [RpL] at h ⊢
    obtain ⟨v, r, rfl, h1, h2⟩ := h
    exact ⟨v, r, rfl, Rp.ext e d v h1, RpL.ext e ds r h2⟩
theorem RpD.ext (e : Ext α W H α' W' H') : ∀ (l : List P) (xs : List (Key × V)), RpD T W H l xs → RpD T W' H' l xs
  | [], _, h => by simpa only [RpD] using h
  | .tup l :: ds, xs, h => by
    simp only [RpD] at h ⊢
    obtain ⟨k, y, q, rfl, h1, h2⟩ := h
    exact ⟨k, y, q, rfl, RpL.ext e l _ h1, RpD.ext e ds q h2⟩
  | .non :: _, _, h => by simp only [RpD] at h
  | .bl _ :: _, _, h => by simp only [RpD] at h
  | .int _ :: _, _, h => by simp only [RpD] at h
  | .str _ :: _, _, h => by simp only [RpD] at h
  | .lst _ :: _, _, h => by simp only [RpD] at h
  | .dic _ _ :: _, _, h => by simp only [RpD] at h
  | .set _ :: _, _, h => by simp only [RpD] at h
  | .ins _ _ :: _, _, h => by simp only [RpD] at h
  | .exc _ _ :: _, _, h => by simp only [RpD] at h
theorem RpT.ext (e : Ext α W H α' W' H') : ∀ (l : List P) (xs : List (List Key × V)), RpT T W H l xs → RpT T W' H' l xs
  | [], _, h => by simpa only [RpT] using h
  | .tup [k, v] :: ds, xs, h => by
    simp only [RpT] at h ⊢
    obtain ⟨ks, y, q, rfl, h1, h2, h3⟩ := h
    exact ⟨ks, y, q, rfl, h1, Rp.ext e v _ h2, RpT.ext e ds q h3⟩
  | .tup [] :: _, _, h => by simp only [RpT] at h
  | .tup [_] :: _, _, h => by simp only [RpT] at h
  | .tup (_ :: _ :: _ :: _) :: _, _, h => by simp only [RpT] at h
  | .non :: _, _, h => by simp only [RpT] at h
  | .bl _ :: _, _, h => by simp only [RpT] at h
  | .int _ :: _, _, h => by simp only [RpT] at h
  | .str _ :: _, _, h => by simp only [RpT] at h
  | .lst _ :: _, _, h => by simp only [RpT] at h
  | .dic _ _ :: _, _, h => by simp only [RpT] at h
  | .set _ :: _, _, h => by simp only [RpT] at h
  | .ins _ _ :: _, _, h => by simp only [RpT] at h
  | .exc _ _ :: _, _, h => by simp only [RpT] at h
end
theorem RD.ext (e : Ext α W H α' W' H') : ∀ (d : D) (v : V), RD T α W H d v → RD T α' W' H' d v
  | .p x, v, h => Rp.ext e x v h
  | .ref n k, v, ⟨a, h1, h2⟩ => ⟨a, e.al n k a h1, h2⟩
  | .fn i, v, h => h
  | .scr l, v, ⟨a, h1, .inl ⟨o, h2, h3⟩⟩ => let ⟨h4, h5⟩ := e.hp a _ h2 h3; ⟨a, h1, .inl ⟨o, h5, h4⟩⟩
  | .scr l, v, ⟨a, h1, .inr h2⟩ => ⟨a, h1, .inr h2⟩
  | .gt l, v, ⟨a, xs, h1, h2, h3⟩ => ⟨a, xs, h1, h2, RpL.ext e l xs h3⟩
theorem RDL.ext (e : Ext α W H α' W' H') : ∀ (d : List D) (v : List V), RDL T α W H d v → RDL T α' W' H' d v
  | [], v, h => h
  | d :: ds, v, ⟨x, r, h1, h2, h3⟩ => ⟨x, r, h1, h2.ext e, RDL.ext e ds r h3⟩
theorem RS.ext (e : Ext α W H α' W' H') {ρ : Env} {σ : L2.St} (h : RS T α W H ρ σ) : RS T α' W' H' ρ σ :=
  ⟨h.1, fun i d q => let ⟨v, h1, h2⟩ := h.2 i d q; ⟨v, h1, h2.ext e⟩⟩
mutual
theorem Rp_g {gh : Addr → Option HO} : ∀ (x : P) (v : V), Rp (T.g gh) W H x v ↔ Rp T W H x v
  | .non, _ => by simp only [Rp]
  | .bl _, _ => by simp only [Rp]
  | .int _, _ => by simp only [Rp]
  | .str _, _ => by simp only [Rp]
  | .tup l, v => by simp only [Rp, RpL_g l]
  | .lst l, v => by simp only [Rp, RpL_g l]
  | .dic false l, v => by simp only [Rp, RpD_g l]
  | .dic true l, v => by simp only [Rp, RpT_g l]
  | .set _, _ => by simp only [Rp]
  | .ins c fs, v => by simp only [Rp, RpL_g fs, Flds_g]; exact Iff.rfl
  | .exc c fs, v => by simp only [Rp, RpL_g fs]; exact Iff.rfl
theorem RpL_g {gh : Addr → Option HO} : ∀ (l : List P) (xs : List V), RpL (T.g gh) W H l xs ↔ RpL T W H l xs
  | [], _ => by simp only [RpL]
  | d :: ds, xs => by simp only [RpL, Rp_g d, RpL_g ds]
theorem RpD_g {gh : Addr → Option HO} : ∀ (l : List P) (xs : List (Key × V)), RpD (T.g gh) W H l xs ↔ RpD T W H l xs
  | [], _ => by simp only [RpD]
  | .tup l :: ds, xs => by simp only [RpD, RpL_g l, RpD_g ds]
  | .non :: _, _ => by simp only [RpD]
  | .bl _ :: _, _ => by simp only [RpD]
  | .int _ :: _, _ => by simp only [RpD]
  | .str _ :: _, _ => by simp only [RpD]
  | .lst _ :: _, _ => by simp only [RpD]
  | .dic _ _ :: _, _ => by simp only [RpD]
  | .set _ :: _, _ => by simp only [RpD]
  | .ins _ _ :: _, _ => by simp only [RpD]
  | .exc _ _ :: _, _ => by simp only [RpD]
theorem RpT_g {gh : Addr → Option HO} : ∀ (l : List P) (xs : List (List Key × V)), RpT (T.g gh) W H l xs ↔ RpT T W H l xs
  | [], _ => by simp only [RpT]
  | .tup [k, v] :: ds, xs => by simp only [RpT, Rp_g v, RpT_g ds]
  | .tup [] :: _, _ => by simp only [RpT]
  | .tup [_] :: _, _ => by simp only [RpT]
  | .tup (_ :: _ :: _ :: _) :: _, _ => by simp only [RpT]
  | .non :: _, _ => by simp only [RpT]
  | .bl _ :: _, _ => by simp only [RpT]
  | .int _ :: _, _ => by simp only [RpT]
  | .str _ :: _, _ => by simp only [RpT]
  | .lst _ :: _, _ => by simp only [RpT]
  | .dic _ _ :: _, _ => by simp only [RpT]
  | .set _ :: _, _ => by simp only [RpT]
  | .ins _ _ :: _, _ => by simp only [RpT]
  | .exc _ _ :: _, _ => by simp only [RpT]
end
theorem Rp_ge (T : Tb) (W : Addr → Prop) (H : Hp) (gh : Addr → Option HO) : Rp (T.g gh) W H = Rp T W H := by funext x v; exact propext (Rp_g x v)
theorem RpL_ge (T : Tb) (W : Addr → Prop) (H : Hp) (gh : Addr → Option HO) : RpL (T.g gh) W H = RpL T W H := by funext x v; exact propext (RpL_g x v)
theorem RpD_ge (T : Tb) (W : Addr → Prop) (H : Hp) (gh : Addr → Option HO) : RpD (T.g gh) W H = RpD T W H := by funext x v; exact propext (RpD_g x v)
theorem RpT_ge (T : Tb) (W : Addr → Prop) (H : Hp) (gh : Addr → Option HO) : RpT (T.g gh) W H = RpT T W H := by funext x v; exact propext (RpT_g x v)
theorem At_ge (T : Tb) (W : Addr → Prop) (H : Hp) (gh : Addr → Option HO) : At (T.g gh) W H = At T W H := by
  funext x a
  unfold At
  split <;> try simp only [RpL_ge, RpD_ge, RpT_ge]
  all_goals rfl
theorem RD_ge (T : Tb) (α : Al) (W : Addr → Prop) (H : Hp) (gh : Addr → Option HO) : RD (T.g gh) α W H = RD T α W H := by
  funext d v
  cases d <;> try simp only [RD, Rp_ge, RpL_ge]
  all_goals rfl
theorem RDL_ge (T : Tb) (α : Al) (W : Addr → Prop) (H : Hp) (gh : Addr → Option HO) : ∀ ds vs, RDL (T.g gh) α W H ds vs = RDL T α W H ds vs
  | [], _ => rfl
  | d :: ds, vs => by simp only [RDL, RD_ge, RDL_ge T α W H gh ds]
theorem RS_ge (T : Tb) (α : Al) (W : Addr → Prop) (H : Hp) (gh : Addr → Option HO) : RS (T.g gh) α W H = RS T α W H := by
  funext ρ σ
  simp only [RS, RD_ge]
theorem FldV_ge (T : Tb) (W : Addr → Prop) (H : Hp) (gh : Addr → Option HO) (o : Option Addr) (f : Bool × P) : FldV (T.g gh) W H o f = FldV T W H o f := by
  obtain ⟨b, x⟩ := f
  funext v
  cases b <;> simp only [FldV, Rp_ge]
theorem FldsV_ge (T : Tb) (W : Addr → Prop) (H : Hp) (gh : Addr → Option HO) (g : Nat → Option Addr) : ∀ k fs xs, FldsV (T.g gh) W H g k fs xs = FldsV T W H g k fs xs
  | _, [], _ => rfl
  | k, f :: fs, xs => by simp only [FldsV, FldV_ge, FldsV_ge T W H gh g (k + 1) fs]
theorem InsAt_ge (T : Tb) (W : Addr → Prop) (H : Hp) (gh : Addr → Option HO) (g : Nat → Option Addr) (c : Nat) (fs : List (Bool × P)) (a : Addr) : InsAt (T.g gh) W H g c fs a = InsAt T W H g c fs a := by
  simp only [InsAt, FldsV_ge, Flds_g]
  rfl
theorem HR.gh {m : Mem} {gh : Addr → Option HO} (hr : HR T α W H m) (hg : ∀ a o, gh a = some o → W a ∧ H a = some o ∧ ∀ n k, live m n k = true → α n k ≠ some a) : HR (T.g gh) α W H m where
  wd := hr.wd
  out := hr.out
  cel := fun n k x h => by rw [At_ge]; exact hr.cel n k x h
  ins := fun n c fs h => let ⟨a, h1, h2, h3⟩ := hr.ins n c fs h; ⟨a, h1, h2, (InsAt_ge T W H gh (α n) c fs a).mpr h3⟩
  inj := hr.inj
  gho := hg
/-- less is written: more is told -/
theorem Ext.less (h : ∀ a, W' a → W a) : Ext α W H α W' H := ⟨fun _ _ _ h => h, fun a _ q e => ⟨e, fun z => q (h a z)⟩⟩
theorem At.ext {x : P} {a : Addr} (e : Ext α W H α' W' H') (hs : ∀ o, H a = some o → H' a = some o) (h : At T W H x a) : At T W' H' x a := by
  unfold At at h ⊢
  split at h
  · obtain ⟨xs, h1, h2⟩ := h
    exact ⟨xs, hs _ h1, RpL.ext e _ _ h2⟩
  · obtain ⟨xs, h1, nd, h2⟩ := h
    exact ⟨xs, hs _ h1, nd, RpD.ext e _ _ h2⟩
  · obtain ⟨xs, h1, nd, h2⟩ := h
    exact ⟨xs, hs _ h1, nd, RpT.ext e _ _ h2⟩
  · obtain ⟨ks, h1, nd, h2⟩ := h
    exact ⟨ks, h1, nd, hs _ h2⟩
  · exact h
theorem FldV.ext {o o' : Option Addr} {f : Bool × P} {v : V} (e : Ext α W H α' W' H') (ho : ∀ a, o = some a → o' = some a) (h : FldV T W H o f v) : FldV T W' H' o' f v := by
  obtain ⟨b, x⟩ := f
  cases b with
  | false => exact Rp.ext e x v h
  | true => obtain ⟨a, h1, h2⟩ := h; exact ⟨a, ho a h1, h2⟩
theorem FldsV.ext {g g' : Nat → Option Addr} (e : Ext α W H α' W' H') (hg : ∀ k a, g k = some a → g' k = some a) : ∀ (k : Nat) (fs : List (Bool × P)) (xs : List V), FldsV T W H g k fs xs → FldsV T W' H' g' k fs xs
  | _, [], _, h => h
  | k, f :: fs, xs, ⟨v, r, h1, h2, h3⟩ => ⟨v, r, h1, h2.ext e fun a => hg _ a, FldsV.ext e hg (k + 1) fs r h3⟩
theorem InsAt.ext {g g' : Nat → Option Addr} {c : Nat} {fs : List (Bool × P)} {a : Addr} (e : Ext α W H α' W' H') (hs : ∀ o, H a = some o → H' a = some o) (hg : ∀ k a, g k = some a → g' k = some a) (h : InsAt T W H g c fs a) : InsAt T W' H' g' c fs a := by
  obtain ⟨dx, xs, r, h1, h2, h3⟩ := h
  exact ⟨dx, xs, r, hs _ h1, h2, h3.ext e hg⟩
end
end Lot
/-! LotC: outcomes, readings, what stays of a memory. -/
namespace Lot
open PySem PySem.Spec PyProof.Rows L2

section
variable {T : Tb} {α α' : Al} {W W' : Addr → Prop} {H H' : Hp} {m : Mem}
/-- an outcome suffices: whatever later state bears it, Q -/
def Hg (T : Tb) {β : Type} (α : Al) (W : Addr → Prop) (H : Hp) (o : Out β) (Q : β → Mem → Al → (Addr → Prop) → Hp → Prop) : Prop := match o with
  | .ok b m => ∀ α' W' H', Ext α W H α' W' H' → HR T α' W' H' m → Q b m α' W' H'
  | _ => False
/-- the end of an expression -/
def fin (T : Tb) (Q : VK) : D → Mem → Al → (Addr → Prop) → Hp → Prop := fun d _ α W H => ∀ v, RD T α W H d v → Q v H
/-- .. whose value is a new list, which may still change -/
def HgF (T : Tb) (α : Al) (W : Addr → Prop) (H : Hp) (o : Out D) (Q : VK) : Prop := match o with
  | .ok (.p (.lst l)) m => ∀ α' W' H' xs p, Ext α W H α' W' H' → HR T α' W' H' m → W' p → H' p = some (.lst xs) → RpL T W' H' l xs → (∀ n k, live m n k = true → α' n k ≠ some p) → T.gh p = none → Q (.ref p) H'
  | _ => False
def Hx (T : Tb) (α : Al) (W : Addr → Prop) (H : Hp) (o : Out D) (Q : VK) : Prop := Hg T α W H o (fin T Q) ∨ HgF T α W H o Q
theorem Hg.mono {β : Type} {o : Out β} {Q Q' : β → Mem → Al → (Addr → Prop) → Hp → Prop} (h : Hg T α W H o Q) (f : ∀ b m α' W' H', Ext α W H α' W' H' → HR T α' W' H' m → Q b m α' W' H' → Q' b m α' W' H') : Hg T α W H o Q' := by
  unfold Hg at h ⊢
  split at h
  · intro α' W' H' e hr
    exact f _ _ _ _ _ e hr (h α' W' H' e hr)
  · exact h
theorem Hg.from {β : Type} {o : Out β} {Q : β → Mem → Al → (Addr → Prop) → Hp → Prop} (e : Ext α W H α' W' H') (h : Hg T α W H o Q) : Hg T α' W' H' o Q := by
  unfold Hg at h ⊢
  split at h
  · intro α2 W2 H2 e2 hr
    exact h _ _ _ (e.trans e2) hr
  · exact h
theorem HgF.from {o : Out D} {Q : VK} (e : Ext α W H α' W' H') (h : HgF T α W H o Q) : HgF T α' W' H' o Q := by
  unfold HgF at h ⊢
  split at h
  · intro α2 W2 H2 xs p e2 hr
    exact h _ _ _ _ _ (e.trans e2) hr
  · exact h
theorem Hx.from {o : Out D} {Q : VK} (e : Ext α W H α' W' H') (h : Hx T α W H o Q) : Hx T α' W' H' o Q := h.imp (·.from e) (·.from e)
theorem Hg.bind {β γ : Type} {o : Out β} {f : β → Mem → Out γ} {Q : γ → Mem → Al → (Addr → Prop) → Hp → Prop} (h : Hg T α W H (o.bind f) Q) : Hg T α W H o fun b m α1 W1 H1 => Hg T α1 W1 H1 (f b m) Q := by
  cases o with
  | ok b m => exact fun α1 W1 H1 e hr => Hg.from e h
  | exn _ _ _ => exact h
  | bad => exact h
theorem HgF.bind {β : Type} {o : Out β} {f : β → Mem → Out D} {Q : VK} (h : HgF T α W H (o.bind f) Q) : Hg T α W H o fun b m α1 W1 H1 => HgF T α1 W1 H1 (f b m) Q := by
  cases o with
  | ok b m => exact fun α1 W1 H1 e hr => HgF.from e h
  | exn _ _ _ => exact h.elim
  | bad => exact h.elim
theorem Hx.bind {β : Type} {o : Out β} {f : β → Mem → Out D} {Q : VK} (h : Hx T α W H (o.bind f) Q) : Hg T α W H o fun b m α1 W1 H1 => Hx T α1 W1 H1 (f b m) Q := by
  rcases h with h | h
  · exact h.bind.mono fun _ _ _ _ _ _ _ q => .inl q
  · exact h.bind.mono fun _ _ _ _ _ _ _ q => .inr q
theorem Hg.ok {β : Type} {b : β} {Q : β → Mem → Al → (Addr → Prop) → Hp → Prop} (h : Hg T α W H (.ok b m) Q) {α' : Al} {W' : Addr → Prop} {H' : Hp} (e : Ext α W H α' W' H') (hr : HR T α' W' H' m) : Q b m α' W' H' := h α' W' H' e hr
theorem Hg.here {β : Type} {b : β} {Q : β → Mem → Al → (Addr → Prop) → Hp → Prop} (h : Hg T α W H (.ok b m) Q) (hr : HR T α W H m) : Q b m α W H := h α W H .refl hr
/-- a value that is data already read -/
theorem Hx.p {x : P} {Q : VK} (h : Hx T α W H (.ok (.p x) m) Q) (hx : ∀ l, x ≠ .lst l) {α' : Al} {W' : Addr → Prop} {H' : Hp} (e : Ext α W H α' W' H') (hr : HR T α' W' H' m) {v : V} (r : Rp T W' H' x v) : Q v H' := by
  rcases h with h | h
  · exact h α' W' H' e hr v r
  · cases x <;> first | exact h.elim | exact absurd rfl (hx _)

theorem live_cell {n k : Nat} {x : P} (h : cell m n k = some x) : live m n k = true := by
  unfold live
  split
  · rfl
  · rw [h]; rfl
theorem live_ins {n c : Nat} {fs : List (Bool × P)} (h : getM m n = .ins c fs) : live m n 0 = true := by
  unfold live; rw [h]; rfl
theorem HR.keep (hr : HR T α W H m) (e : Ext α W H α W' H') (hw : ∀ a, W' a → H' a ≠ none) (hs : ∀ a o, (∃ n k, live m n k = true ∧ α n k = some a) ∨ (∃ u, T.gh a = some u) → W a → H a = some o → H' a = some o ∧ W' a) : HR T α W' H' m where
  wd := hw
  out := hr.out
  cel := fun n k x h => by
    obtain ⟨a, h1, h2, h3⟩ := hr.cel n k x h
    obtain ⟨o, ho⟩ : ∃ o, H a = some o := by
      cases q : H a with
      | none => exact absurd q (hr.wd a h2)
      | some o => exact ⟨o, rfl⟩
    have hl : (∃ n k, live m n k = true ∧ α n k = some a) ∨ (∃ u, T.gh a = some u) := .inl ⟨n, k, live_cell h, h1⟩
    exact ⟨a, h1, (hs a o hl h2 ho).2, h3.ext e fun o' q => (hs a o' hl h2 q).1⟩
  ins := fun n c fs h => by
    obtain ⟨a, h1, h2, h3⟩ := hr.ins n c fs h
    obtain ⟨o, ho⟩ : ∃ o, H a = some o := by
      cases q : H a with
      | none => exact absurd q (hr.wd a h2)
      | some o => exact ⟨o, rfl⟩
    have hl : (∃ n k, live m n k = true ∧ α n k = some a) ∨ (∃ u, T.gh a = some u) := .inl ⟨n, 0, live_ins h, h1⟩
    exact ⟨a, h1, (hs a o hl h2 ho).2, h3.ext e (fun o' q => (hs a o' hl h2 q).1) fun _ _ q => q⟩
  inj := hr.inj
  gho := fun a o h => by
    obtain ⟨h1, h2, h3⟩ := hr.gho a o h
    obtain ⟨h4, h5⟩ := hs a o (.inr ⟨o, h⟩) h1 h2
    exact ⟨h5, h4, h3⟩
/-- the heap grows by a new object -/
theorem Ext.new {p : Addr} {o : HO} (hp : H p = none) : Ext α W H α W (upd H p o) :=
  ⟨fun _ _ _ h => h, fun a o' h e => ⟨by rw [upd_ne (ne_of_none e hp)]; exact e, h⟩⟩
theorem HR.new {p : Addr} {o : HO} (hr : HR T α W H m) (hp : H p = none) : HR T α W (upd H p o) m :=
  hr.keep (.new hp) (fun a h q => by
    by_cases z : a = p
    · subst z; exact hr.wd a h hp
    · rw [upd_ne z] at q; exact hr.wd a h q) fun a o' _ hw e => ⟨by rw [upd_ne (ne_of_none e hp)]; exact e, hw⟩
theorem HR.free {p : Addr} (hr : HR T α W H m) (hp : H p = none) : ¬ W p := fun h => hr.wd p h hp
/-- a new object that is ours, but no object of the memory's -/
abbrev wUp (W : Addr → Prop) (p : Addr) : Addr → Prop := fun a => W a ∨ a = p
abbrev wDn (W : Addr → Prop) (p : Addr) : Addr → Prop := fun a => W a ∧ a ≠ p
theorem Ext.hid {p : Addr} {o : HO} (hp : H p = none) : Ext α W H α (wUp W p) (upd H p o) :=
  ⟨fun _ _ _ h => h, fun a o' h e => ⟨by rw [upd_ne (ne_of_none e hp)]; exact e, fun z => z.elim h (ne_of_none e hp)⟩⟩
theorem HR.hid {p : Addr} {o : HO} (hr : HR T α W H m) (hp : H p = none) : HR T α (wUp W p) (upd H p o) m :=
  hr.keep (.hid hp) (fun a h q => by
    by_cases z : a = p
    · subst z; rw [upd_same] at q; cases q
    · rw [upd_ne z] at q
      rcases h with h | h
      · exact hr.wd a h q
      · exact z h) fun a o' _ hw e => ⟨by rw [upd_ne (ne_of_none e hp)]; exact e, .inl hw⟩
/-- what is live lies somewhere -/
theorem HR.at_ (hr : HR T α W H m) (n k : Nat) (hl : live m n k = true) : ∃ a, α n k = some a ∧ W a := by
  have go : ∀ x, cell m n k = some x → ∃ a, α n k = some a ∧ W a := fun x q => let ⟨a, h1, h2, _⟩ := hr.cel n k x q; ⟨a, h1, h2⟩
  have go2 : (cell m n k).isSome = true → ∃ a, α n k = some a ∧ W a := fun h => by
    cases q : cell m n k with
    | none => rw [q] at h; cases h
    | some x => exact go x q
  cases q : getM m n with
  | ins c fs =>
    cases k with
    | zero => obtain ⟨a, h1, h2, _⟩ := hr.ins n c fs q; exact ⟨a, h1, h2⟩
    | succ k => exact go2 (by simpa [live, q] using hl)
  | val x => exact go2 (by simpa [live, q] using hl)
  | dead => exact go2 (by simpa [live, q] using hl)
theorem HR.noAl {p : Addr} (hr : HR T α W H m) (hp : H p = none) (n k : Nat) (hl : live m n k = true) : α n k ≠ some p := fun e => by
  obtain ⟨a, h1, h2⟩ := hr.at_ n k hl
  rw [e] at h1; cases h1
  exact hr.wd _ h2 hp
theorem live_lt {n k : Nat} (h : live m n k = true) : n < m.length := by
  refine Nat.lt_of_not_le fun q => ?_
  have e : getM m n = .dead := by unfold getM; rw [List.getElem?_eq_none q]; rfl
  simp [live, cell, e] at h
/-- an object of ours is from now on read alone -/
theorem HR.less {p : Addr} (hr : HR T α W H m) (hn : ∀ n k, live m n k = true → α n k ≠ some p) (hg : T.gh p = none) : HR T α (wDn W p) H m where
  wd := fun a h => hr.wd a h.1
  out := hr.out
  cel := fun n k x h => by
    obtain ⟨a, h1, h2, h3⟩ := hr.cel n k x h
    exact ⟨a, h1, ⟨h2, fun z => hn n k (live_cell h) (by rw [h1, z])⟩, h3.ext (α := α) (α' := α) (.less fun _ z => z.1) fun _ q => q⟩
  ins := fun n c fs h => by
    obtain ⟨a, h1, h2, h3⟩ := hr.ins n c fs h
    exact ⟨a, h1, ⟨h2, fun z => hn n 0 (live_ins h) (by rw [h1, z])⟩, h3.ext (α := α) (α' := α) (.less fun _ z => z.1) (fun _ q => q) fun _ _ q => q⟩
  inj := hr.inj
  gho := fun a o h => by
    obtain ⟨h1, h2, h3⟩ := hr.gho a o h
    exact ⟨⟨h1, fun z => by rw [z, hg] at h; cases h⟩, h2, h3⟩
theorem Ext.dn {p : Addr} (e : Ext α W H α' W' H') : Ext α W H α' (wDn W' p) H' := ⟨e.al, fun a o h q => let ⟨h1, h2⟩ := e.hp a o h q; ⟨h1, fun z => h2 z.1⟩⟩
/-- a new list as data -/
theorem Hg.frozen {l : List P} {Q : VK} (h : Hg T α W H (.ok (.p (.lst l)) m) (fin T Q)) : HgF T α W H (.ok (.p (.lst l)) m) Q := fun α' W' H' xs p e hr _ hp rl hn hg =>
  h α' (wDn W' p) H' e.dn (hr.less hn hg) (.ref p) (by
    show Rp T (wDn W' p) H' (.lst l) (.ref p)
    simp only [Rp]
    exact ⟨p, xs, rfl, fun z => z.2 rfl, hp, RpL.ext (α := α') (α' := α') (.less fun _ z => z.1) l xs rl⟩)
theorem Hx.F {l : List P} {Q : VK} (h : Hx T α W H (.ok (.p (.lst l)) m) Q) : HgF T α W H (.ok (.p (.lst l)) m) Q := h.elim (·.frozen) id
theorem getM_app {x : Obj} {n : Nat} (h : n < m.length) : getM (m ++ [x]) n = getM m n := by
  unfold getM; rw [List.getElem?_append_left h]
theorem getM_new {x : Obj} : getM (m ++ [x]) m.length = x := by
  unfold getM; rw [List.getElem?_append_right (Nat.le_refl _)]; simp
theorem getM_out {n : Nat} (h : m.length ≤ n) : getM m n = .dead := by
  unfold getM; rw [List.getElem?_eq_none h]; rfl
def aUp (α : Al) (n k : Nat) (p : Addr) : Al := fun i j => if i = n ∧ j = k then some p else α i j
theorem aUp_same {n k : Nat} {p : Addr} : aUp α n k p n k = some p := by unfold aUp; rw [if_pos ⟨rfl, rfl⟩]
theorem aUp_ne {n k i j : Nat} {p : Addr} (h : ¬ (i = n ∧ j = k)) : aUp α n k p i j = α i j := by unfold aUp; rw [if_neg h]
theorem live_app {x : P} {i j : Nat} (h : live (m ++ [.val x]) i j = true) : (i = m.length ∧ j = 0) ∨ live m i j = true := by
  by_cases hl : i < m.length
  · right
    unfold live cell at h ⊢
    rw [getM_app hl] at h
    exact h
  · left
    have := live_lt h
    rw [List.length_append] at this
    have this : i < m.length + 1 := this
    have e : i = m.length := by omega
    subst e
    refine ⟨rfl, ?_⟩
    unfold live cell at h
    rw [getM_new] at h
    cases j with
    | zero => rfl
    | succ j => simp at h
/-- what stands hidden is no new object -/
theorem HR.noGh {p : Addr} (hr : HR T α W H m) (hp : H p = none) : T.gh p = none := by
  cases q : T.gh p with
  | none => rfl
  | some o => have := (hr.gho p o q).2.1; rw [hp] at this; cases this
/-- a new object of the memory's -/
theorem HR.put {p : Addr} {x : P} (hr : HR T α W H m) (hw : W p) (ha : At T W H x p) (hn : ∀ n k, live m n k = true → α n k ≠ some p) (hg : T.gh p = none) : HR T (aUp α m.length 0 p) W H (m ++ [.val x]) where
  wd := hr.wd
  out := fun n k h => by
    rw [List.length_append] at h
    have h' : m.length + 1 ≤ n := h
    rw [aUp_ne (by omega)]
    exact hr.out n k (by omega)
  cel := fun n k y h => by
    by_cases hl : n < m.length
    · have e : cell (m ++ [.val x]) n k = cell m n k := by unfold cell; rw [getM_app hl]
      rw [e] at h
      rw [aUp_ne (by omega)]
      obtain ⟨a, h1, h2, h3⟩ := hr.cel n k y h
      exact ⟨a, h1, h2, h3⟩
    · by_cases he : n = m.length
      · subst he
        unfold cell at h
        rw [getM_new] at h
        cases k with
        | zero => cases h; exact ⟨p, aUp_same, hw, ha⟩
        | succ k => cases h
      · unfold cell at h
        rw [getM_out (by rw [List.length_append]; show m.length + 1 ≤ n; omega)] at h
        cases h
  ins := fun n c fs h => by
    by_cases hl : n < m.length
    · rw [getM_app hl] at h
      rw [aUp_ne (by omega)]
      obtain ⟨a, h1, h2, h3⟩ := hr.ins n c fs h
      exact ⟨a, h1, h2, h3.ext (α := α) (α' := α) .refl (fun _ q => q) fun k b q => by rw [aUp_ne (by omega)]; exact q⟩
    · by_cases he : n = m.length
      · subst he; rw [getM_new] at h; cases h
      · rw [getM_out (by rw [List.length_append]; show m.length + 1 ≤ n; omega)] at h
        cases h
  inj := fun n k n' k' a l1 l2 e1 e2 => by
    rcases live_app l1 with ⟨rfl, rfl⟩ | q1
    · rcases live_app l2 with ⟨rfl, rfl⟩ | q2
      · exact ⟨rfl, rfl⟩
      · rw [aUp_same] at e1; cases e1
        have := live_lt q2
        rw [aUp_ne (by omega)] at e2
        exact absurd e2 (hn _ _ q2)
    · have := live_lt q1
      rw [aUp_ne (by omega)] at e1
      rcases live_app l2 with ⟨rfl, rfl⟩ | q2
      · rw [aUp_same] at e2; cases e2
        exact absurd e1 (hn _ _ q1)
      · have := live_lt q2
        rw [aUp_ne (by omega)] at e2
        exact hr.inj n k n' k' a q1 q2 e1 e2
  gho := fun a o h => by
    obtain ⟨h1, h2, h3⟩ := hr.gho a o h
    refine ⟨h1, h2, fun i j l q => ?_⟩
    rcases live_app l with ⟨rfl, rfl⟩ | q2
    · rw [aUp_same] at q; cases q
      rw [hg] at h; cases h
    · have := live_lt q2
      rw [aUp_ne (by omega)] at q
      exact h3 _ _ q2 q
theorem Ext.up {n k : Nat} {p : Addr} (e : Ext α W H α' W' H') (h : α n k = none) : Ext α W H (aUp α' n k p) W' H' := ⟨fun i j a q => by
  by_cases z : i = n ∧ j = k
  · obtain ⟨rfl, rfl⟩ := z; rw [h] at q; cases q
  · rw [aUp_ne z]; exact e.al i j a q, e.hp⟩
theorem Ext.unset (e : Ext α W H α' W' H') (hr : HR T α' W' H' m) {n k : Nat} (h : m.length ≤ n) : α n k = none := by
  cases q : α n k with
  | none => rfl
  | some a => have := e.al n k a q; rw [hr.out n k h] at this; cases this
/-- a new list as an object of the memory -/
theorem Hg.alloc {l : List P} {Q : VK} (h : Hg T α W H (.ok (.ref m.length 0) (m ++ [.val (.lst l)])) (fin T Q)) : HgF T α W H (.ok (.p (.lst l)) m) Q := fun α' W' H' xs p e hr hw hp rl hn hg =>
  h (aUp α' m.length 0 p) W' H' (e.up (e.unset hr (Nat.le_refl _))) (hr.put hw ⟨xs, hp, rl⟩ hn hg) (.ref p) ⟨p, aUp_same, rfl⟩
end
end Lot
/-! LotGa: promises of defs where it is known that no repr is under way (what the call stands in has none). -/
namespace Lot
open PySem PySem.Spec PyProof.Rows L2
/-- no repr is under way -/
def Calm (A : Around) : Prop := A.guards = some []
theorem Calm.deeper {A : Around} (c : Calm A) (env : PySem.Env) : Calm (A.deeper env) := c
/-- a def's promise, there -/
structure FnG (P : Program) (w : World) (K : PySem.W.Frag) (mg : Str → Option Value) (base : Heap) (k : Nat) (fa : Addr) (fd : FuncData) (ps : List Str) (sp : Sp) : Prop where
  len : ∀ vs H Q E, sp vs H Q E → vs.length = ps.length
  go : ∀ (B : Around) (stk : List PySem.Env) (s0 : Shared) (H0 : Hp) (given : Args) (us : List Value) (vs : List V) (Q : VK) (E : XK), Calm B → Room k B → Env0 P w K mg base B stk s0 H0 →
    BindsTo s0 fd given (ps.zip us) → Vals vs us → sp vs H0 Q E → codeAny (model P w) B (.call (.ref fa) given) (CR CX0 stk P w H0 s0 Q E) s0
section
variable {P : Program} {w : World} {K : PySem.W.Frag} {mg : Str → Option Value} {base : Heap} {k : Nat} {fa : Addr} {fd : FuncData} {ps : List Str} {sp : Sp}
theorem FnG.of (F : FnOk P w K mg base CX0 k fa fd ps sp) : FnG P w K mg base k fa fd ps sp := ⟨F.len, fun B stk s0 H0 given us vs Q E _ => F.run B stk s0 H0 given us vs Q E⟩
end
section
variable {X : Cx} {k : Nat} {fa : Addr} {fd : FuncData} {ps : List Str} {sp : Sp} {E : XK} {x : Str} {p pos : Pos} {e : Expr} {es : List Expr} {t : TA}
/-- the callee goes -/
theorem go_fn {pins : List (Addr × PySem.Obj)} {σ : L2.St} {H : Hp} {s : Shared} {Q : VK} {us : List Value} {vs : List V} (F : FnG X.prog X.w X.K X.mg X.base k fa fd ps sp) (hc : Calm X.A) (hr : Room k X.A) (hb : Binds X.K fd ps []) (hx : Passes CX0 X E)
    (inv : L2.Inv X pins σ H s) (rv : Vals vs us) (hs : sp vs H Q E) : wpAny (model X.prog X.w) X.A (call (.ref fa) us) (EP X pins σ Q) X.xe s := by
  have e1 : us ++ ([] : List Value) = us := List.append_nil us
  have hl : (us ++ ([] : List Value)).length = ps.length := by rw [e1, ← rv.length]; exact F.len _ _ _ _ hs
  have bt := hb s us inv.kIn hl
  rw [e1] at bt
  refine wpAny_call (codeAny_mono (F.go X.A X.stack s H ⟨us, []⟩ us vs Q E hc hr inv.env0 bt rv hs) fun out s' ho => ?_)
  match out, ho with
  | .error er, ho => exact hx pins σ H s er s' inv ho
  | .ok (.ret u), ho => exact inv.after ho
theorem pg_call (F : FnG X.prog X.w X.K X.mg X.base k fa fd ps sp) (hc : Calm X.A) (hr : Room k X.A) (hg : Gl X x) (hm : X.mg x = some (.ref fa)) (hk : PySem.W.keepIn X.K (.ref fa) = true) (hb : Binds X.K fd ps []) (hx : Passes CX0 X E)
    (ha : PA X (e :: es) t) (hdb : (x == ("__debug__" : Str)) = false) (he : starEach (e :: es) X.env = (false, eval e X.env) :: starEach es X.env) (hpl : (backTo pos (starEach es X.env)).any (·.1) = false) :
    PE X (.Call (.Name x p) (e :: es) [] pos) (fun σ H Q => t σ H fun vs H1 => sp vs H1 Q E) := ⟨fun pins s σ H Q inv q =>
  wpAny_Call_Name_kw (ld_glob inv hg hm (PySem.W.callWith_K (h₀ := X.base) inv.ok.mod.kin hk (thn (ha.run pos pins s σ H _ inv q) fun us s1 ⟨vs, H1, inv1, rv, q1⟩ => ⟨inv1.kIn, go_fn F hc hr hb hx inv1 rv q1⟩) he hpl) hdb)⟩
theorem pg_call0 (F : FnG X.prog X.w X.K X.mg X.base k fa fd ps sp) (hc : Calm X.A) (hr : Room k X.A) (hg : Gl X x) (hm : X.mg x = some (.ref fa)) (hk : PySem.W.keepIn X.K (.ref fa) = true) (hb : Binds X.K fd ps []) (hx : Passes CX0 X E)
    (hdb : (x == ("__debug__" : Str)) = false) : PE X (.Call (.Name x p) [] [] pos) (fun σ H Q => sp [] H Q E) := ⟨fun pins s σ H Q inv q =>
  wpAny_Call_Name_kw (ld_glob inv hg hm (PySem.W.callWith_K0 inv.kIn hk (go_fn (us := []) F hc hr hb hx inv .nil q)) hdb)⟩
theorem pg_callL {i : Nat} (F : FnG X.prog X.w X.K X.mg X.base k fa fd ps sp) (hc : Calm X.A) (hr : Room k X.A) (hN : X.N[i]? = some x) (hv : Vis X.env.scope x) (hk : PySem.W.keepIn X.K (.ref fa) = true) (hb : Binds X.K fd ps []) (hx : Passes CX0 X E) (ha : PA X (e :: es) t)
    (hdb : (x == ("__debug__" : Str)) = false) (hcd : (x == ("__classdict__" : Str)) = false) (he : starEach (e :: es) X.env = (false, eval e X.env) :: starEach es X.env) (hpl : (backTo pos (starEach es X.env)).any (·.1) = false) :
    PE X (.Call (.Name x p) (e :: es) [] pos) (fun σ H Q => σ[i]? = some (some (.ref fa)) ∧ t σ H fun vs H1 => sp vs H1 Q E) := ⟨fun pins s σ H Q inv ⟨q0, q⟩ =>
  wpAny_Call_Name_kw (thn ((pe_var (pos := p) hN hv hdb hcd).run pins s σ H (fun v H1 => v = .ref fa ∧ H1 = H) inv ⟨.ref fa, q0, rfl, rfl⟩) fun u s1 ⟨v, H1, inv1, r1, a1, a2⟩ => by
    subst a1; subst a2
    cases r1
    exact PySem.W.callWith_K (h₀ := X.base) inv.ok.mod.kin hk (thn (ha.run pos pins s1 σ _ _ inv1 q) fun us s2 ⟨vs, H2, inv2, rv, q2⟩ => ⟨inv2.kIn, go_fn F hc hr hb hx inv2 rv q2⟩) he hpl)⟩
end
section
variable {P : Program} {w : World} {K : PySem.W.Frag} {mg : Str → Option Value} {base : Heap} {x qual : Str} {params : Arguments} {body : List Stmt} {scope : Scope} {dvs : List V} {kws : List (Str × V)} {fa : Addr} {fd : FuncData}
/-- a def keeps it -/
theorem FunD.okG {N ps : List Str} {k : Nat} {sp : Sp} (F : FunD K x qual params body scope dvs kws fa fd) (Sc : FnScope N ps scope) (len : ∀ vs H Q E, sp vs H Q E → vs.length = ps.length)
    (hbody : ∀ (cdv : Value) (B : Around) (stk : List PySem.Env) (s0 : Shared) (H0 : Hp) (vs : List V) (Q : VK) (E : XK), Calm B → Room k (B.deeper (envOfC qual scope s0.heap.objs.size fa cdv)) → sp vs H0 Q E →
      ∃ t, PSs (cxOf CX0 P w K mg base N qual scope fa cdv B stk s0 H0 E) body t ∧ t { nx := fun _ H' => Q .non H', rt := Q } (L2.start N vs) H0) : FnG P w K mg base (k + 1) fa fd ps sp := by
  obtain ⟨oc, od, dV, kV, doc, pm, an, cdv, ct, osl, rfl, lk, hcd, _, _⟩ := F.ex
  refine ⟨len, fun B stk s0 H0 given us vs Q E calm room e0 hb rv q => ?_⟩
  have hl := len _ _ _ _ q
  have kin : K.In s0.heap := e0.mod.kin.keeps fun b o z => (e0.bs b o z).1
  have nl : s0.heap.NoLimit := e0.mod.nolimit.keeps fun b o z => (e0.bs b o z).1
  refine codeAny_call_function room.depth (kin _ _ lk) rfl Sc.co Sc.gen rfl (PySem.W.codeRec_of kin hcd) (hb _ _ _ _ (wpAny_newFunctionEnv_cells Sc.kind (fun y hy => ?_) fun env he s1 x1 => ?_))
  · rcases Sc.par y.1 (List.of_mem_zip (show (y.1, y.2) ∈ ps.zip us from hy)).1 with h | h
    · exact .inl h
    · exact .inr ⟨h, PySem.W.cellsFrom_some _ _ _ (.inl h)⟩
  · subst he
    refine ⟨nl.keeps x1.toInCall.keep, codeAny_func ?_⟩
    obtain ⟨t, ht, hq⟩ := hbody cdv B stk s0 H0 vs Q E calm (room.deeper _) q
    refine wpAny_mono (ht.run [] s1 (L2.start N vs) H0 _ (inv_start Sc room.hd e0 hl rv x1) hq) (fun fl s' hs => ?_) fun er s' hs => hs
    match fl, hs with
    | .ret u, hs =>
      obtain ⟨v, σ', H', J, r1, r2⟩ := hs
      exact ⟨v, H', J.os, J.bare, J.base, J.hok, r1, r2⟩
    | .next, hs =>
      obtain ⟨σ', H', J, r2⟩ := hs
      exact ⟨V.non, H', J.os, J.bare, J.base, J.hok, rfl, r2⟩
    | .brk, hs => obtain ⟨_, _, _, z⟩ := hs; exact False.elim z
    | .cont, hs => obtain ⟨_, _, _, z⟩ := hs; exact False.elim z
end
/-! ### a law's end -/
section
variable {P : Program} {w : World} {K : PySem.W.Frag} {mg mb : Str → Option Value} {k : Nat} {fa sa : Addr} {fd : FuncData} {x : Str} {sp : Sp} {sh : Shared} {its : List Value} {ns : List Int}
abbrev SObj (its : List Value) : PySem.Obj := { cls := .type "list", data := .seq its.toArray }
/-- .. from an abstract heap that tracks the script alone -/
theorem law_at {H : Hp} (kin : K.In sh.heap) (hns : sh.heap.Ns mainGlobals mg) (hb : sh.heap.Ns builtinsNs mb) (hbb : ∀ y : Str, y ≠ "__name__" → mb y = bootBuiltins y) (hlim : sh.heap.NoLimit) (hgen : sh.gens = #[])
    (hs : sh.heap.get? sa = some (SObj its)) (room : Room k callerA)
    (F : ∀ base : Heap, K.In base → base.Ns mainGlobals mg → FnG P w K mg base k fa fd [x] sp) (bind : ∀ (s : Shared) (u : Value), BindsTo s fd ⟨[u], []⟩ [(x, u)])
    (only : Only H) (promise : sp [.ref sa] H (fun v _ => v = .bl true) fun _ _ _ => False) (hok : HOk P w H sh.heap) (one : ∀ b, H b ≠ none → b = sa) (noK : H sa ≠ none → K.lookup sa = none) :
    codeAny (model P w) callerA (.call (.ref fa) ⟨[.ref sa], []⟩) (fun r s' => r = .ok (.ret (.bool true)) ∧ OldK sh.heap s'.heap ∧ s'.os = sh.os ∧ AllBare s'.gens) sh := by
  have stays : ∀ {b : Addr} {o : PySem.Obj}, sh.heap.get? b = some o → H b = none → (hidT sh.heap H).get? b = some o := fun h1 h2 => hidT_get h1 h2
  have nodict : ∀ {b : Addr} {o : PySem.Obj} {es : Array DictEntry} {ep : Nat}, sh.heap.get? b = some o → o.data = .dict es ep → H b = none := fun {b o es ep} h1 h2 => Classical.byContradiction fun hne => by
    have := one b hne
    subst this
    rw [hs] at h1
    cases h1
    cases (show Data.seq its.toArray _ = Data.dict es ep from h2)
  have keepNs : ∀ {b : Addr} {m : Str → Option Value}, sh.heap.Ns b m → (hidT sh.heap H).Ns b m := fun ⟨o, es, ep, h1, h2, h3⟩ => ⟨o, es, ep, stays h1 (nodict h1 h2), h2, h3⟩
  have keepK : K.In (hidT sh.heap H) := fun b o z => stays (kin b o z) (Classical.byContradiction fun hne => by
    have := one b hne
    subst this
    rw [noK hne] at z
    cases z)
  have md : Mod K mg (hidT sh.heap H) := ⟨keepK, keepNs hns, ⟨mb, keepNs hb, hbb⟩, hlim.imp fun mc z => ⟨keepNs z.1, z.2⟩⟩
  have e0 : Env0 P w K mg (hidT sh.heap H) callerA [] sh H := ⟨rfl, md, fun b o z => of_hidT z, Nat.le_of_eq (hidT_size _ _), trivial, fun b z => absurd (show b ∈ ([] : List Addr) from z) (by simp), hok, .of_eq hgen⟩
  refine codeAny_mono ((F _ keepK (keepNs hns)).go callerA [] sh H ⟨[.ref sa], []⟩ [.ref sa] [.ref sa] _ _ rfl room e0 (bind sh (.ref sa)) (.cons rfl .nil) promise) fun out s' ho => ?_
  match out, ho with
  | .error er, ho => exact (show False from ho).elim
  | .ok (.ret u), ho =>
    obtain ⟨v, H', os, bare, un, hok', rv, hv⟩ := ho
    have hv : v = .bl true := hv
    subst hv
    obtain rfl : u = Value.bool true := rv
    refine ⟨rfl, OldK.of_keep fun b o z => ?_, os, bare⟩
    cases hb' : H b with
    | none => exact un.keep b o z hb' (fun y => absurd (show b ∈ ([] : List Addr) from y) (by simp)) (by simp)
    | some c =>
      rcases only b with y | ⟨ob, xs, y⟩
      · rw [hb'] at y; cases y
      · have y2 := un.frzs b ob _ y
        obtain ⟨c1, _⟩ := hok b _ y
        obtain ⟨c2, _⟩ := hok' b _ y2
        rw [z] at c1
        cases c1
        exact c2
theorem law_g (kin : K.In sh.heap) (hns : sh.heap.Ns mainGlobals mg) (hb : sh.heap.Ns builtinsNs mb) (hbb : ∀ y : Str, y ≠ "__name__" → mb y = bootBuiltins y) (hlim : sh.heap.NoLimit) (hgen : sh.gens = #[])
    (hs : sh.heap.get? sa = some (SObj its)) (areInts : IntsAre its ns) (hl : ns.length ≤ sizeLine) (room : Room k callerA)
    (F : ∀ base : Heap, K.In base → base.Ns mainGlobals mg → FnG P w K mg base k fa fd [x] sp) (bind : ∀ (s : Shared) (u : Value), BindsTo s fd ⟨[u], []⟩ [(x, u)])
    (promise : ∀ H : Hp, Only H → SqL K H sa (ns.map V.int) → sp [.ref sa] H (fun v _ => v = .bl true) fun _ _ _ => False) :
    codeAny (model P w) callerA (.call (.ref fa) ⟨[.ref sa], []⟩) (fun r s' => r = .ok (.ret (.bool true)) ∧ OldK sh.heap s'.heap ∧ s'.os = sh.os ∧ AllBare s'.gens) sh := by
  have rv := vals_ints areInts
  have ln := areInts.length
  cases hk : K.lookup sa with
  | some o =>
    have z := kin sa o hk
    rw [hs] at z
    cases z
    have O : Only (fun _ => none) := fun _ => .inl rfl
    exact law_at kin hns hb hbb hlim hgen hs room F bind O (promise _ O (.inr ⟨_, its.toArray, _, hk, rfl, rfl, rfl, by rw [List.size_toArray, ln]; exact hl, by simpa using rv⟩)) (fun b u y => by cases (show (none : Option HO) = some u from y)) (fun b y => absurd rfl y) fun y => absurd rfl y
  | none =>
    have O : Only (fun b => if b = sa then some (HO.frz (SObj its) (.lst (ns.map V.int))) else none) := fun b => by
      by_cases hbs : b = sa
      · exact .inr ⟨_, _, if_pos hbs⟩
      · exact .inl (if_neg hbs)
    refine law_at kin hns hb hbb hlim hgen hs room F bind O (promise _ O (.inl (.inr ⟨SObj its, if_pos rfl⟩))) (fun b u y => ?_) (fun b y => Classical.byContradiction fun hbs => y (if_neg hbs)) fun _ => hk
    by_cases hbs : b = sa
    · have y' := (if_pos hbs).symm.trans y
      cases y'
      subst hbs
      exact ⟨hs, by rw [List.length_map]; exact hl, its, _, rv, hs⟩
    · have y' := (if_neg hbs).symm.trans y
      cases y'
end
/-- a law by a head of facts -/
theorem walk_g {l : PySem.W.OpenLaw} {n k : Nat} {q : Program} {loose : List Str} {XP : (Str → Option Value) → Heap → Prop} {YP : World → Heap → Prop} {dr : DefRec} {x : Str}
    (hn : l.most = some n) (hn2 : n ≤ sizeLine) (hdf : dr.params.defaults = []) (room : Room k callerA)
    (F : ∀ (w : World) (mg : Str → Option Value) (fa : Addr) (h : Heap), YP w h → h.Ns mainGlobals mg → mg dr.name = some (.ref fa) →
      ∃ (K : PySem.W.Frag) (fd : FuncData) (sp : Sp), K.In h ∧ (∀ (s : Shared) (u : Value), BindsTo s fd ⟨[u], []⟩ [(x, u)]) ∧
        (∀ (H : Hp) (sa : Addr) (ns : List Int), ns.length ≤ n → Only H → SqL K H sa (ns.map V.int) → sp [.ref sa] H (fun v _ => v = .bl true) fun _ _ _ => False) ∧
        ∀ base : Heap, K.In base → base.Ns mainGlobals mg → FnG l.prog w K mg base k fa fd [x] sp) :
    PySem.W.WalkO q loose XP YP l.row.toRowW dr [] (fun f vs => PySem.call f vs) := Att.attach_call hn hdf fun w s₀ s₁ mg mb fa o pm cd doc sa vs ns G Y ho hd hcd hmg hobj areInts hlen hg => by
  obtain ⟨K, fd, sp, kin, hb, promise, hF⟩ := F w mg fa _ Y G.T.g hmg
  exact law_g kin G.T.g G.T.b G.T.builtins G.T.nolimit hg hobj areInts (Nat.le_trans hlen hn2) room hF hb fun H hO hS => promise H sa ns hlen hO hS
end Lot
/-! LotCa: text * int, () * int. -/
namespace Lot
open PySem PySem.Spec PyProof.Rows L2
variable {X : Cx}
theorem foldl_app (a : Array Nat) : ∀ (n : Nat) (c : Array Nat), (List.replicate n a).foldl (· ++ ·) c = c ++ (List.replicate n a.toList).flatten.toArray
  | 0, c => by simp
  | n + 1, c => by
    rw [List.replicate_succ, List.foldl_cons, foldl_app a n, List.replicate_succ, List.flatten_cons]
    apply Array.toList_inj.mp
    simp
theorem op_mul_str : OpR X (binaryOp .Mult) (fun x y H Q => ∃ (a : Str) (k : Int), x = .str a ∧ y = .int k ∧ 0 ≤ k ∧ k ≤ 1000 ∧ a.length ≤ 1000 ∧ Q (.str ⟨(List.replicate k.toNat a.cps.toList).flatten.toArray⟩) H) := by
  intro pins s σ H x y v u Q I rx ry h
  obtain ⟨a, k, rfl, rfl, h0, h1, h2, q⟩ := h
  obtain ⟨t, rfl⟩ := rx
  obtain ⟨t', rfl⟩ := ry
  have al : a.length = a.cps.size := rfl
  have hm : a.length * k.toNat ≤ 1000 * 1000 := Nat.mul_le_mul h2 (by omega)
  have hlen : (⟨(List.replicate k.toNat a.cps.toList).flatten.toArray⟩ : Str).length ≤ sizeLine := by
    show (List.replicate k.toNat a.cps.toList).flatten.toArray.size ≤ sizeLine
    rw [List.size_toArray, PyProof.Rows.lm_len_rep_flat, sizeLine_eq]
    have : a.cps.toList.length = a.length := by rw [al]; simp
    rw [this, Nat.mul_comm]
    omega
  refine PySem.P.mul_str (by rw [decide_eq_false (by omega), decide_eq_false (by omega)]; rfl) (fun n1 _ => ?_) (fun n1 _ => ?_) ?_
  · have : (2 ^ 63 - 1 : Int) / 1000 ≤ (2 ^ 63 - 1) / k := by
      refine (Int.le_ediv_iff_mul_le (by omega)).mpr ?_
      have : (2 ^ 63 - 1 : Int) / 1000 * k ≤ (2 ^ 63 - 1 : Int) / 1000 * 1000 := Int.mul_le_mul_of_nonneg_left h1 (by decide)
      omega
    omega
  · unfold Builtin.Str.tooLong
    rw [sizeLine_eq]
    exact decide_eq_false (by omega)
  · by_cases n1 : k < 1
    · rw [if_pos n1]
      have e : k = 0 := by omega
      subst e
      exact ⟨by show (0 : Nat) ≤ sizeLine; exact Nat.zero_le _, .str _, H, I.tok _, ⟨_, rfl⟩, q⟩
    · rw [if_neg n1]
      by_cases c : (k == 1 || a.length == 0) = true
      · rw [if_pos c]
        have e : (⟨(List.replicate k.toNat a.cps.toList).flatten.toArray⟩ : Str) = a := by
          rw [Bool.or_eq_true, beq_iff_eq, beq_iff_eq] at c
          have : (List.replicate k.toNat a.cps.toList).flatten.toArray = a.cps := by
            rcases c with c | c
            · subst c; simp
            · have : a.cps = #[] := Array.eq_empty_of_size_eq_zero (by rw [← al]; exact c)
              rw [this]; simp
          rw [this]
        rw [e] at q
        exact ⟨.str a, H, I, ⟨_, rfl⟩, q⟩
      · rw [if_neg c]
        have e := foldl_app a.cps k.toNat #[]
        rw [Array.empty_append] at e
        rw [e]
        exact ⟨hlen, .str _, H, I.tok _, ⟨_, rfl⟩, q⟩
theorem tup_mul0 (l : Addr) (n : Nat) (dd : Option Addr) (sl : Array (Option Value)) (x : Int) (u : Tok) (c0 : (decide (x < -(2 ^ 63)) || decide (x ≥ 2 ^ 63)) = false) :
    Meets (Builtin.«tuple.__mul__» ⟨[.ref l, .int x u], []⟩) (fun _ R s => s.heap.get? l = some { cls := .type "tuple", dict := dd, data := .seq #[] n, slots := sl } ∧ R (.ok (.ret (Value.ref l))) s) :=
  .of_wp fun prog w A R s h => by
    obtain ⟨hp, g, d, tk, os⟩ := s
    obtain ⟨h1, h⟩ := h
    have fi := AutoSeq1.idx_int
    wp_walk using AutoSeq1.wpAny_loadPart' h1
    refine wpAny_ite_false (decide_eq_false (by rw [c0]; exact Bool.false_ne_true)) ?_
    wp_walk using AutoSeq1.wpAny_loadPart' h1
    exact ⟨_, rfl, h⟩
theorem op_mul_tup0 : OpR X (binaryOp .Mult) (fun x y H Q => ∃ (l : Addr) (k : Int), x = .ref l ∧ y = .int k ∧ SqT X.K H l [] ∧ 2 ≤ k ∧ k ≤ 1000 ∧ Q (.ref l) H) := by
  intro pins s σ H x y v u Q I rx ry h
  obtain ⟨l, k, rfl, rfl, hT, h1, h2, q⟩ := h
  cases rx
  obtain ⟨t, rfl⟩ := ry
  obtain ⟨its, r, ⟨⟨cls, dd, data, sl⟩, ho, hc, n, hd⟩, hs⟩ := I.tuple hT
  simp only at hc hd
  subst hc hd
  have e : its = [] := List.eq_nil_of_length_eq_zero r.length.symm
  subst e
  have c0 : (decide (k < -(2 ^ 63)) || decide (k ≥ 2 ^ 63)) = false := by
    rw [decide_eq_false (by omega), decide_eq_false (by omega)] <;> rfl
  refine wpAny_binaryOp_repeat_ref (T := "tuple") (U := "int") (by decide) ⟨_, ho, rfl⟩ (fun s' => typeIs_int s' k t) noFill_tuple_mul PySem.F.fills_int_mul PySem.F.slot_int_rmul repeat_tuple PySem.F.slot_int_index.lookup
    (call_meets PySem.F.slot_int_rmul (typeIs_int s k t) PySem.F.entry_int_rmul (PySem.F.args_int_rmul_2 _ _) (int_rmul_tuple k t l _ n dd sl)
      ⟨ho, rfl, ⟨_, ho, rfl⟩, call_meets PySem.F.slot_tuple_mul ⟨_, ho, rfl⟩ PySem.F.entry_tuple_mul (PySem.F.args_tuple_mul_2 _ _) (tup_mul0 l n dd sl k t c0) ⟨ho, ?_⟩⟩)
  exact ⟨.ref l, H, I, rfl, q⟩
end Lot
/-! LotD: operators, places, slices, tests over the hand layer. -/
namespace Lot
open PySem PySem.Spec PyProof.Rows L2

/-- a context of the hand layer that the table speaks of -/
structure CxOk (T : Tb) (X : Cx) : Prop where
  P : X.prog = T.P
  w : X.w = T.w
  K : X.K = T.K
  calm : X.calm = true
  nd : X.N.Nodup
  hu : X.A.units + 70 < cLine
  still : Calm X.A

theorem PE.weak {X : Cx} {e : Expr} {t t' : TE} (h : PE X e t) (w : ∀ σ H Q, t' σ H Q → t σ H Q) : PE X e t' := ⟨fun pins s σ H Q I hq => h.run pins s σ H Q I (w σ H Q hq)⟩
theorem PT.weak {X : Cx} {e : Expr} {t t' : TT} (h : PT X e t) (w : ∀ σ H Q, t' σ H Q → t σ H Q) : PT X e t' := ⟨fun pins s σ H Q I hq => h.run pins s σ H Q I (w σ H Q hq)⟩
theorem PA.weak {X : Cx} {e : List Expr} {t t' : TA} (h : PA X e t) (w : ∀ σ H Q, t' σ H Q → t σ H Q) : PA X e t' := ⟨fun pos pins s σ H Q I hq => h.run pos pins s σ H Q I (w σ H Q hq)⟩

section
variable (T : Tb)
/-- readings: an expression's; one that may tell a new list; a test's; arguments' -/
def tD (f : Env → Mem → Out D) : TE := fun σ H Q => ∃ α W ρ m, HR T α W H m ∧ RS T α W H ρ σ ∧ Hg T α W H (f ρ m) (fin T Q)
def tX (f : Env → Mem → Out D) : TE := fun σ H Q => ∃ α W ρ m, HR T α W H m ∧ RS T α W H ρ σ ∧ Hx T α W H (f ρ m) Q
def tT (f : Env → Mem → Out Bool) : TT := fun σ H Q => ∃ α W ρ m, HR T α W H m ∧ RS T α W H ρ σ ∧ Hg T α W H (f ρ m) fun b _ _ _ H' => Q b H'
def tL (f : Env → Mem → Out (List D)) : TA := fun σ H Q => ∃ α W ρ m, HR T α W H m ∧ RS T α W H ρ σ ∧ Hg T α W H (f ρ m) fun ds _ α' W' H' => ∀ vs, RDL T α' W' H' ds vs → Q vs H'
end
variable {T : Tb} {X : Cx}
theorem PE.ofX {e : Expr} {f : Ev} (h : PE X e (tX T f)) : PE X e (tD T f) := PE.weak h fun σ H Q ⟨α, W, ρ, m, h1, h2, h3⟩ => ⟨α, W, ρ, m, h1, h2, .inl h3⟩
theorem PE.allocX {e : Expr} {f : Ev} (h : PE X e (tX T f)) : PE X e (tD T (evAlloc f)) := PE.weak h fun σ H Q ⟨α, W, ρ, m, h1, h2, h3⟩ => by
  refine ⟨α, W, ρ, m, h1, h2, .inr ?_⟩
  unfold evAlloc at h3
  cases q : f ρ m with
  | ok d m1 =>
    rw [q] at h3
    cases d with
    | p x =>
      cases x with
      | lst l => exact Hg.alloc h3
      | _ => exact h3.elim
    | _ => exact h3.elim
  | exn _ _ _ => rw [q] at h3; exact h3.elim
  | bad => rw [q] at h3; exact h3.elim

/-! ### what is read -/
section
variable {α α' : Al} {W W' : Addr → Prop} {H H' : Hp} {m : Mem}
theorem rd_rc (hr : HR T α W H m) {d : D} {v : V} {x : P} (r : RD T α W H d v) (e : rd d m = some x) : Rc T W H x v := by
  cases d with
  | p y => cases e; exact .inl r
  | ref n k =>
    obtain ⟨a, h1, rfl⟩ := r
    obtain ⟨b, h2, _, h3⟩ := hr.cel n k x e
    rw [h1] at h2; cases h2
    exact .inr ⟨a, rfl, h3⟩
  | fn i => cases e
  | scr l => cases e
  | gt l => cases e
theorem Rc.non {v : V} (h : Rc T W H .non v) : v = .non := by
  rcases h with h | ⟨a, _, h⟩
  · simpa only [Rp] using h
  · exact (show False from h).elim
theorem Rc.bl {v : V} {b : Bool} (h : Rc T W H (.bl b) v) : v = .bl b := by
  rcases h with h | ⟨a, _, h⟩
  · simpa only [Rp] using h
  · exact (show False from h).elim
theorem Rc.int {v : V} {b : Int} (h : Rc T W H (.int b) v) : v = .int b := by
  rcases h with h | ⟨a, _, h⟩
  · simpa only [Rp] using h
  · exact (show False from h).elim
theorem Rc.str {v : V} {b : Str} (h : Rc T W H (.str b) v) : v = .str b := by
  rcases h with h | ⟨a, _, h⟩
  · simpa only [Rp] using h
  · exact (show False from h).elim
theorem Rc.tup {v : V} {l : List P} (h : Rc T W H (.tup l) v) : ∃ a xs, v = .ref a ∧ TupAt W H a xs ∧ RpL T W H l xs := by
  rcases h with h | ⟨a, _, h⟩
  · simpa only [Rp] using h
  · exact (show False from h).elim
theorem Rc.lst {v : V} {l : List P} (h : Rc T W H (.lst l) v) : ∃ a xs, v = .ref a ∧ H a = some (.lst xs) ∧ RpL T W H l xs := by
  rcases h with h | ⟨a, rfl, xs, h1, h2⟩
  · simp only [Rp] at h
    obtain ⟨a, xs, h1, _, h2, h3⟩ := h
    exact ⟨a, xs, h1, h2, h3⟩
  · exact ⟨a, xs, rfl, h1, h2⟩
theorem Rc.dicF {v : V} {l : List P} (h : Rc T W H (.dic false l) v) : ∃ a kvs, v = .ref a ∧ H a = some (.dK kvs) ∧ (kvs.map (·.1)).Nodup ∧ RpD T W H l kvs := by
  rcases h with h | ⟨a, rfl, xs, h1, h2⟩
  · simp only [Rp] at h
    obtain ⟨a, xs, h1, _, h2, h3⟩ := h
    exact ⟨a, xs, h1, h2, h3⟩
  · exact ⟨a, xs, rfl, h1, h2⟩
theorem Rc.dicT {v : V} {l : List P} (h : Rc T W H (.dic true l) v) : ∃ a kvs, v = .ref a ∧ H a = some (.dT kvs) ∧ (kvs.map (·.1)).Nodup ∧ RpT T W H l kvs := by
  rcases h with h | ⟨a, rfl, xs, h1, h2⟩
  · simp only [Rp] at h
    obtain ⟨a, xs, h1, _, h2, h3⟩ := h
    exact ⟨a, xs, h1, h2, h3⟩
  · exact ⟨a, xs, rfl, h1, h2⟩
theorem Rc.set {v : V} {l : List P} (h : Rc T W H (.set l) v) : ∃ a, ∃ ks : List Ky, v = .ref a ∧ kys l = some ks ∧ ks.Nodup ∧ H a = some (SetK T.P T.w a (fun k => ks.any fun j => decide (j = k)) ks.length) := by
  rcases h with h | ⟨a, rfl, ks, h1, h2, h3⟩
  · simp only [Rp] at h
  · exact ⟨a, ks, rfl, h1, h2, h3⟩
theorem TupAt.sq {K : PySem.W.Frag} {a : Addr} {xs : List V} (h : TupAt W H a xs) : SqT K H a xs := .inl (.inl h.2)
theorem KTup.sq {K : PySem.W.Frag} {a : Addr} {xs : List V} (h : KTup K a xs) : SqT K H a xs := let ⟨o, its, n, h1, h2, _, h3⟩ := h; .inr ⟨o, its, n, h1, h2, h3⟩
theorem Rg.ofC {x : P} {v : V} (h : Rc T W H x v) : Rg T W H x v := .inl h
/-- a tuple, wherever it lies -/
theorem Rg.tup {v : V} {l : List P} (h : Rg T W H (.tup l) v) : ∃ a xs, v = .ref a ∧ SqT T.K H a xs ∧ RpL T W H l xs := by
  rcases h with h | ⟨l', a, xs, e, rfl, h1, h2⟩
  · obtain ⟨a, xs, h1, h2, h3⟩ := h.tup
    exact ⟨a, xs, h1, h2.sq, h3⟩
  · cases e
    exact ⟨a, xs, rfl, h1.sq, h2⟩
theorem Rg.c {v : V} {x : P} (h : Rg T W H x v) (hx : ∀ l, x ≠ .tup l) : Rc T W H x v := by
  rcases h with h | ⟨l', a, xs, e, _⟩
  · exact h
  · exact absurd e (hx _)
theorem rg_rg (hr : HR T α W H m) {d : D} {v : V} {x : P} (r : RD T α W H d v) (e : rg d m = some x) : Rg T W H x v := by
  cases d with
  | gt l =>
    cases e
    obtain ⟨a, xs, h1, h2, h3⟩ := r
    exact .inr ⟨l, a, xs, rfl, h1, h2, h3⟩
  | p y => exact .inl (rd_rc hr r e)
  | ref n k => exact .inl (rd_rc hr r e)
  | fn i => exact .inl (rd_rc hr r e)
  | scr l => exact .inl (rd_rc hr r e)
theorem RpL.len : ∀ {l : List P} {xs : List V}, RpL T W H l xs → xs.length = l.length
  | [], _, h => by simp only [RpL] at h; subst h; rfl
  | d :: ds, _, h => by
    simp only [RpL] at h
    obtain ⟨v, r, rfl, _, h⟩ := h
    show r.length + 1 = ds.length + 1
    rw [RpL.len h]
theorem RpL.app : ∀ {l l' : List P} {xs xs' : List V}, RpL T W H l xs → RpL T W H l' xs' → RpL T W H (l ++ l') (xs ++ xs')
  | [], _, _, _, h, h' => by simp only [RpL] at h; subst h; exact h'
  | d :: ds, _, _, _, h, h' => by
    simp only [RpL] at h
    obtain ⟨v, r, rfl, h1, h⟩ := h
    rw [List.cons_append, List.cons_append]
    simp only [RpL]
    exact ⟨v, _, rfl, h1, RpL.app h h'⟩
theorem RpL.nil_iff {l : List P} {xs : List V} (h : RpL T W H l xs) : xs = [] ↔ l = [] := by
  rw [← List.length_eq_zero_iff, ← List.length_eq_zero_iff, h.len]
theorem RpL.drop : ∀ {l : List P} {xs : List V} (n : Nat), RpL T W H l xs → RpL T W H (l.drop n) (xs.drop n)
  | _, _, 0, h => h
  | [], _, n + 1, h => by simp only [RpL] at h; subst h; simp only [List.drop_nil, RpL]
  | d :: ds, _, n + 1, h => by
    simp only [RpL] at h
    obtain ⟨v, r, rfl, h1, h⟩ := h
    exact RpL.drop n h
theorem RpL.take : ∀ {l : List P} {xs : List V} (n : Nat), RpL T W H l xs → RpL T W H (l.take n) (xs.take n)
  | l, xs, 0, h => by rw [List.take_zero, List.take_zero]; simp only [RpL]
  | [], _, n + 1, h => by simp only [RpL] at h; subst h; simp only [List.take_nil, RpL]
  | d :: ds, _, n + 1, h => by
    simp only [RpL] at h
    obtain ⟨v, r, rfl, h1, h⟩ := h
    rw [List.take_succ_cons, List.take_succ_cons]
    simp only [RpL]
    exact ⟨v, _, rfl, h1, RpL.take n h⟩
theorem RpL.get : ∀ {l : List P} {xs : List V} {i : Nat} {x : P}, RpL T W H l xs → l[i]? = some x → ∃ v, xs[i]? = some v ∧ Rp T W H x v
  | [], _, _, _, _, e => by simp at e
  | d :: ds, _, 0, x, h, e => by
    simp only [RpL] at h
    obtain ⟨v, r, rfl, h1, h⟩ := h
    have : d = x := by simpa using e
    subst this
    exact ⟨v, rfl, h1⟩
  | d :: ds, _, i + 1, x, h, e => by
    simp only [RpL] at h
    obtain ⟨v, r, rfl, h1, h⟩ := h
    obtain ⟨y, h2, h3⟩ := RpL.get (i := i) h (by simpa using e)
    exact ⟨y, by simpa using h2, h3⟩
theorem RpL.rev : ∀ {l : List P} {xs : List V}, RpL T W H l xs → RpL T W H l.reverse xs.reverse
  | [], _, h => by simp only [RpL] at h; subst h; simp only [List.reverse_nil, RpL]
  | d :: ds, _, h => by
    simp only [RpL] at h
    obtain ⟨v, r, rfl, h1, h⟩ := h
    rw [List.reverse_cons, List.reverse_cons]
    refine RpL.app (RpL.rev h) ?_
    simp only [RpL]
    exact ⟨v, [], rfl, h1, rfl⟩
theorem RpL.set : ∀ {l : List P} {xs : List V} {x : P} {v : V} (i : Nat), RpL T W H l xs → Rp T W H x v → RpL T W H (l.set i x) (xs.set i v)
  | [], _, _, _, _, h, _ => by simp only [RpL] at h; subst h; simp only [List.set_nil, RpL]
  | d :: ds, _, x, v, 0, h, hv => by
    simp only [RpL] at h
    obtain ⟨y, r, rfl, h1, h⟩ := h
    simp only [List.set_cons_zero, RpL]
    exact ⟨v, r, rfl, hv, h⟩
  | d :: ds, _, x, v, i + 1, h, hv => by
    simp only [RpL] at h
    obtain ⟨y, r, rfl, h1, h⟩ := h
    simp only [List.set_cons_succ, RpL]
    exact ⟨y, _, rfl, h1, RpL.set i h hv⟩
theorem RpL.one {x : P} {v : V} (h : Rp T W H x v) : RpL T W H [x] [v] := by
  simp only [RpL]; exact ⟨v, [], rfl, h, rfl⟩
theorem RpL.flat : ∀ {l : List P} {xs : List V} (k : Nat), RpL T W H l xs → RpL T W H (List.replicate k l).flatten (List.replicate k xs).flatten
  | l, xs, 0, h => by simp only [List.replicate_zero, List.flatten_nil, RpL]
  | l, xs, k + 1, h => by
    rw [List.replicate_succ, List.replicate_succ, List.flatten_cons, List.flatten_cons]
    exact h.app (RpL.flat k h)
theorem line_eq : line = sizeLine := by rw [sizeLine_eq]; rfl

/-- a new list -/
theorem HgF.new {l : List P} {xs : List V} {p : Addr} {Q : VK} (h : HgF T α W H (.ok (.p (.lst l)) m) Q) (hr : HR T α W H m) (r : RpL T W H l xs) (hp : H p = none) : Q (.ref p) (upd H p (.lst xs)) :=
  h α (wUp W p) _ xs p (.hid hp) (hr.hid hp) (.inr rfl) upd_same (r.ext (α := α) (α' := α) (.hid hp)) (hr.noAl hp) (hr.noGh hp)
/-- a new tuple -/
theorem Hg.newT {l : List P} {xs : List V} {p : Addr} {Q : VK} (h : Hg T α W H (.ok (.p (.tup l)) m) (fin T Q)) (hr : HR T α W H m) (r : RpL T W H l xs) (hp : H p = none) : Q (.ref p) (upd H p (.tup xs)) :=
  h α W _ (.new hp) (hr.new hp) (.ref p) (by
    show Rp T W _ (.tup l) (.ref p)
    simp only [Rp]
    exact ⟨p, xs, rfl, ⟨hr.free hp, upd_same⟩, r.ext (α := α) (α' := α) (.new hp)⟩)
theorem Hx.tupD {l : List P} {Q : VK} (h : Hx T α W H (.ok (.p (.tup l)) m) Q) : Hg T α W H (.ok (.p (.tup l)) m) (fin T Q) := h.elim id False.elim
end

/-! ### two-place operators -/
def opO (f : P → P → Option P) (a b : D) (m : Mem) : Out D := match rd a m, rd b m with
  | some u, some v => (Out.of (f u v) m).bind fun r m3 => .ok (.p r) m3
  | _, _ => .bad
def rB (T : Tb) (f : P → P → Option P) : R2 := fun x y H Q => ∃ α W m a b, HR T α W H m ∧ RD T α W H a x ∧ RD T α W H b y ∧ Hx T α W H (opO f a b m) Q
theorem rB.red {f : P → P → Option P} {x y : V} {H : Hp} {Q : VK} (h : rB T f x y H Q) : ∃ α W m u v r, HR T α W H m ∧ Rc T W H u x ∧ Rc T W H v y ∧ f u v = some r ∧ Hx T α W H (.ok (.p r) m) Q := by
  obtain ⟨α, W, m, a, b, hr, ra, rb, h⟩ := h
  unfold opO at h
  cases ea : rd a m with
  | none => rw [ea] at h; exact (h.elim id id).elim
  | some u =>
    cases eb : rd b m with
    | none => rw [ea, eb] at h; exact (h.elim id id).elim
    | some v =>
      rw [ea, eb] at h
      cases e : f u v with
      | none => simp only [e] at h; exact (h.elim id id).elim
      | some r => simp only [e] at h; exact ⟨α, W, m, u, v, r, hr, rd_rc hr ra ea, rd_rc hr rb eb, e, h⟩
theorem opB_add (hX : CxOk T X) : OpR X (binaryOp .Add) (rB T addP) := by
  intro pins s σ H x y v u Q I rx ry h
  obtain ⟨α, W, m, a, b, r, hr, ra, rb, e, hx⟩ := h.red
  unfold addP at e
  split at e
  · cases e
    obtain rfl := ra.int; obtain rfl := rb.int
    exact op_add pins s σ H _ _ v u Q I rx ry ⟨_, _, rfl, rfl, hx.p (by intro l; simp) .refl hr (by simp only [Rp])⟩
  · split at e
    · rename_i hl
      cases e
      obtain rfl := ra.str; obtain rfl := rb.str
      exact op_add_str pins s σ H _ _ v u Q I rx ry ⟨_, _, rfl, rfl, by rw [← line_eq]; exact hl, hx.p (by intro l; simp) .refl hr (by simp only [Rp])⟩
    · cases e
  · split at e
    · rename_i hl
      cases e
      obtain ⟨p, xs, rfl, h1, h2⟩ := ra.lst
      obtain ⟨q, ys, rfl, h3, h4⟩ := rb.lst
      exact op_cat pins s σ H _ _ v u Q I rx ry ⟨p, q, xs, ys, rfl, rfl, h1, h3, by rw [h2.len, h4.len, ← line_eq]; exact hl, fun z hz => hx.F.new hr (h2.app h4) hz⟩
    · cases e
  · split at e
    · rename_i hl
      cases e
      obtain ⟨p, xs, rfl, h1, h2⟩ := ra.tup
      obtain ⟨q, ys, rfl, h3, h4⟩ := rb.tup
      have hd := hx.tupD
      refine op_catA pins s σ H _ _ v u Q I rx ry ⟨p, q, xs, ys, rfl, rfl, by rw [hX.K]; exact h1.sq, by rw [hX.K]; exact h3.sq, by rw [h2.len, h4.len, ← line_eq]; exact hl, fun z => ?_, fun _ z => ?_, fun _ _ w hw => hd.newT hr (h2.app h4) hw⟩
      · rw [h2.nil_iff] at z; subst z
        exact hd.here hr (.ref q) (by show Rp T W H _ _; simp only [Rp]; exact ⟨q, ys, rfl, h3, h4⟩)
      · rw [h4.nil_iff] at z; subst z
        exact hd.here hr (.ref p) (by show Rp T W H _ _; simp only [Rp, List.append_nil]; exact ⟨p, xs, rfl, h1, h2⟩)
    · cases e
  · cases e
theorem opB_sub : OpR X (binaryOp .Sub) (rB T subP) := by
  intro pins s σ H x y v u Q I rx ry h
  obtain ⟨α, W, m, a, b, r, hr, ra, rb, e, hx⟩ := h.red
  unfold subP at e
  split at e
  · cases e
    obtain rfl := ra.int; obtain rfl := rb.int
    exact op_sub pins s σ H _ _ v u Q I rx ry ⟨_, _, rfl, rfl, hx.p (by intro l; simp) .refl hr (by simp only [Rp])⟩
  · cases e
theorem opB_mul (hX : CxOk T X) : OpR X (binaryOp .Mult) (rB T mulP) := by
  intro pins s σ H x y v u Q I rx ry h
  obtain ⟨α, W, m, a, b, r, hr, ra, rb, e, hx⟩ := h.red
  unfold mulP at e
  split at e
  · split at e
    · rename_i hl
      cases e
      obtain rfl := ra.int; obtain rfl := rb.int
      refine op_mul pins s σ H _ _ v u Q I rx ry ⟨_, _, rfl, rfl, ?_, hx.p (by intro l; simp) .refl hr (by simp only [Rp])⟩
      rw [Bool.or_eq_true] at hl
      unfold small64 at hl
      simp only [Bool.and_eq_true, decide_eq_true_eq] at hl
      exact hl
    · cases e
  · split at e
    · rename_i hl
      cases e
      simp only [Bool.and_eq_true, decide_eq_true_eq] at hl
      obtain ⟨p, xs, rfl, h1, h2⟩ := ra.lst
      obtain rfl := rb.int
      exact op_rep pins s σ H _ _ v u Q I rx ry ⟨p, _, xs, rfl, rfl, h1, hl.1.1, hl.1.2, by rw [h2.len, ← line_eq]; exact hl.2, fun z hz => hx.F.new hr (h2.flat _) hz⟩
    · cases e
  · split at e
    · rename_i hl
      cases e
      simp only [Bool.and_eq_true, decide_eq_true_eq] at hl
      obtain rfl := ra.str; obtain rfl := rb.int
      exact op_mul_str pins s σ H _ _ v u Q I rx ry ⟨_, _, rfl, rfl, hl.1.1, hl.1.2, hl.2, hx.p (by intro l; simp) .refl hr (by simp only [Rp])⟩
    · cases e
  · rename_i l k
    obtain ⟨p, xs, rfl, h1, h2⟩ := ra.tup
    obtain rfl := rb.int
    split at e
    · rename_i hl
      cases e
      simp only [Bool.and_eq_true, decide_eq_true_eq, Bool.not_eq_true', List.isEmpty_eq_false_iff] at hl
      obtain ⟨⟨⟨a1, a2⟩, a3⟩, a4⟩ := hl
      have ln := h2.len
      refine op_repT pins s σ H _ _ v u Q I rx ry ⟨p, _, xs, rfl, rfl, ?_, ?_, a2, a3, by rw [ln]; exact a4, fun z hz => ?_⟩
      · rw [hX.K]; exact h1.sq
      · intro q
        rw [q] at ln
        exact a1 (List.eq_nil_of_length_eq_zero ln.symm)
      · exact hx.tupD.newT hr (h2.flat _) hz
    · split at e
      · rename_i hl
        cases e
        simp only [Bool.and_eq_true, decide_eq_true_eq, List.isEmpty_iff] at hl
        obtain ⟨⟨a1, a2⟩, a3⟩ := hl
        subst a1
        simp only [RpL] at h2
        subst h2
        refine op_mul_tup0 pins s σ H _ _ v u Q I rx ry ⟨p, _, rfl, rfl, ?_, a2, a3, hx.p (by intro l; simp) .refl hr ?_⟩
        · rw [hX.K]; exact h1.sq
        · simp only [Rp]; exact ⟨p, [], rfl, h1, by simp only [RpL]⟩
      · cases e
  · cases e
theorem opB_fdiv : OpR X (binaryOp .FloorDiv) (rB T fdivP) := by
  intro pins s σ H x y v u Q I rx ry h
  obtain ⟨α, W, m, a, b, r, hr, ra, rb, e, hx⟩ := h.red
  unfold fdivP at e
  split at e
  · split at e
    · rename_i hl
      cases e
      obtain rfl := ra.int; obtain rfl := rb.int
      exact op_fdiv pins s σ H _ _ v u Q I rx ry ⟨_, _, rfl, rfl, hl, hx.p (by intro l; simp) .refl hr (by simp only [Rp])⟩
    · cases e
  · cases e
theorem opB_mod : OpR X (binaryOp .Mod) (rB T modP) := by
  intro pins s σ H x y v u Q I rx ry h
  obtain ⟨α, W, m, a, b, r, hr, ra, rb, e, hx⟩ := h.red
  unfold modP at e
  split at e
  · split at e
    · rename_i hl
      cases e
      obtain rfl := ra.int; obtain rfl := rb.int
      exact op_mod pins s σ H _ _ v u Q I rx ry ⟨_, _, rfl, rfl, hl, hx.p (by intro l; simp) .refl hr (by simp only [Rp])⟩
    · cases e
  · cases e
theorem opB_pow : OpR X (binaryOp .Pow) (rB T powP) := by
  intro pins s σ H x y v u Q I rx ry h
  obtain ⟨α, W, m, a, b, r, hr, ra, rb, e, hx⟩ := h.red
  unfold powP at e
  split at e
  · split at e
    · rename_i hl
      cases e
      obtain rfl := ra.int; obtain rfl := rb.int
      exact op_pow pins s σ H _ _ v u Q I rx ry ⟨_, _, rfl, rfl, hl, hx.p (by intro l; simp) .refl hr (by simp only [Rp])⟩
    · cases e
  · cases e
end Lot
/-! LotE: comparisons, membership, truth over the hand layer. -/
namespace Lot
open PySem PySem.Spec PyProof.Rows L2

mutual
theorem lay_py : ∀ x : P, flat x = true → (toPy x).canLay0 = true
  | .non, _ => by simp [toPy, PyData.canLay0]
  | .bl _, _ => by simp [toPy, PyData.canLay0]
  | .int _, _ => by simp [toPy, PyData.canLay0]
  | .str s, h => by simpa [toPy, PyData.canLay0, flat] using h
  | .lst l, h => by simpa [toPy, PyData.canLay0] using lay_pys l (by simpa [flat] using h)
  | .tup l, h => by simpa [toPy, PyData.canLay0] using lay_pys l (by simpa [flat] using h)
  | .dic _ _, h => by simp [flat] at h
  | .set _, h => by simp [flat] at h
  | .ins _ _, h => by simp [flat] at h
theorem lay_pys : ∀ l : List P, flats l = true → PyData.canLayAll0 (toPys l) = true
  | [], _ => by simp [toPys, PyData.canLayAll0]
  | x :: r, h => by
    simp only [flats, Bool.and_eq_true] at h
    simp [toPys, PyData.canLayAll0, lay_py x h.1, lay_pys r h.2]
end
mutual
theorem depth_py : ∀ x : P, (toPy x).depth = deep x
  | .non => by simp [toPy, PyData.depth, deep]
  | .bl _ => by simp [toPy, PyData.depth, deep]
  | .int _ => by simp [toPy, PyData.depth, deep]
  | .str s => by simp [toPy, PyData.depth, deep]
  | .lst l => by simp [toPy, PyData.depth, deep, depth_pys l]
  | .tup l => by simp [toPy, PyData.depth, deep, depth_pys l]
  | .dic _ _ => by simp [toPy, PyData.depth, deep]
  | .set _ => by simp [toPy, PyData.depth, deep]
  | .ins _ _ => by simp [toPy, PyData.depth, deep]
  | .exc _ _ => by simp [toPy, PyData.depth, deep]
theorem depth_pys : ∀ l : List P, PyData.depthAll (toPys l) = deeps l
  | [] => by simp [toPys, PyData.depthAll, deeps]
  | x :: r => by simp [toPys, PyData.depthAll, deeps, depth_py x, depth_pys r]
end
mutual
theorem eqv_py : ∀ x y : P, flat x = true → flat y = true → PyData.eqv (toPy x) (toPy y) = eqP x y
  | .lst a, .lst b, h, h' => by
    simp only [toPy, PyData.eqv, eqP]
    exact eqv_pys a b (by simpa [flat] using h) (by simpa [flat] using h')
  | .tup a, .tup b, h, h' => by
    simp only [toPy, PyData.eqv, eqP]
    exact eqv_pys a b (by simpa [flat] using h) (by simpa [flat] using h')
  | .dic _ _, _, h, _ => by simp [flat] at h
  | .set _, _, h, _ => by simp [flat] at h
  | .ins _ _, _, h, _ => by simp [flat] at h
  | _, .dic _ _, _, h => by simp [flat] at h
  | _, .set _, _, h => by simp [flat] at h
  | _, .ins _ _, _, h => by simp [flat] at h
  | .non, .non, _, _ => by simp [toPy, PyData.eqv, eqP]
  | .non, .bl _, _, _ => by simp [toPy, PyData.eqv, eqP]
  | .non, .int _, _, _ => by simp [toPy, PyData.eqv, eqP]
  | .non, .str _, _, _ => by simp [toPy, PyData.eqv, eqP]
  | .non, .lst _, _, _ => by simp [toPy, PyData.eqv, eqP]
  | .non, .tup _, _, _ => by simp [toPy, PyData.eqv, eqP]
  | .bl _, .non, _, _ => by simp [toPy, PyData.eqv, eqP]
  | .bl _, .bl _, _, _ => by simp [toPy, PyData.eqv, eqP]
  | .bl _, .int _, _, _ => by simp [toPy, PyData.eqv, eqP]
  | .bl _, .str _, _, _ => by simp [toPy, PyData.eqv, eqP]
  | .bl _, .lst _, _, _ => by simp [toPy, PyData.eqv, eqP]
  | .bl _, .tup _, _, _ => by simp [toPy, PyData.eqv, eqP]
  | .int _, .non, _, _ => by simp [toPy, PyData.eqv, eqP]
  | .int _, .bl _, _, _ => by simp [toPy, PyData.eqv, eqP]
  | .int _, .int _, _, _ => by simp [toPy, PyData.eqv, eqP]
  | .int _, .str _, _, _ => by simp [toPy, PyData.eqv, eqP]
  | .int _, .lst _, _, _ => by simp [toPy, PyData.eqv, eqP]
  | .int _, .tup _, _, _ => by simp [toPy, PyData.eqv, eqP]
  | .str _, .non, _, _ => by simp [toPy, PyData.eqv, eqP]
  | .str _, .bl _, _, _ => by simp [toPy, PyData.eqv, eqP]
  | .str _, .int _, _, _ => by simp [toPy, PyData.eqv, eqP]
  | .str _, .str _, _, _ => by simp [toPy, PyData.eqv, eqP]
  | .str _, .lst _, _, _ => by simp [toPy, PyData.eqv, eqP]
  | .str _, .tup _, _, _ => by simp [toPy, PyData.eqv, eqP]
  | .lst _, .non, _, _ => by simp [toPy, PyData.eqv, eqP]
  | .lst _, .bl _, _, _ => by simp [toPy, PyData.eqv, eqP]
  | .lst _, .int _, _, _ => by simp [toPy, PyData.eqv, eqP]
  | .lst _, .str _, _, _ => by simp [toPy, PyData.eqv, eqP]
  | .lst _, .tup _, _, _ => by simp [toPy, PyData.eqv, eqP]
  | .tup _, .non, _, _ => by simp [toPy, PyData.eqv, eqP]
  | .tup _, .bl _, _, _ => by simp [toPy, PyData.eqv, eqP]
  | .tup _, .int _, _, _ => by simp [toPy, PyData.eqv, eqP]
  | .tup _, .str _, _, _ => by simp [toPy, PyData.eqv, eqP]
  | .tup _, .lst _, _, _ => by simp [toPy, PyData.eqv, eqP]
theorem eqv_pys : ∀ a b : List P, flats a = true → flats b = true → PyData.eqvAll (toPys a) (toPys b) = eqPs a b
  | [], [], _, _ => by simp [toPys, PyData.eqvAll, eqPs]
  | [], _ :: _, _, _ => by simp [toPys, PyData.eqvAll, eqPs]
  | _ :: _, [], _, _ => by simp [toPys, PyData.eqvAll, eqPs]
  | x :: xs, y :: ys, h, h' => by
    simp only [flats, Bool.and_eq_true] at h h'
    simp only [toPys, PyData.eqvAll, eqPs, eqv_py x y h.1 h'.1, eqv_pys xs ys h.2 h'.2]
end
theorem okD_shaped {x : P} (h : okD x = true) : SeqAt.shaped (toPy x) = true := by
  unfold okD at h
  simp only [Bool.and_eq_true, decide_eq_true_eq] at h
  show ((toPy x).canLay0 && decide ((toPy x).depth ≤ 64)) = true
  rw [Bool.and_eq_true, decide_eq_true_eq, depth_py]
  exact ⟨lay_py x h.1, h.2⟩

variable {T : Tb} {X : Cx}
section
variable {α α' : Al} {W W' : Addr → Prop} {H H' : Hp} {m : Mem}
mutual
theorem Rp.dp : ∀ (x : P) (v : V), flat x = true → Rp T W H x v → Dp T.K H v (toPy x)
  | .non, v, _, h => by simp only [Rp] at h; subst h; simp only [toPy]; exact .non
  | .bl _, v, _, h => by simp only [Rp] at h; subst h; simp only [toPy]; exact .bl _
  | .int _, v, _, h => by simp only [Rp] at h; subst h; simp only [toPy]; exact .int _
  | .str _, v, _, h => by simp only [Rp] at h; subst h; simp only [toPy]; exact .str _
  | .lst l, v, f, h => by
    simp only [Rp] at h
    obtain ⟨a, xs, rfl, _, h2, h3⟩ := h
    simp only [toPy]
    exact .lst (SqL.of h2) (RpL.dp l xs (by simpa [flat] using f) h3)
  | .tup l, v, f, h => by
    simp only [Rp] at h
    obtain ⟨a, xs, rfl, h2, h3⟩ := h
    simp only [toPy]
    exact .tup h2.sq (RpL.dp l xs (by simpa [flat] using f) h3)
  | .dic _ _, _, f, _ => by simp [flat] at f
  | .set _, _, f, _ => by simp [flat] at f
  | .ins _ _, _, f, _ => by simp [flat] at f
theorem RpL.dp : ∀ (l : List P) (xs : List V), flats l = true → RpL T W H l xs → DpAll T.K H xs (toPys l)
  | [], xs, _, h => by simp only [RpL] at h; subst h; simp only [toPys]; exact .nil
  | d :: ds, xs, f, h => by
    simp only [RpL] at h
    obtain ⟨v, r, rfl, h1, h2⟩ := h
    simp only [flats, Bool.and_eq_true] at f
    simp only [toPys]
    exact .cons (Rp.dp d v f.1 h1) (RpL.dp ds r f.2 h2)
end
theorem Rg.dp {x : P} {v : V} (f : flat x = true) (h : Rg T W H x v) : Dp T.K H v (toPy x) := by
  rcases h with (h | ⟨a, rfl, h⟩) | ⟨l, a, xs, rfl, rfl, h1, h2⟩
  · exact Rp.dp x v f h
  · cases x with
    | lst l =>
      obtain ⟨xs, h1, h2⟩ := h
      simp only [toPy]
      exact .lst (SqL.of h1) (RpL.dp l xs (by simpa [flat] using f) h2)
    | dic _ _ => simp [flat] at f
    | set _ => simp [flat] at f
    | ins _ _ => simp [flat] at f
    | _ => exact (show False from h).elim
  · simp only [toPy]
    exact .tup h1.sq (RpL.dp l xs (by simpa [flat] using f) h2)
theorem Rg.non {v : V} (h : Rg T W H .non v) : v = .non := (h.c (by simp)).non
theorem Rg.bl {v : V} {b : Bool} (h : Rg T W H (.bl b) v) : v = .bl b := (h.c (by simp)).bl
theorem Rg.int {v : V} {b : Int} (h : Rg T W H (.int b) v) : v = .int b := (h.c (by simp)).int
theorem Rg.str {v : V} {b : Str} (h : Rg T W H (.str b) v) : v = .str b := (h.c (by simp)).str
theorem Rg.lst {v : V} {l : List P} (h : Rg T W H (.lst l) v) : ∃ a xs, v = .ref a ∧ H a = some (.lst xs) ∧ RpL T W H l xs := (h.c (by simp)).lst
theorem Rg.notNon {v : V} {x : P} (h : Rg T W H x v) : decide (v = .non) = isNon x := by
  cases x with
  | non => rw [h.non]; rfl
  | bl b => rw [h.bl]; rfl
  | int b => rw [h.int]; rfl
  | str b => rw [h.str]; rfl
  | lst l => obtain ⟨a, xs, rfl, _⟩ := h.lst; rfl
  | tup l => obtain ⟨a, xs, rfl, _⟩ := h.tup; rfl
  | dic t l =>
    cases t with
    | false => obtain ⟨a, xs, rfl, _⟩ := (h.c (by simp)).dicF; rfl
    | true => obtain ⟨a, xs, rfl, _⟩ := (h.c (by simp)).dicT; rfl
  | set l => obtain ⟨a, xs, rfl, _⟩ := (h.c (by simp)).set; rfl
  | ins c fs =>
    rcases h.c (by simp) with h | ⟨a, rfl, h⟩
    · simp only [Rp] at h; obtain ⟨a, dx, xs, r, rfl, _⟩ := h; rfl
    · rfl
  | exc c fs =>
    rcases h.c (by simp) with h | ⟨a, rfl, h⟩
    · simp only [Rp] at h; obtain ⟨a, rfl, _⟩ := h; rfl
    · rfl
theorem sc_flatV {x : P} {v : V} (h : Rp T W H x v) (s : sc x = true) : flatV v = true := by
  cases x <;> first | (simp only [Rp] at h; subst h; rfl) | (simp [sc] at s)
theorem eqV_sc {x y : P} {v u : V} (h : Rp T W H x v) (h' : Rp T W H y u) (s : sc x = true) (s' : sc y = true) : eqV v u = eqP x y := by
  cases x <;> first | (simp [sc] at s; done) | (cases y <;> first | (simp [sc] at s'; done) | (simp only [Rp] at h h'; subst h; subst h'; simp [eqV, eqP]))
theorem all_flatV : ∀ {l : List P} {xs : List V}, RpL T W H l xs → l.all sc = true → xs.all flatV = true
  | [], _, h, _ => by simp only [RpL] at h; subst h; rfl
  | d :: ds, _, h, s => by
    simp only [RpL] at h
    obtain ⟨v, r, rfl, h1, h2⟩ := h
    rw [List.all_cons, Bool.and_eq_true] at s ⊢
    exact ⟨sc_flatV h1 s.1, all_flatV h2 s.2⟩
theorem inV_sc {x : P} {v : V} (hx : Rp T W H x v) (s : sc x = true) : ∀ {l : List P} {xs : List V}, RpL T W H l xs → l.all sc = true → inV v xs = l.any fun z => eqP z x
  | [], _, h, _ => by simp only [RpL] at h; subst h; rfl
  | d :: ds, _, h, s' => by
    simp only [RpL] at h
    obtain ⟨u, r, rfl, h1, h2⟩ := h
    rw [List.all_cons, Bool.and_eq_true] at s'
    have ih := inV_sc hx s h2 s'.2
    unfold inV at ih ⊢
    rw [List.any_cons, List.any_cons, eqV_sc h1 hx s'.1 s, ih]
theorem any_py {x : P} (hx : flat x = true) : ∀ {l : List P}, flats l = true → ((toPys l).any fun z => PyData.eqv z (toPy x)) = l.any fun z => eqP z x
  | [], _ => by simp [toPys]
  | d :: ds, h => by
    simp only [flats, Bool.and_eq_true] at h
    simp only [toPys, List.any_cons]
    rw [eqv_py d x h.1 hx, any_py hx h.2]
/-- scalars are read alike -/
theorem Rg.sc_ {x : P} {v : V} (h : Rg T W H x v) (s : sc x = true) : Rp T W H x v := by
  cases x with
  | non => rw [h.non]; simp only [Rp]
  | bl b => rw [h.bl]; simp only [Rp]
  | int b => rw [h.int]; simp only [Rp]
  | str b => rw [h.str]; simp only [Rp]
  | _ => simp [sc] at s

/-! ### dicts by keys -/
theorem Rp.ref_ {x : P} {v : V} (s : sc x = false) (h : Rp T W H x v) : ∃ a, v = .ref a := by
  cases x with
  | lst l => simp only [Rp] at h; obtain ⟨a, xs, rfl, _⟩ := h; exact ⟨a, rfl⟩
  | tup l => simp only [Rp] at h; obtain ⟨a, xs, rfl, _⟩ := h; exact ⟨a, rfl⟩
  | dic t l => cases t <;> (simp only [Rp] at h; obtain ⟨a, xs, rfl, _⟩ := h; exact ⟨a, rfl⟩)
  | set l => simp only [Rp] at h
  | ins c fs => simp only [Rp] at h; obtain ⟨a, dx, xs, r, rfl, _⟩ := h; exact ⟨a, rfl⟩
  | exc c fs => simp only [Rp] at h; obtain ⟨a, rfl, _⟩ := h; exact ⟨a, rfl⟩
  | _ => simp [sc] at s
theorem ky_of {a : P} {k : Key} (h : Rp T W H a (kV k)) : ky a = some k := by
  cases q : sc a with
  | false => obtain ⟨b, e⟩ := Rp.ref_ q h; cases k <;> cases e
  | true =>
    cases k <;> cases a <;> first | (simp [sc] at q; done) | (simp only [Rp, kV] at h; cases h; rfl) | (simp only [Rp, kV] at h; cases h)
theorem rp_ky {a : P} {k : Key} (h : ky a = some k) : Rp T W H a (kV k) := by
  cases a <;> first | (cases h; simp only [Rp, kV]) | cases h
/-- an entry's parts -/
theorem rpL_two {xs : List P} {x y : V} (h : RpL T W H xs [x, y]) : ∃ a b, xs = [a, b] ∧ Rp T W H a x ∧ Rp T W H b y := by
  match xs, h with
  | [], h => simp only [RpL] at h; cases h
  | [a], h =>
    simp only [RpL] at h
    obtain ⟨v, r, e, _, h⟩ := h
    cases e; cases h
  | [a, b], h =>
    simp only [RpL] at h
    obtain ⟨v, r, e, h1, v', r', e', h2, h3⟩ := h
    cases e; cases e'
    exact ⟨a, b, rfl, h1, h2⟩
  | a :: b :: c :: q, h =>
    simp only [RpL] at h
    obtain ⟨v, r, e, h1, v', r', e', h2, v2, r2, e2, _⟩ := h
    cases e; cases e'; cases e2
theorem RpD.cons {x : P} {r : List P} {kvs : List (Key × V)} (h : RpD T W H (x :: r) kvs) : ∃ a b k y q, x = .tup [a, b] ∧ kvs = (k, y) :: q ∧ ky a = some k ∧ Rp T W H b y ∧ RpD T W H r q := by
  cases x with
  | tup xs =>
    simp only [RpD] at h
    obtain ⟨k, y, q, rfl, h1, h2⟩ := h
    obtain ⟨a, b, rfl, h3, h4⟩ := rpL_two h1
    exact ⟨a, b, k, y, q, rfl, rfl, ky_of h3, h4, h2⟩
  | _ => simp only [RpD] at h
theorem RpD.mk {a b : P} {r : List P} {k : Key} {y : V} {q : List (Key × V)} (h1 : ky a = some k) (h2 : Rp T W H b y) (h3 : RpD T W H r q) : RpD T W H (.tup [a, b] :: r) ((k, y) :: q) := by
  simp only [RpD]
  refine ⟨k, y, q, rfl, ?_, h3⟩
  simp only [RpL]
  exact ⟨kV k, [y], rfl, rp_ky h1, y, [], rfl, h2, rfl⟩
theorem RpT.cons {x : P} {r : List P} {kvs : List (List Key × V)} (h : RpT T W H (x :: r) kvs) : ∃ a b k y q, x = .tup [a, b] ∧ kvs = (k, y) :: q ∧ kyT a = some k ∧ Rp T W H b y ∧ RpT T W H r q := by
  match x, h with
  | .tup [a, b], h =>
    simp only [RpT] at h
    obtain ⟨k, y, q, rfl, h1, h2, h3⟩ := h
    exact ⟨a, b, k, y, q, rfl, rfl, h1, h2, h3⟩
  | .tup [], h => simp only [RpT] at h
  | .tup [_], h => simp only [RpT] at h
  | .tup (_ :: _ :: _ :: _), h => simp only [RpT] at h
  | .non, h => simp only [RpT] at h
  | .bl _, h => simp only [RpT] at h
  | .int _, h => simp only [RpT] at h
  | .str _, h => simp only [RpT] at h
  | .lst _, h => simp only [RpT] at h
  | .dic _ _, h => simp only [RpT] at h
  | .set _, h => simp only [RpT] at h
  | .ins _ _, h => simp only [RpT] at h
/-- what a look-up tells -/
def Hit (T : Tb) (W : Addr → Prop) (H : Hp) : Option P → Option V → Prop
  | some x, some v => Rp T W H x v
  | none, none => True
  | _, _ => False
theorem Hit.isSome {o : Option P} {u : Option V} (h : Hit T W H o u) : u.isSome = o.isSome := by
  cases o <;> cases u <;> first | rfl | exact h.elim
theorem findD {k : P} {κ : Key} (hk : ky k = some κ) : ∀ {l : List P} {kvs : List (Key × V)}, RpD T W H l kvs → Hit T W H (findK false l k) (valV kvs κ)
  | [], _, h => by simp only [RpD] at h; subst h; exact True.intro
  | x :: r, _, h => by
    obtain ⟨a, b, κ', y, q, rfl, rfl, h1, h2, h3⟩ := h.cons
    have ih := findD hk h3
    by_cases e : κ' = κ
    · subst e
      rw [valV_pos rfl]
      have : findK false (.tup [a, b] :: r) k = some b := by
        unfold findK
        rw [List.find?_cons_of_pos (by simp [keyOf, kEq, h1, hk])]
        rfl
      rw [this]
      exact h2
    · rw [valV_neg e]
      have : findK false (.tup [a, b] :: r) k = findK false r k := by
        unfold findK
        rw [List.find?_cons_of_neg (by simp [keyOf, kEq, h1, hk, e])]
      rw [this]
      exact ih
theorem findT {k : P} {κ : List Key} (hk : kyT k = some κ) : ∀ {l : List P} {kvs : List (List Key × V)}, RpT T W H l kvs → Hit T W H (findK true l k) (valV kvs κ)
  | [], _, h => by simp only [RpT] at h; subst h; exact True.intro
  | x :: r, _, h => by
    obtain ⟨a, b, κ', y, q, rfl, rfl, h1, h2, h3⟩ := h.cons
    have ih := findT hk h3
    by_cases e : κ' = κ
    · subst e
      rw [valV_pos rfl]
      have : findK true (.tup [a, b] :: r) k = some b := by
        unfold findK
        rw [List.find?_cons_of_pos (by simp [keyOf, kEq, h1, hk])]
        rfl
      rw [this]
      exact h2
    · rw [valV_neg e]
      have : findK true (.tup [a, b] :: r) k = findK true r k := by
        unfold findK
        rw [List.find?_cons_of_neg (by simp [keyOf, kEq, h1, hk, e])]
      rw [this]
      exact ih
theorem kys_rp : ∀ {l : List P} {ks : List Ky} {xs : List V}, kys l = some ks → RpL T W H l xs → xs = ks.map kV
  | [], ks, xs, e, h => by simp only [kys] at e; cases e; simp only [RpL] at h; subst h; rfl
  | x :: r, ks, xs, e, h => by
    simp only [kys] at e
    split at e
    · rename_i k ks' e1 e2
      cases e
      simp only [RpL] at h
      obtain ⟨v, q, rfl, h1, h2⟩ := h
      rw [kys_rp e2 h2]
      have : v = kV k := by
        cases x <;> first | cases e1 | skip
        all_goals (simp only [Rp] at h1; subst h1; rfl)
      rw [this]; rfl
    · cases e
/-- a key as it lies -/
theorem kyT_rp {x : P} {ks : List Ky} {v : V} (e : kyT x = some ks) (h : Rp T W H x v) : ∃ b, v = .ref b ∧ H b = some (.tup (ks.map kV)) := by
  cases x with
  | tup l =>
    simp only [Rp] at h
    obtain ⟨a, xs, rfl, h1, h2⟩ := h
    rw [kys_rp e h2] at h1
    exact ⟨a, rfl, h1.2⟩
  | _ => cases e
/-- what d[k] finds -/
theorem get_dic {t : Bool} {l : List P} {k : P} {v u : V} (hd : Rc T W H (.dic t l) v) (ok : kOk t k = true) (hk : Rp T W H k u) : ∃ a o, v = .ref a ∧ DGet H a u o ∧ Hit T W H (findK t l k) o := by
  cases t with
  | false =>
    obtain ⟨a, kvs, rfl, h1, _, h2⟩ := hd.dicF
    have ok' : (ky k).isSome = true := by simpa [kOk] using ok
    obtain ⟨κ, e⟩ := Option.isSome_iff_exists.mp ok'
    have eu : u = kV κ := by
      have h3 : Rp T W H k (kV κ) := rp_ky e
      cases k <;> first | cases e | skip
      all_goals (simp only [Rp] at hk; subst hk; rfl)
    subst eu
    exact ⟨a, _, rfl, DGet.k h1, findD e h2⟩
  | true =>
    obtain ⟨a, kvs, rfl, h1, _, h2⟩ := hd.dicT
    have ok' : (kyT k).isSome = true := by simpa [kOk] using ok
    obtain ⟨κ, e⟩ := Option.isSome_iff_exists.mp ok'
    obtain ⟨b, rfl, h3⟩ := kyT_rp e hk
    exact ⟨a, _, rfl, DGet.t h1 h3, findT e h2⟩
end

/-! ### < of tuples: the first places that differ -/
/-- what < of the rest of two rows of items comes to -/
inductive Lx (A : Around) (s : Shared) (z : Bool) : List (Value × Value) → Bool → Prop
  | done : Lx A s z [] z
  | same {v u : Value} {r : List (Value × Value)} {k : Bool} : SeqAt.EqAt A s v u true → Lx A s z r k → Lx A s z ((v, u) :: r) k
  | diff {v u : Value} {r : List (Value × Value)} {k : Bool} : SeqAt.EqAt A s v u false → PySem.SeqAt.RcLt A s v u k → Lx A s z ((v, u) :: r) k
section
open PySem.AutoSeq1 (wpAny_loadPart')
theorem tup_ltL (p q : Addr) (is js : Array Value) (n k : Nat) (e1 e2 : Option Addr) (s1 s2 : Array (Option Value)) :
    Meets (Builtin.«tuple.__lt__» ⟨[.ref p, .ref q], []⟩) (fun A R s => s.heap.get? p = some { cls := .type "tuple", dict := e1, data := .seq is n, slots := s1 } ∧ s.heap.get? q = some { cls := .type "tuple", dict := e2, data := .seq js k, slots := s2 } ∧
      ∃ b, Lx A.in1 s (decide (is.size < js.size)) (is.toList.zip js.toList) b ∧ R (.ok (.ret (.bool b))) s) :=
  .of_wp fun prog w A R s h => by
    obtain ⟨hp, g, d, tk, os⟩ := s; obtain ⟨h1, h2, b, hx, hR⟩ := h
    have fs := AutoSeq1.sub_tuple_tuple
    wp_walk using wpAny_loadPart' h1, wpAny_loadPart' h2, wpAny_forIn_list _ (fun rest c s' => c.1 = none ∧ s' = ⟨hp, g, d, tk, os⟩ ∧ Lx A.in1 ⟨hp, g, d, tk, os⟩ (decide (is.size < js.size)) rest b) _
    case turn =>
      rintro ⟨y, x⟩ rest c s' ⟨hc, rfl, hx'⟩
      cases hx' with
      | same he hr =>
        refine wpAny_bind (he prog w _ _ ?_)
        wp_walk
        exact ⟨rfl, rfl, hr⟩
      | diff he hq =>
        refine wpAny_bind (he prog w _ _ ?_)
        have hi := hq prog w
        wp_walk using hi
        exact ⟨_, rfl, by simpa using hR⟩
    case fin =>
      rintro ⟨c1, c2⟩ s' ⟨hc, rfl, hx'⟩
      simp only at hc
      subst hc
      cases hx'
      wp_walk
      exact ⟨_, rfl, by simpa [Builtin.Tuple.tupleCompareSizes] using hR⟩
    case h => exact ⟨rfl, rfl, hx⟩
theorem lt_tups {A : Around} {s : Shared} {p q : Addr} {is js : Array Value} {b : Bool} (h1 : s.heap.IsTuple p is) (h2 : s.heap.IsTuple q js) (hu : A.units < cLine) (hx : Lx A.in1 s (decide (is.size < js.size)) (is.toList.zip js.toList) b) :
    PySem.SeqAt.RcLt A s (.ref p) (.ref q) b := fun prog w E Q h => by
  obtain ⟨⟨c1, d1, t1, s1⟩, a1, b1, n1, f1⟩ := id h1
  obtain ⟨⟨c2, d2, t2, s2⟩, a2, b2, n2, f2⟩ := id h2
  simp only at b1 f1 b2 f2
  subst b1 f1 b2 f2
  exact richCompare_meets_room (op := .Lt) ⟨_, a1, rfl⟩ ⟨_, a2, rfl⟩ PySem.F.slot_tuple_lt PySem.F.entry_tuple_lt (PySem.F.args_tuple_lt_2 _ _) (tup_ltL p q is js n1 n2 d1 d2 s1 s2) ⟨a1, a2, b, hx, show Value.bool b ≠ Value.notImplemented ∧ Q (.bool b) s from ⟨(fun x => nomatch x), h⟩⟩ hu
end
mutual
theorem ltW_at : ∀ (x y : P) (A : Around) (s : Shared) (a b : Value) (as bs : List Addr) (k : Bool), Reads s.heap a (toPy x) as → Reads s.heap b (toPy y) bs → flat x = true → flat y = true → A.units + min (deep x) (deep y) < cLine → ltW x y = some k → PySem.SeqAt.RcLt A s a b k
  | .int i, .int j, A, s, a, b, as, bs, k, ra, rb, _, _, _, e => by
    simp only [ltW, Option.some.injEq] at e
    subst e
    simp only [toPy] at ra rb
    cases ra; cases rb
    intro prog w E Q hq
    exact PySem.P.lt_int hq
  | .str i, .str j, A, s, a, b, as, bs, k, ra, rb, _, _, _, e => by
    simp only [ltW, Option.some.injEq] at e
    subst e
    simp only [toPy] at ra rb
    cases ra; cases rb
    intro prog w E Q hq
    exact PySem.P.lt_str hq
  | .tup xs, .tup ys, A, s, a, b, as, bs, k, ra, rb, f1, f2, hu, e => by
    simp only [ltW] at e
    simp only [toPy] at ra rb
    simp only [flat] at f1 f2
    simp only [deep] at hu
    cases ra with
    | tuple h1 h2 h3 h4 =>
      cases rb with
      | tuple k1 k2 k3 k4 =>
        refine lt_tups ⟨_, h1, h2, _, h3⟩ ⟨_, k1, k2, _, k3⟩ (by omega) ?_
        exact ltWs_at xs ys A.in1 s _ _ _ _ k h4 k4 f1 f2 (by show A.units + 1 + _ < _; omega) _ (by simp) e
  | .non, y, _, _, _, _, _, _, _, _, _, _, _, _, e => by cases y <;> simp [ltW] at e
  | .bl _, y, _, _, _, _, _, _, _, _, _, _, _, _, e => by cases y <;> simp [ltW] at e
  | .lst _, y, _, _, _, _, _, _, _, _, _, _, _, _, e => by cases y <;> simp [ltW] at e
  | .dic _ _, y, _, _, _, _, _, _, _, _, _, _, _, _, e => by cases y <;> simp [ltW] at e
  | .set _, y, _, _, _, _, _, _, _, _, _, _, _, _, e => by cases y <;> simp [ltW] at e
  | .ins _ _, y, _, _, _, _, _, _, _, _, _, _, _, _, e => by cases y <;> simp [ltW] at e
  | .exc _ _, y, _, _, _, _, _, _, _, _, _, _, _, _, e => by cases y <;> simp [ltW] at e
  | .int _, .non, _, _, _, _, _, _, _, _, _, _, _, _, e | .int _, .bl _, _, _, _, _, _, _, _, _, _, _, _, _, e | .int _, .str _, _, _, _, _, _, _, _, _, _, _, _, _, e | .int _, .tup _, _, _, _, _, _, _, _, _, _, _, _, _, e | .int _, .lst _, _, _, _, _, _, _, _, _, _, _, _, _, e
  | .int _, .dic _ _, _, _, _, _, _, _, _, _, _, _, _, _, e | .int _, .set _, _, _, _, _, _, _, _, _, _, _, _, _, e | .int _, .ins _ _, _, _, _, _, _, _, _, _, _, _, _, _, e | .int _, .exc _ _, _, _, _, _, _, _, _, _, _, _, _, _, e
  | .str _, .non, _, _, _, _, _, _, _, _, _, _, _, _, e | .str _, .bl _, _, _, _, _, _, _, _, _, _, _, _, _, e | .str _, .int _, _, _, _, _, _, _, _, _, _, _, _, _, e | .str _, .tup _, _, _, _, _, _, _, _, _, _, _, _, _, e | .str _, .lst _, _, _, _, _, _, _, _, _, _, _, _, _, e
  | .str _, .dic _ _, _, _, _, _, _, _, _, _, _, _, _, _, e | .str _, .set _, _, _, _, _, _, _, _, _, _, _, _, _, e | .str _, .ins _ _, _, _, _, _, _, _, _, _, _, _, _, _, e | .str _, .exc _ _, _, _, _, _, _, _, _, _, _, _, _, _, e
  | .tup _, .non, _, _, _, _, _, _, _, _, _, _, _, _, e | .tup _, .bl _, _, _, _, _, _, _, _, _, _, _, _, _, e | .tup _, .int _, _, _, _, _, _, _, _, _, _, _, _, _, e | .tup _, .str _, _, _, _, _, _, _, _, _, _, _, _, _, e | .tup _, .lst _, _, _, _, _, _, _, _, _, _, _, _, _, e
  | .tup _, .dic _ _, _, _, _, _, _, _, _, _, _, _, _, _, e | .tup _, .set _, _, _, _, _, _, _, _, _, _, _, _, _, e | .tup _, .ins _ _, _, _, _, _, _, _, _, _, _, _, _, _, e | .tup _, .exc _ _, _, _, _, _, _, _, _, _, _, _, _, _, e => by simp [ltW] at e
theorem ltWs_at : ∀ (xs ys : List P) (A : Around) (s : Shared) (vs ws : List Value) (as bs : List Addr) (k : Bool), ReadsAll s.heap vs (toPys xs) as → ReadsAll s.heap ws (toPys ys) bs → flats xs = true → flats ys = true → A.units + min (deeps xs) (deeps ys) < cLine →
    ∀ z, z = decide (vs.length < ws.length) → ltWs xs ys = some k → Lx A s z (vs.zip ws) k
  | [], [], _, _, _, _, _, _, _, ra, rb, _, _, _, z, hz, e => by
    simp only [toPys] at ra rb
    simp only [ltWs, Option.some.injEq] at e
    cases ra; cases rb
    subst e
    simp at hz
    subst hz
    exact .done
  | [], _ :: _, _, _, _, _, _, _, _, ra, rb, _, _, _, z, hz, e => by
    simp only [toPys] at ra rb
    simp only [ltWs, Option.some.injEq] at e
    cases ra; cases rb
    subst e
    simp at hz
    subst hz
    exact .done
  | _ :: _, [], _, _, _, _, _, _, _, ra, rb, _, _, _, z, hz, e => by
    simp only [toPys] at ra rb
    simp only [ltWs, Option.some.injEq] at e
    cases ra; cases rb
    subst e
    simp at hz
    subst hz
    exact .done
  | x :: xs, y :: ys, A, s, _, _, _, _, k, ra, rb, f1, f2, hu, z, hz, e => by
    simp only [toPys] at ra rb
    simp only [flats, Bool.and_eq_true] at f1 f2
    simp only [deeps] at hu
    simp only [ltWs] at e
    cases ra with
    | cons r rs =>
      cases rb with
      | cons r' rs' =>
        have q := SeqAt.eqAt_reads _ _ A s _ _ _ _ r r' (lay_py x f1.1) (lay_py y f2.1) (by rw [depth_py, depth_py]; omega)
        rw [eqv_py x y f1.1 f2.1] at q
        rw [List.zip_cons_cons]
        split at e
        · rename_i c
          rw [c] at q
          exact .same q (ltWs_at xs ys A s _ _ _ _ k rs rs' f1.2 f2.2 (by omega) z (by rw [hz]; simp) e)
        · rename_i c
          rw [show eqP x y = false by simpa using c] at q
          exact .diff q (ltW_at x y A s _ _ _ _ k r r' f1.1 f2.1 (by omega) e)
end
/-! ### comparisons -/
def rC (T : Tb) (op : COp) : R2 := fun x y H Q => ∃ α W m a b, HR T α W H m ∧ RD T α W H a x ∧ RD T α W H b y ∧ Hg T α W H ((Out.of (cmpD op a b m) m).bind fun r m3 => .ok (.p (.bl r)) m3) (fin T Q)
theorem rd_rg {d : D} {m : Mem} {x : P} (h : rd d m = some x) : rg d m = some x := by
  cases d <;> first | exact h | cases h
theorem rC.red {op : COp} {x y : V} {H : Hp} {Q : VK} (h : rC T op x y H Q) : ∃ α W m u v r, HR T α W H m ∧ Rg T W H u x ∧ Rg T W H v y ∧ cmpP op u v = some r ∧ Q (.bl r) H ∧ (isIn op = true → kOk true u = true → Rp T W H u x) := by
  obtain ⟨α, W, m, a, b, hr, ra, rb, h⟩ := h
  unfold cmpD at h
  cases ea : (if isIn op then rd a m else rg a m) with
  | none => rw [ea] at h; exact h.elim
  | some u =>
    cases eb : rg b m with
    | none => rw [ea, eb] at h; exact h.elim
    | some v =>
      rw [ea, eb] at h
      cases e : cmpP op u v with
      | none => simp only [e] at h; exact h.elim
      | some r =>
        simp only [e] at h
        have eg : rg a m = some u := by
          split at ea
          · exact rd_rg ea
          · exact ea
        refine ⟨α, W, m, u, v, r, hr, rg_rg hr ra eg, rg_rg hr rb eb, e, h.here hr (.bl r) (by show Rp T W H _ _; simp only [Rp]), fun hi hk => ?_⟩
        rw [if_pos hi] at ea
        cases a with
        | p z => cases ea; exact ra
        | ref n k =>
          obtain ⟨p, _, _, h3⟩ := hr.cel n k u ea
          cases u with
          | tup l => exact (show False from h3).elim
          | _ => simp [kOk, kyT] at hk
        | _ => cases ea
theorem eq_sc {a b : P} {x y : V} {H : Hp} {W : Addr → Prop} (ha : Rp T W H a x) (hb : Rp T W H b y) (s : sc a = true) (s' : sc b = true) : (scal x y = true ∧ decide (x = y) = eqP a b) ∨ (SeqAt.shaped (toPy a) = true ∧ SeqAt.shaped (toPy b) = true ∧ flat a = true ∧ flat b = true) := by
  cases a <;> first | (simp [sc] at s; done) | (cases b <;> first | (simp [sc] at s'; done) | (simp only [Rp] at ha hb; subst ha; subst hb; first | (left; refine ⟨rfl, ?_⟩; rw [Bool.eq_iff_iff]; simp [eqP]; done) | (right; exact ⟨okD_shaped (by simp [okD, flat, deep]), okD_shaped (by simp [okD, flat, deep]), by simp [flat], by simp [flat]⟩)))
theorem opC_eq (hX : CxOk T X) : OpR X (compareOp .Eq) (rC T .eq) := by
  intro pins s σ H x y v u Q I rx ry h
  obtain ⟨α, W, m, a, b, r, hr, ra, rb, e, q, _⟩ := h.red
  have hu : X.A.units + 64 < cLine := by have := hX.hu; omega
  unfold cmpP at e
  simp only at e
  split at e
  · rename_i ok
    cases e
    unfold okEq at ok
    rw [Bool.or_eq_true, Bool.and_eq_true, Bool.and_eq_true] at ok
    have deep_ : SeqAt.shaped (toPy a) = true → SeqAt.shaped (toPy b) = true → flat a = true → flat b = true → wpAny (model X.prog X.w) X.A (compareOp .Eq v u) (EP X pins σ Q) X.xe s := fun s1 s2 f1 f2 =>
      op_eqD hu pins s σ H _ _ v u Q I rx ry ⟨toPy a, toPy b, by rw [hX.K]; exact ra.dp f1, by rw [hX.K]; exact rb.dp f2, s1, s2, by rw [eqv_py a b f1 f2]; exact q⟩
    rcases ok with ⟨s1, s2⟩ | ⟨o1, o2⟩
    · rcases eq_sc (ra.sc_ s1) (rb.sc_ s2) s1 s2 with ⟨c1, c2⟩ | ⟨c1, c2, c3, c4⟩
      · exact op_eq pins s σ H _ _ v u Q I rx ry ⟨c1, by rw [c2]; exact q⟩
      · exact deep_ c1 c2 c3 c4
    · have f1 := o1; have f2 := o2
      unfold okD at f1 f2
      rw [Bool.and_eq_true] at f1 f2
      exact deep_ (okD_shaped o1) (okD_shaped o2) f1.1 f2.1
  · cases e
theorem opC_ne (hX : CxOk T X) : OpR X (compareOp .NotEq) (rC T .ne) := by
  intro pins s σ H x y v u Q I rx ry h
  obtain ⟨α, W, m, a, b, r, hr, ra, rb, e, q, _⟩ := h.red
  have hu : X.A.units + 64 < cLine := by have := hX.hu; omega
  unfold cmpP at e
  simp only at e
  split at e
  · rename_i ok
    cases e
    unfold okEq at ok
    rw [Bool.or_eq_true, Bool.and_eq_true, Bool.and_eq_true] at ok
    have deep_ : SeqAt.shaped (toPy a) = true → SeqAt.shaped (toPy b) = true → flat a = true → flat b = true → wpAny (model X.prog X.w) X.A (compareOp .NotEq v u) (EP X pins σ Q) X.xe s := fun s1 s2 f1 f2 =>
      op_neD hu pins s σ H _ _ v u Q I rx ry ⟨toPy a, toPy b, by rw [hX.K]; exact ra.dp f1, by rw [hX.K]; exact rb.dp f2, s1, s2, by rw [eqv_py a b f1 f2]; exact q⟩
    rcases ok with ⟨s1, s2⟩ | ⟨o1, o2⟩
    · rcases eq_sc (ra.sc_ s1) (rb.sc_ s2) s1 s2 with ⟨c1, c2⟩ | ⟨c1, c2, c3, c4⟩
      · exact op_ne pins s σ H _ _ v u Q I rx ry ⟨c1, by rw [c2]; exact q⟩
      · exact deep_ c1 c2 c3 c4
    · have f1 := o1; have f2 := o2
      unfold okD at f1 f2
      rw [Bool.and_eq_true] at f1 f2
      exact deep_ (okD_shaped o1) (okD_shaped o2) f1.1 f2.1
  · cases e
theorem ltP_at {a b : P} {r : Bool} {s : Shared} {x y : Value} {as bs : List Addr} {A : Around} (e : ltP a b = some r) (ht : isTupP a = true) (ra : Reads s.heap x (toPy a) as) (rb : Reads s.heap y (toPy b) bs) (hu : A.units + 64 < cLine) : PySem.SeqAt.RcLt A s x y r := by
  unfold ltP at e
  split at e
  · cases ht
  · cases ht
  · split at e
    · rename_i ok
      rw [Bool.and_eq_true] at ok
      have f1 := ok.1; have f2 := ok.2
      unfold okD at f1 f2
      rw [Bool.and_eq_true, decide_eq_true_eq] at f1 f2
      exact ltW_at _ _ A s _ _ _ _ r ra rb f1.1 f2.1 (by omega) (by simpa only [ltW] using e)
    · cases e
  · cases e
theorem okD_of_lt {xs ys : List P} {r : Bool} (e : ltP (.tup xs) (.tup ys) = some r) : flat (.tup xs) = true ∧ flat (.tup ys) = true := by
  unfold ltP at e
  simp only at e
  split at e
  · rename_i ok
    rw [Bool.and_eq_true] at ok
    have f1 := ok.1; have f2 := ok.2
    unfold okD at f1 f2
    rw [Bool.and_eq_true] at f1 f2
    exact ⟨f1.1, f2.1⟩
  · cases e
theorem opC_lt (hX : CxOk T X) : OpR X (compareOp .Lt) (rC T .lt) := by
  intro pins s σ H x y v u Q I rx ry h
  obtain ⟨α, W, m, a, b, r, hr, ra, rb, e, q, _⟩ := h.red
  have hu : X.A.units + 64 < cLine := by have := hX.hu; omega
  have e : ltP a b = some r := e
  have e' := e
  unfold ltP at e
  split at e
  · cases e
    obtain rfl := ra.int; obtain rfl := rb.int
    exact op_lt pins s σ H _ _ v u Q I rx ry ⟨_, _, rfl, rfl, q⟩
  · cases e
    obtain rfl := ra.str; obtain rfl := rb.str
    exact op_lt_str pins s σ H _ _ v u Q I rx ry ⟨_, _, rfl, rfl, q⟩
  · obtain ⟨f1, f2⟩ := okD_of_lt e'
    have d1 := ra.dp f1
    have d2 := rb.dp f2
    rw [← hX.K] at d1 d2
    obtain ⟨as, r1⟩ := Dp.reads I _ x v d1 rx
    obtain ⟨bs, r2⟩ := Dp.reads I _ y u d2 ry
    exact ltP_at e' rfl r1 r2 hu X.prog X.w X.xe _ ⟨.bl _, H, I, rfl, q⟩
  · cases e
theorem opC_gt : OpR X (compareOp .Gt) (rC T .gt) := by
  intro pins s σ H x y v u Q I rx ry h
  obtain ⟨α, W, m, a, b, r, hr, ra, rb, e, q, _⟩ := h.red
  unfold cmpP ltS at e
  simp only at e
  split at e
  · cases e
    obtain rfl := ra.int; obtain rfl := rb.int
    exact op_gt pins s σ H _ _ v u Q I rx ry ⟨_, _, rfl, rfl, q⟩
  · cases e
    obtain rfl := ra.str; obtain rfl := rb.str
    exact op_gt_str pins s σ H _ _ v u Q I rx ry ⟨_, _, rfl, rfl, q⟩
  · cases e
theorem opC_le : OpR X (compareOp .LtE) (rC T .le) := by
  intro pins s σ H x y v u Q I rx ry h
  obtain ⟨α, W, m, a, b, r, hr, ra, rb, e, q, _⟩ := h.red
  unfold cmpP leP at e
  simp only at e
  split at e
  · cases e
    obtain rfl := ra.int; obtain rfl := rb.int
    exact op_le pins s σ H _ _ v u Q I rx ry ⟨_, _, rfl, rfl, q⟩
  · cases e
theorem opC_ge : OpR X (compareOp .GtE) (rC T .ge) := by
  intro pins s σ H x y v u Q I rx ry h
  obtain ⟨α, W, m, a, b, r, hr, ra, rb, e, q, _⟩ := h.red
  unfold cmpP leP at e
  simp only at e
  split at e
  · cases e
    obtain rfl := ra.int; obtain rfl := rb.int
    exact op_ge pins s σ H _ _ v u Q I rx ry ⟨_, _, rfl, rfl, q⟩
  · cases e
theorem opC_is : OpR X (compareOp .Is) (rC T .is) := by
  intro pins s σ H x y v u Q I rx ry h
  obtain ⟨α, W, m, a, b, r, hr, ra, rb, e, q, _⟩ := h.red
  unfold cmpP isP at e
  simp only at e
  split at e
  · cases e
    obtain rfl := rb.non
    exact op_isN pins s σ H _ _ v u Q I rx ry ⟨rfl, by rw [ra.notNon]; exact q⟩
  · cases e
    obtain rfl := ra.bl; obtain rfl := rb.bl
    exact op_is_bl pins s σ H _ _ v u Q I rx ry ⟨_, _, rfl, rfl, by rw [← Bool.beq_eq_decide_eq]; exact q⟩
  · cases e
theorem opC_isnot : OpR X (compareOp .IsNot) (rC T .isnot) := by
  intro pins s σ H x y v u Q I rx ry h
  obtain ⟨α, W, m, a, b, r, hr, ra, rb, e, q, _⟩ := h.red
  unfold cmpP isP at e
  simp only at e
  split at e
  · cases e
    obtain rfl := rb.non
    exact op_notN pins s σ H _ _ v u Q I rx ry ⟨rfl, by rw [ra.notNon]; exact q⟩
  · cases e
    obtain rfl := ra.bl; obtain rfl := rb.bl
    exact op_isnot_bl pins s σ H _ _ v u Q I rx ry ⟨_, _, rfl, rfl, by rw [← Bool.beq_eq_decide_eq]; exact q⟩
  · cases e
end Lot
/-! LotF: membership, places, slices. -/
namespace Lot
open PySem PySem.Spec PyProof.Rows L2
variable {T : Tb} {X : Cx}
section
variable {α α' : Al} {W W' : Addr → Prop} {H H' : Hp} {m : Mem}
theorem hasS_ks {κ : Ky} {x : P} (hx : ky x = some κ) : ∀ {l : List P} {ks : List Ky}, kys l = some ks → hasS l x = ks.any fun j => decide (j = κ)
  | [], _, e => by simp only [kys] at e; cases e; rfl
  | y :: r, ks, e => by
    simp only [kys] at e
    split at e
    · rename_i k ks' e1 e2
      cases e
      have ih := hasS_ks hx e2
      unfold hasS at ih ⊢
      rw [List.any_cons, ih, List.any_cons]
      have e3 : kEq false y x = decide (k = κ) := by
        show decide (ky y = ky x) = decide (k = κ)
        rw [e1, hx]
        by_cases h : k = κ
        · subst h; rw [decide_eq_true rfl, decide_eq_true rfl]
        · rw [decide_eq_false (fun z => h (Option.some.inj z)), decide_eq_false h]
      rw [e3]
    · cases e
theorem none_set {P : Program} {w : World} {h : Heap} {a : Addr} {S : Key → Bool} {n : Nat} (d : h.SetOf (mixKind P w) a S n) : h.SetOf (noneKind P w) a (fun o => match o with | none => false | some k => S k) n := by
  obtain ⟨o, es, ep, t, ho, hx, hd, hel, hmem, hb, hf, hn⟩ := d
  refine ⟨o, es, ep, t, ho, hx, hd, fun e he => ?_, fun k => ?_, hb, hf, hn⟩
  · obtain ⟨⟨k, h1, h2⟩, h3⟩ := hel e he
    exact ⟨⟨some k, h1, h2⟩, h3⟩
  · cases k with
    | some k => exact hmem k
    | none =>
      refine ⟨(fun z => Bool.noConfusion z), fun ⟨e, he, hz⟩ => ?_⟩
      obtain ⟨⟨k, h1, _⟩, _⟩ := hel e he
      have e1 : keyIs k e.2 = true := h1
      rw [nk_none hz] at e1
      exact absurd e1 (keyIs_none k)
end
def rInDT (K : PySem.W.Frag) (neg : Bool) : R2 := fun x y H Q => ∃ d ds, Dp K H x d ∧ Dp K H y (.tuple ds) ∧ SeqAt.shaped d = true ∧ SeqAt.shaped (.tuple ds) = true ∧ Q (.bl (if neg then !ds.any fun z => PyData.eqv z d else ds.any fun z => PyData.eqv z d)) H
theorem shaped_tl {ds : List PyData} (h : SeqAt.shaped (.tuple ds) = true) : SeqAt.shaped (.list ds) = true := by
  unfold SeqAt.shaped at h ⊢
  simpa [PyData.canLay0, PyData.depth] using h
theorem op_inDT (hu : X.A.units + 65 < cLine) : OpR X (compareOp .In) (rInDT X.K false) := by
  intro pins s σ H x y v u Q I rx ry h
  obtain ⟨d, ds, hd, he, sd, se, q⟩ := h
  obtain ⟨as, r1⟩ := Dp.reads I d x v hd rx
  obtain ⟨bs, r2⟩ := Dp.reads I (.tuple ds) y u he ry
  exact SeqAt.in_tuple_reads r2 r1 (SeqAt.canLay_of_shaped (shaped_tl se)) (SeqAt.canLay_of_shaped sd) (room_in_shaped sd hu) ⟨.bl _, H, I, rfl, q⟩
theorem op_notInDT (hu : X.A.units + 65 < cLine) : OpR X (compareOp .NotIn) (rInDT X.K true) := by
  intro pins s σ H x y v u Q I rx ry h
  obtain ⟨d, ds, hd, he, sd, se, q⟩ := h
  obtain ⟨as, r1⟩ := Dp.reads I d x v hd rx
  obtain ⟨bs, r2⟩ := Dp.reads I (.tuple ds) y u he ry
  exact SeqAt.notIn_tuple_reads r2 r1 (SeqAt.canLay_of_shaped (shaped_tl se)) (SeqAt.canLay_of_shaped sd) (room_in_shaped sd hu) ⟨.bl _, H, I, rfl, q⟩
theorem okD_flat {x : P} (h : okD x = true) : flat x = true := by
  unfold okD at h; rw [Bool.and_eq_true] at h; exact h.1
/-- x in y, by what is read -/
theorem in_run (hX : CxOk T X) (neg : Bool) {op : CmpOp} (hop : op = if neg then .NotIn else .In) {pins : List (Addr × PySem.Obj)} {s : Shared} {σ : L2.St} {H : Hp} {x y : V} {v u : Value} {Q : VK} (I : Inv X pins σ H s) (rx : RelV x v) (ry : RelV y u)
    {W : Addr → Prop} {a b : P} {r : Bool} (ra : Rg T W H a x) (rb : Rg T W H b y) (e : inP a b = some r) (hp : kOk true a = true → Rp T W H a x) (q : Q (.bl (if neg then !r else r)) H) :
    wpAny (model X.prog X.w) X.A (compareOp op v u) (EP X pins σ Q) X.xe s := by
  have hu : X.A.units + 65 < cLine := by have := hX.hu; omega
  have hu1 : X.A.units + 1 < cLine := by omega
  unfold inP at e
  split at e
  · rename_i l
    split at e
    · rename_i ok
      cases e
      obtain ⟨p, xs, rfl, h1, h2⟩ := rb.lst
      rw [Bool.or_eq_true, Bool.and_eq_true, Bool.and_eq_true] at ok
      rcases ok with ⟨s1, s2⟩ | ⟨o1, o2⟩
      · have k := inV_sc (ra.sc_ s1) s1 h2 s2
        have f1 := sc_flatV (ra.sc_ s1) s1
        have f2 := all_flatV h2 s2
        cases neg with
        | false => subst hop; exact op_in_seq pins s σ H _ _ v u Q I rx ry ⟨p, xs, rfl, .inl (SqL.of h1), f1, f2, by simpa [k] using q⟩
        | true => subst hop; exact op_notIn_seq pins s σ H _ _ v u Q I rx ry ⟨p, xs, rfl, .inl (SqL.of h1), f1, f2, by simpa [k] using q⟩
      · have k := any_py (okD_flat o1) (l := l) (by simpa [flat] using okD_flat o2)
        have d2 := rb.dp (okD_flat o2)
        have sh := okD_shaped o2
        simp only [toPy] at d2 sh
        cases neg with
        | false => subst hop; exact op_inD hu pins s σ H _ _ v u Q I rx ry ⟨toPy a, toPys l, by rw [hX.K]; exact ra.dp (okD_flat o1), by rw [hX.K]; exact d2, okD_shaped o1, sh, by rw [k]; simpa using q⟩
        | true => subst hop; exact op_notInD hu pins s σ H _ _ v u Q I rx ry ⟨toPy a, toPys l, by rw [hX.K]; exact ra.dp (okD_flat o1), by rw [hX.K]; exact d2, okD_shaped o1, sh, by rw [k]; simpa using q⟩
    · cases e
  · rename_i l
    split at e
    · rename_i ok
      cases e
      obtain ⟨p, xs, rfl, h1, h2⟩ := rb.tup
      rw [Bool.or_eq_true, Bool.and_eq_true, Bool.and_eq_true] at ok
      rcases ok with ⟨s1, s2⟩ | ⟨o1, o2⟩
      · have k := inV_sc (ra.sc_ s1) s1 h2 s2
        have f1 := sc_flatV (ra.sc_ s1) s1
        have f2 := all_flatV h2 s2
        rw [← hX.K] at h1
        cases neg with
        | false => subst hop; exact op_in_seq pins s σ H _ _ v u Q I rx ry ⟨p, xs, rfl, .inr h1, f1, f2, by simpa [k] using q⟩
        | true => subst hop; exact op_notIn_seq pins s σ H _ _ v u Q I rx ry ⟨p, xs, rfl, .inr h1, f1, f2, by simpa [k] using q⟩
      · have k := any_py (okD_flat o1) (l := l) (by simpa [flat] using okD_flat o2)
        have d2 := rb.dp (okD_flat o2)
        have sh := okD_shaped o2
        simp only [toPy] at d2 sh
        cases neg with
        | false => subst hop; exact op_inDT hu pins s σ H _ _ v u Q I rx ry ⟨toPy a, toPys l, by rw [hX.K]; exact ra.dp (okD_flat o1), by rw [hX.K]; exact d2, okD_shaped o1, sh, by rw [k]; simpa using q⟩
        | true => subst hop; exact op_notInDT hu pins s σ H _ _ v u Q I rx ry ⟨toPy a, toPys l, by rw [hX.K]; exact ra.dp (okD_flat o1), by rw [hX.K]; exact d2, okD_shaped o1, sh, by rw [k]; simpa using q⟩
    · cases e
  · rename_i t
    split at e
    · rename_i sx
      split at e
      · rename_i c hc
        cases e
        obtain rfl := ra.str
        obtain rfl := rb.str
        obtain ⟨cps⟩ := sx
        have hc' : cps = #[c] := by
          apply Array.ext'
          simpa using hc
        subst hc'
        cases neg with
        | false => subst hop; exact op_in_sign pins s σ H _ _ v u Q I rx ry ⟨c, t, rfl, rfl, by simpa using q⟩
        | true => subst hop; exact op_notIn_sign pins s σ H _ _ v u Q I rx ry ⟨c, t, rfl, rfl, by simpa using q⟩
      · cases e
    · cases e
  · rename_i t l
    split at e
    · rename_i ok
      cases e
      have hk : Rp T W H a x := by
        cases t with
        | true => exact hp ok
        | false =>
          have ok' : (ky a).isSome = true := by simpa [kOk] using ok
          refine ra.sc_ ?_
          cases a <;> first | rfl | simp [ky] at ok'
      obtain ⟨p, o, rfl, h1, h2⟩ := get_dic (rb.c (by simp)) ok hk
      cases ry
      cases neg with
      | false => subst hop; exact d_in hu1 I h1 rx fun s' I' => ⟨.bl _, H, I', rfl, by rw [h2.isSome]; simpa using q⟩
      | true => subst hop; exact d_notIn hu1 I h1 rx fun s' I' => ⟨.bl _, H, I', rfl, by rw [h2.isSome]; simpa using q⟩
    · split at e
      · cases e
        obtain rfl := ra.non
        obtain ⟨p, kvs, rfl, h1, _⟩ := (rb.c (by simp)).dicF
        cases rx; cases ry
        cases neg with
        | false => subst hop; exact d_inNone I (.inl h1) fun s' I' => ⟨.bl _, H, I', rfl, by simpa using q⟩
        | true => subst hop; exact d_notInNone I (.inl h1) fun s' I' => ⟨.bl _, H, I', rfl, by simpa using q⟩
      · cases e
  · rename_i l
    obtain ⟨p, ks, rfl, h1, h2, h3⟩ := (rb.c (by simp)).set
    rw [← hX.P, ← hX.w] at h3
    split at e
    · rename_i ok
      cases e
      have ok' : (ky a).isSome = true := by simpa [kOk] using ok
      obtain ⟨κ, ek⟩ := Option.isSome_iff_exists.mp ok'
      have ex : x = kV κ := by
        have hk : Rp T W H a x := by
          refine ra.sc_ ?_
          cases a <;> first | rfl | simp [ky] at ok'
        have h3 : Rp T W H a (kV κ) := rp_ky ek
        cases a <;> first | cases ek | skip
        all_goals (simp only [Rp] at hk; subst hk; rfl)
      subst ex
      have k := hasS_ks ek h1
      cases neg with
      | false => subst hop; exact or_sinK pins s σ H _ _ v u Q I rx ry ⟨κ, p, _, _, rfl, rfl, h3, by rw [k] at q; simpa using q⟩
      | true => subst hop; exact or_snotinK pins s σ H _ _ v u Q I rx ry ⟨κ, p, _, _, rfl, rfl, h3, by rw [k] at q; simpa using q⟩
    · split at e
      · cases e
        obtain rfl := ra.non
        cases rx; cases ry
        have d := none_set (setK_get I h3)
        cases neg with
        | false => subst hop; exact wpAny_inSet_of (k := (none : Option Key)) (show (noneKind X.prog X.w).is none .none = true from rfl) rfl d ⟨.bl _, H, I.tok _, rfl, by simpa using q⟩
        | true => subst hop; exact wpAny_notInSet_of (k := (none : Option Key)) (show (noneKind X.prog X.w).is none .none = true from rfl) rfl d ⟨.bl _, H, I.tok _, rfl, by simpa using q⟩
      · cases e
  · cases e
theorem opC_in (hX : CxOk T X) : OpR X (compareOp .In) (rC T .inn) := by
  intro pins s σ H x y v u Q I rx ry h
  obtain ⟨α, W, m, a, b, r, hr, ra, rb, e, q, hp⟩ := h.red
  exact in_run hX false rfl I rx ry ra rb e (hp rfl) q
theorem opC_notin (hX : CxOk T X) : OpR X (compareOp .NotIn) (rC T .notin) := by
  intro pins s σ H x y v u Q I rx ry h
  obtain ⟨α, W, m, a, b, r, hr, ra, rb, e, q, hp⟩ := h.red
  unfold cmpP at e
  simp only [Option.map_eq_some_iff] at e
  obtain ⟨r', e, rfl⟩ := e
  exact in_run hX true rfl I rx ry ra rb e (hp rfl) q

/-! ### o[i] -/
theorem ixN_eq (n : Nat) (i : Int) : Lot.ixN n i = L2.ixN n i := rfl
theorem atI_rp {W : Addr → Prop} {H : Hp} {l : List P} {xs : List V} {i : Int} {x : P} (h : RpL T W H l xs) (e : Lot.atI l i = some x) : ∃ v, L2.atI xs i = some v ∧ Rp T W H x v := by
  unfold Lot.atI at e
  obtain ⟨j, e1, e2⟩ := Option.bind_eq_some_iff.mp e
  obtain ⟨v, e3, r⟩ := RpL.get h e2
  refine ⟨v, ?_, r⟩
  unfold L2.atI
  rw [← ixN_eq, h.len, e1]
  exact e3
def rI (T : Tb) : R2 := fun x y H Q => ∃ α W m a b, HR T α W H m ∧ RD T α W H a x ∧ RD T α W H b y ∧ Hg T α W H ((Out.of (ixD a b m) m).bind fun r m3 => .ok (.p r) m3) (fin T Q)
theorem ix_dic (hX : CxOk T X) : IxR X (fun x y H Q => ∃ a v, x = V.ref a ∧ DGet H a y (some v) ∧ Q v H) := by
  intro value slice pins s σ H x y v u Q I rx ry h hs
  obtain ⟨a, w', rfl, g, q⟩ := h
  cases rx
  have hu : X.A.units + 1 < cLine := by have := hX.hu; omega
  have hT := dict_typeIs I g
  unfold subscriptTail
  refine wpAny_bind ?_
  rw [getitemInPython_of_ne hT.not_modules]
  refine wpAny_bind (wpAny_specialOf hT PySem.F.slot_dict_getitem.lookup ?_)
  have fin : wpAny (model X.prog X.w) X.A (subscripted slice false (.ref a) u) (fun r s₃ => wpAny (model X.prog X.w) X.A (letTemporaryGo value (.ref a) r >>= fun _ => pure r) (EP X pins σ Q) X.xe s₃) X.xe s := by
    rw [hs]
    exact wpAny_operating (wpAny_mono (d_getItem (E := X.xe) hu I g ry fun z s' I' rz => (show EP X pins σ Q z s' from ⟨w', H, I', rz, q⟩)) (fun r s₃ h₃ => wpAny_bind (wpAny_letTemporaryGo (wpAny_pure h₃))) fun _ _ x => x)
  first
    | exact wpAny_pure (wpAny_bind fin)
    | exact wpAny_bind (wpAny_pure (wpAny_bind fin))
    | exact wpAny_bind fin
theorem ix_ok (hX : CxOk T X) : IxR X (rI T) := by
  intro value slice pins s σ H x y v u Q I rx ry h hs
  obtain ⟨α, W, m, a, b, hr, ra, rb, h⟩ := h
  unfold ixD at h
  cases ea : rg a m with
  | none => rw [ea] at h; exact h.elim
  | some p =>
    cases eb : rd b m with
    | none => rw [ea, eb] at h; exact h.elim
    | some k =>
      rw [ea, eb] at h
      cases e : ixP p k with
      | none => simp only [e] at h; exact h.elim
      | some r =>
        simp only [e] at h
        have q : ∀ z, Rp T W H r z → Q z H := fun z rz => h.here hr z rz
        have ga := rg_rg hr ra ea
        have gb := rd_rc hr rb eb
        unfold ixP at e
        split at e
        · obtain ⟨p', xs, rfl, h1, h2⟩ := ga.lst
          obtain rfl := gb.int
          obtain ⟨z, h3, h4⟩ := atI_rp h2 e
          exact ix_list value slice pins s σ H _ _ v u Q I rx ry ⟨p', xs, _, z, rfl, rfl, SqL.of h1, h3, q z h4⟩ hs
        · obtain ⟨p', xs, rfl, h1, h2⟩ := ga.tup
          obtain rfl := gb.int
          obtain ⟨z, h3, h4⟩ := atI_rp h2 e
          exact ix_tup value slice pins s σ H _ _ v u Q I rx ry ⟨p', xs, _, z, rfl, rfl, by rw [hX.K]; exact h1, h3, q z h4⟩ hs
        · split at e
          · rename_i hl
            obtain rfl := ga.str
            obtain rfl := gb.int
            obtain ⟨c, h3, rfl⟩ := Option.map_eq_some_iff.mp e
            exact ix_str value slice pins s σ H _ _ v u Q I rx ry ⟨_, _, c, rfl, rfl, by rw [← line_eq]; exact hl, h3, q _ (by simp only [Rp])⟩ hs
          · cases e
        · split at e
          · rename_i t l _ ok
            have hk : Rp T W H k y := by
              cases b with
              | p z => cases eb; exact rb
              | ref n i =>
                obtain ⟨p', _, _, h3⟩ := hr.cel n i k eb
                cases k with
                | tup l => exact (show False from h3).elim
                | int _ => exact (show False from h3).elim
                | str _ => exact (show False from h3).elim
                | _ => cases t <;> simp [kOk, kyT, ky] at ok
              | _ => cases eb
            obtain ⟨p', o, rfl, h1, h2⟩ := get_dic (ga.c (by simp)) ok hk
            rw [e] at h2
            cases o with
            | none => exact h2.elim
            | some z => exact ix_dic hX value slice pins s σ H _ _ v u Q I rx ry ⟨p', z, rfl, h1, q z h2⟩ hs
          · cases e
        · cases e

/-! ### o[lo:hi] -/
theorem sIx_eq (n d : Nat) (o : Option Int) : Lot.sIx n d o = HT.sIx n d o := by
  cases o with
  | none => rfl
  | some v =>
    show (if v < 0 then (v + (n : Int)).toNat else min v.toNat n) = HT.sIx n d (some v)
    unfold HT.sIx
    rfl
theorem cut_rp {W : Addr → Prop} {H : Hp} {l : List P} {xs : List V} (lo hi : Option Int) (h : RpL T W H l xs) : RpL T W H (cut l lo hi) (cutV xs lo hi) := by
  unfold cut cutV
  rw [sIx_eq, sIx_eq, ← h.len]
  exact (h.drop _).take _
theorem cut_whole {α : Type} (l : List α) (lo hi : Option Int) (h : HT.sIx l.length 0 lo = 0 ∧ HT.sIx l.length l.length hi = l.length) : cut l lo hi = l := by
  unfold cut
  rw [sIx_eq, sIx_eq, h.1, h.2]
  simp
theorem cut_len {α : Type} (l : List α) (lo hi : Option Int) : (cut l lo hi).length ≤ l.length := by
  unfold cut
  rw [List.length_take, List.length_drop]
  omega
/-- a slice's reading: what is cut, its bounds -/
def rS (T : Tb) : V → Option Int → Option Int → Hp → VK → Prop := fun x lo hi H Q => ∃ α W m a, HR T α W H m ∧ RD T α W H a x ∧ Hx T α W H ((Out.of (sliceD a lo hi m) m).bind fun r m4 => .ok (.p r) m4) Q
theorem ints_rp {W : Addr → Prop} {H : Hp} : ∀ l : List Int, RpL T W H (l.map P.int) (l.map V.int)
  | [] => by simp only [List.map_nil, RpL]
  | i :: r => by
    simp only [List.map_cons, RpL]
    exact ⟨_, _, rfl, by simp only [Rp], ints_rp r⟩
theorem sl_ok (hX : CxOk T X) : SlR X (rS T) := by
  intro pins s σ H x v vl vu lo hi sl Q I rx hs pl pu h
  obtain ⟨α, W, m, a, hr, ra, h⟩ := h
  have go : ∀ y r, rd a m = some y → sliceP y lo hi = some r → Hx T α W H (.ok (.p r) m) Q → wpAny (model X.prog X.w) X.A (getItem v (.ref sl)) (EP X pins σ Q) X.xe s → True := fun _ _ _ _ _ _ => trivial
  cases a with
  | scr l =>
    obtain ⟨p, rfl, hS⟩ := ra
    have hS : SqL X.K H p (l.map V.int) := by
      rcases hS with ⟨o, h1, h2⟩ | h2
      · exact .inl (.inr ⟨o, h2⟩)
      · rw [hX.K]; exact .inr h2
    exact sl_list pins s σ H _ v vl vu lo hi sl Q I rx hs pl pu ⟨p, _, rfl, hS, fun z hz => by
      have k := (ints_rp (T := T) (W := W) (H := H) l)
      exact (Hx.F h).new hr (cut_rp lo hi k) hz⟩
  | _ =>
    rename_i d
    all_goals
      unfold sliceD at h
      simp only at h
      generalize hd : (rd _ m) = od at h
      cases od with
      | none => exact (h.elim id id).elim
      | some y =>
        simp only [Option.bind_some] at h
        cases e : sliceP y lo hi with
        | none => rw [e] at h; exact (h.elim id id).elim
        | some r =>
          rw [e] at h
          simp only [Out.of_some, Out.bind_ok] at h
          have rc := rd_rc hr ra hd
          unfold sliceP at e
          split at e
          · cases e
            obtain ⟨p, xs, rfl, h1, h2⟩ := rc.lst
            exact sl_list pins s σ H _ v vl vu lo hi sl Q I rx hs pl pu ⟨p, xs, rfl, SqL.of h1, fun z hz => (Hx.F h).new hr (cut_rp lo hi h2) hz⟩
          · cases e
            obtain ⟨p, xs, rfl, h1, h2⟩ := rc.tup
            refine sl_tupA pins s σ H _ v vl vu lo hi sl Q I rx hs pl pu ⟨p, xs, rfl, h1.sq, fun z => ?_, fun z w hw => (Hx.tupD h).newT hr (cut_rp lo hi h2) hw⟩
            rw [h2.len] at z
            rw [cut_whole _ lo hi z] at h
            exact (Hx.tupD h).here hr (.ref p) (by show Rp T W H _ _; simp only [Rp]; exact ⟨p, xs, rfl, h1, h2⟩)
          · split at e
            · rename_i hl
              cases e
              obtain rfl := rc.str
              refine sl_str pins s σ H _ v vl vu lo hi sl Q I rx hs pl pu ⟨_, rfl, by rw [← line_eq]; exact hl, ?_⟩
              refine h.p (by intro l; simp) .refl hr ?_
              simp only [Rp]
              unfold cutS cut
              rw [sIx_eq, sIx_eq, Array.length_toList]
              rfl
            · cases e
          · cases e
end Lot
/-! LotG: one rule a construct, from readings of the small language to readings of the hand layer. -/
namespace Lot
open PySem PySem.Spec PyProof.Rows L2
variable {T : Tb} {X : Cx}
section
variable {a b c : Expr} {fa fb fc : Ev} {pos : Pos}
/-! ### operators -/
theorem g_bin {o : Operator} {f : P → P → Option P} (ho : OpR X (binaryOp o) (rB T f)) (ha : PE X a (tD T fa)) (hb : PE X b (tD T fb)) :
    PE X (.BinOp a o b pos) (tX T fun ρ m => (fa ρ m).bind fun x m1 => (fb ρ m1).bind fun y m2 => opO f x y m2) :=
  PE.weak (pe_op ho ha hb) fun σ H Q ⟨α, W, ρ, m, hr, hs, h⟩ => ⟨α, W, ρ, m, hr, hs, h.bind.mono fun x m1 α1 W1 H1 e1 hr1 h1 v rv =>
    ⟨α1, W1, ρ, m1, hr1, hs.ext e1, h1.bind.mono fun y m2 α2 W2 H2 e2 hr2 h2 u ru => ⟨α2, W2, m2, x, y, hr2, rv.ext e2, ru, h2⟩⟩⟩
def cmpO (op : COp) (x y : D) (m : Mem) : Out D := (Out.of (cmpD op x y m) m).bind fun r m3 => .ok (.p (.bl r)) m3
theorem g_cmp {o : CmpOp} {op : COp} (ho : OpR X (compareOp o) (rC T op)) (hm : behindInMarks o b = false) (ha : PE X a (tD T fa)) (hb : PE X b (tD T fb)) :
    PE X (.Compare a [o] [b] pos) (tD T fun ρ m => (fa ρ m).bind fun x m1 => (fb ρ m1).bind fun y m2 => cmpO op x y m2) :=
  PE.weak (pe_cmpR ho ha hb hm) fun σ H Q ⟨α, W, ρ, m, hr, hs, h⟩ => ⟨α, W, ρ, m, hr, hs, h.bind.mono fun x m1 α1 W1 H1 e1 hr1 h1 v rv =>
    ⟨α1, W1, ρ, m1, hr1, hs.ext e1, h1.bind.mono fun y m2 α2 W2 H2 e2 hr2 h2 u ru => ⟨α2, W2, m2, x, y, hr2, rv.ext e2, ru, h2⟩⟩⟩
/-- a test of a truth value's own term -/
def tO (f : Ev) : Env → Mem → Out Bool := fun ρ m => (f ρ m).bind truthO
theorem cmpO_bind {op : COp} {x y : D} {m : Mem} : (cmpO op x y m).bind truthO = Out.of (cmpD op x y m) m := by
  unfold cmpO
  cases cmpD op x y m <;> rfl
theorem Out.bind_assoc {α β γ : Type} (o : Out α) (f : α → Mem → Out β) (g : β → Mem → Out γ) : (o.bind f).bind g = o.bind fun a m => (f a m).bind g := by
  cases o <;> rfl
theorem g_cmpT {o : CmpOp} {op : COp} (ho : OpR X (compareOp o) (rC T op)) (hm : behindInMarks o b = false) (ha : PE X a (tD T fa)) (hb : PE X b (tD T fb)) :
    PT X (.Compare a [o] [b] pos) (tT T (tO fun ρ m => (fa ρ m).bind fun x m1 => (fb ρ m1).bind fun y m2 => cmpO op x y m2)) :=
  PT.weak (pt_cmpR ho ha hb hm) fun σ H Q ⟨α, W, ρ, m, hr, hs, h⟩ => by
    dsimp only [tO] at h
    rw [Out.bind_assoc] at h
    refine ⟨α, W, ρ, m, hr, hs, h.bind.mono fun x m1 α1 W1 H1 e1 hr1 h1 v rv => ⟨α1, W1, ρ, m1, hr1, hs.ext e1, ?_⟩⟩
    rw [Out.bind_assoc] at h1
    refine h1.bind.mono fun y m2 α2 W2 H2 e2 hr2 h2 u ru => ⟨α2, W2, m2, x, y, hr2, rv.ext e2, ru, ?_⟩
    rw [cmpO_bind] at h2
    cases e : cmpD op x y m2 with
    | none => rw [e] at h2; exact h2.elim
    | some r =>
      rw [e] at h2
      exact fun α3 W3 H3 e3 hr3 v' rv' => ⟨r, by simpa only [RD, Rp] using rv', h2.ok e3 hr3⟩
theorem g_neg (ha : PE X a (tD T fa)) : PE X (.UnaryOp .USub a pos) (tD T fun ρ m => (fa ρ m).bind fun x m1 => match x with
    | .p (.int i) => .ok (.p (.int (-i))) m1
    | _ => .bad) :=
  PE.weak (pe_un un_neg ha) fun σ H Q ⟨α, W, ρ, m, hr, hs, h⟩ => ⟨α, W, ρ, m, hr, hs, h.bind.mono fun x m1 α1 W1 H1 e1 hr1 h1 v rv => by
    split at h1
    · rename_i i
      have : v = .int i := by simpa only [RD, Rp] using rv
      exact ⟨_, this, h1.here hr1 _ (by simp only [RD, Rp])⟩
    · exact h1.elim⟩
theorem empty_rp {W : Addr → Prop} {H : Hp} : ∀ {l : List P} {xs : List V}, RpL T W H l xs → (!l.isEmpty) = !xs.isEmpty
  | [], xs, h => by simp only [RpL] at h; subst h; rfl
  | d :: ds, xs, h => by
    simp only [RpL] at h
    obtain ⟨v, r, rfl, _⟩ := h
    rfl
/-- a value's truth -/
theorem tru_of {α : Al} {W : Addr → Prop} {H : Hp} {m : Mem} (hX : CxOk T X) (hr : HR T α W H m) {d : D} {v : V} {t : Bool} (r : RD T α W H d v) (e : truth d m = some t) : TruV X.K v H t := by
  unfold truth at e
  obtain ⟨x, e1, e2⟩ := Option.bind_eq_some_iff.mp e
  have rc := rd_rc hr r e1
  unfold truthP at e2
  split at e2
  · cases e2; rw [rc.non]; rfl
  · cases e2; rw [rc.bl]; rfl
  · cases e2; rw [rc.int]; rfl
  · cases e2
    obtain ⟨a, xs, rfl, h1, h2⟩ := rc.lst
    exact .inl ⟨xs, SqL.of h1, empty_rp h2⟩
  · cases e2
    obtain ⟨a, xs, rfl, h1, h2⟩ := rc.tup
    exact .inr (.inl ⟨xs, h1.sq, empty_rp h2⟩)
  · cases e2
theorem g_truth (hX : CxOk T X) (ha : PE X a (tD T fa)) (he : ∀ whole, isTrue a X.env whole = (do let v ← whole; standAt a.pos; holding [v] (truthy v))) : PT X a (tT T (tO fa)) :=
  PT.weak (pt_truth ha he) fun σ H Q ⟨α, W, ρ, m, hr, hs, h⟩ => ⟨α, W, ρ, m, hr, hs, h.bind.mono fun x m1 α1 W1 H1 e1 hr1 h1 v rv => by
    unfold truthO at h1
    cases e : truth x m1 with
    | none => rw [e] at h1; exact h1.elim
    | some t => rw [e] at h1; exact ⟨t, tru_of hX hr1 rv e, h1.here hr1⟩⟩
theorem g_not (ha : PT X a (tT T (tO fa))) (hX : CxOk T X) (hv : PE X a (tD T fa)) : PE X (.UnaryOp .Not a pos) (tD T fun ρ m => (tO fa ρ m).bind fun b m1 => .ok (.p (.bl (!b))) m1) :=
  PE.weak (pe_notT hv) fun σ H Q ⟨α, W, ρ, m, hr, hs, h⟩ => by
    dsimp only [tO] at h
    rw [Out.bind_assoc] at h
    refine ⟨α, W, ρ, m, hr, hs, h.bind.mono fun x m1 α1 W1 H1 e1 hr1 h1 v rv => ?_⟩
    unfold truthO at h1
    cases e : truth x m1 with
    | none => rw [e] at h1; exact h1.elim
    | some t => rw [e] at h1; exact ⟨t, tru_of hX hr1 rv e, h1.here hr1 _ (by simp only [RD, Rp])⟩
theorem g_notT (ha : PT X a (tT T (tO fa))) : PT X (.UnaryOp .Not a pos) (tT T (tO fun ρ m => (tO fa ρ m).bind fun b m1 => .ok (.p (.bl (!b))) m1)) :=
  PT.weak (pt_not ha) fun σ H Q ⟨α, W, ρ, m, hr, hs, h⟩ => by
    dsimp only [tO] at h
    rw [Out.bind_assoc] at h
    exact ⟨α, W, ρ, m, hr, hs, h.bind.mono fun x m1 α1 W1 H1 e1 hr1 h1 => h1.here hr1⟩
theorem g_ife (hc : PT X c (tT T (tO fc))) (ha : PE X a (tD T fa)) (hb : PE X b (tD T fb)) : PE X (.IfExp c a b pos) (tD T fun ρ m => (tO fc ρ m).bind fun t m1 => if t then fa ρ m1 else fb ρ m1) :=
  PE.weak (pe_ifExp hc ha hb) fun σ H Q ⟨α, W, ρ, m, hr, hs, h⟩ => ⟨α, W, ρ, m, hr, hs, h.bind.mono fun t m1 α1 W1 H1 e1 hr1 h1 => by
    cases t with
    | true => exact ⟨α1, W1, ρ, m1, hr1, hs.ext e1, h1⟩
    | false => exact ⟨α1, W1, ρ, m1, hr1, hs.ext e1, h1⟩⟩
/-- and, or by values and as tests -/
theorem g_and {rest : List Expr} (hX : CxOk T X) (ha : PE X a (tD T fa)) (hb : PE X (.BoolOp .And (b :: rest) pos) (tD T fb)) :
    PE X (.BoolOp .And (a :: b :: rest) pos) (tD T fun ρ m => (fa ρ m).bind fun d m1 => (truthO d m1).bind fun t m2 => if t then fb ρ m2 else .ok d m2) :=
  PE.weak (pe_andT ha hb) fun σ H Q ⟨α, W, ρ, m, hr, hs, h⟩ => ⟨α, W, ρ, m, hr, hs, h.bind.mono fun x m1 α1 W1 H1 e1 hr1 h1 v rv => by
    unfold truthO at h1
    cases e : truth x m1 with
    | none => rw [e] at h1; exact h1.elim
    | some t =>
      rw [e] at h1
      refine ⟨t, tru_of hX hr1 rv e, ?_⟩
      cases t with
      | true => exact ⟨α1, W1, ρ, m1, hr1, hs.ext e1, h1⟩
      | false => exact h1.here hr1 v rv⟩
theorem g_or {rest : List Expr} (hX : CxOk T X) (ha : PE X a (tD T fa)) (hb : PE X (.BoolOp .Or (b :: rest) pos) (tD T fb)) :
    PE X (.BoolOp .Or (a :: b :: rest) pos) (tD T fun ρ m => (fa ρ m).bind fun d m1 => (truthO d m1).bind fun t m2 => if t then .ok d m2 else fb ρ m2) :=
  PE.weak (pe_orT ha hb) fun σ H Q ⟨α, W, ρ, m, hr, hs, h⟩ => ⟨α, W, ρ, m, hr, hs, h.bind.mono fun x m1 α1 W1 H1 e1 hr1 h1 v rv => by
    unfold truthO at h1
    cases e : truth x m1 with
    | none => rw [e] at h1; exact h1.elim
    | some t =>
      rw [e] at h1
      refine ⟨t, tru_of hX hr1 rv e, ?_⟩
      cases t with
      | true => exact h1.here hr1 v rv
      | false => exact ⟨α1, W1, ρ, m1, hr1, hs.ext e1, h1⟩⟩
abbrev PWt (X : Cx) (T : Tb) (e : Expr) (f : Ev) : Prop := PW X e (tT T (tO f))
theorem PW.weak {X : Cx} {e : Expr} {t t' : TT} (h : PW X e t) (w : ∀ σ H Q, t' σ H Q → t σ H Q) : PW X e t' := ⟨fun wh pins s σ H Q I hq => h.run wh pins s σ H Q I (w σ H Q hq)⟩
theorem g_andT {rest : List Expr} (ha : PT X a (tT T (tO fa))) (hb : PWt X T (.BoolOp .And (b :: rest) pos) fb) :
    PWt X T (.BoolOp .And (a :: b :: rest) pos) (fun ρ m => (fa ρ m).bind fun d m1 => (truthO d m1).bind fun t m2 => if t then fb ρ m2 else .ok d m2) :=
  PW.weak (pw_and ha hb) fun σ H Q ⟨α, W, ρ, m, hr, hs, h⟩ => by
    have e : (tO (fun ρ m => (fa ρ m).bind fun d m1 => (truthO d m1).bind fun t m2 => if t then fb ρ m2 else .ok d m2) ρ m) = (tO fa ρ m).bind fun t m2 => if t then tO fb ρ m2 else .ok false m2 := by
      unfold tO
      rw [Out.bind_assoc, Out.bind_assoc]
      cases fa ρ m with
      | ok d m1 =>
        simp only [Out.bind_ok]
        unfold truthO
        cases q : truth d m1 with
        | none => rfl
        | some t =>
          cases t
          · simp [q]
          · simp
      | exn _ _ _ => rfl
      | bad => rfl
    rw [e] at h
    refine ⟨α, W, ρ, m, hr, hs, h.bind.mono fun t m1 α1 W1 H1 e1 hr1 h1 => ?_⟩
    cases t with
    | true => exact ⟨α1, W1, ρ, m1, hr1, hs.ext e1, h1⟩
    | false => exact h1.here hr1
theorem g_orT {rest : List Expr} (ha : PT X a (tT T (tO fa))) (hb : PWt X T (.BoolOp .Or (b :: rest) pos) fb) :
    PWt X T (.BoolOp .Or (a :: b :: rest) pos) (fun ρ m => (fa ρ m).bind fun d m1 => (truthO d m1).bind fun t m2 => if t then .ok d m2 else fb ρ m2) :=
  PW.weak (pw_or ha hb) fun σ H Q ⟨α, W, ρ, m, hr, hs, h⟩ => by
    have e : (tO (fun ρ m => (fa ρ m).bind fun d m1 => (truthO d m1).bind fun t m2 => if t then .ok d m2 else fb ρ m2) ρ m) = (tO fa ρ m).bind fun t m2 => if t then .ok true m2 else tO fb ρ m2 := by
      unfold tO
      rw [Out.bind_assoc, Out.bind_assoc]
      cases fa ρ m with
      | ok d m1 =>
        simp only [Out.bind_ok]
        unfold truthO
        cases q : truth d m1 with
        | none => rfl
        | some t =>
          cases t
          · simp
          · simp [q]
      | exn _ _ _ => rfl
      | bad => rfl
    rw [e] at h
    refine ⟨α, W, ρ, m, hr, hs, h.bind.mono fun t m1 α1 W1 H1 e1 hr1 h1 => ?_⟩
    cases t with
    | true => exact h1.here hr1
    | false => exact ⟨α1, W1, ρ, m1, hr1, hs.ext e1, h1⟩
/-- a op b op' c -/
theorem g_chain {o o' : CmpOp} {op op' : COp} (ho : OpR X (compareOp o) (rC T op)) (ho' : OpR X (compareOp o') (rC T op')) (hm : lastMarks [o, o'] [b, c] = false) (ha : PE X a (tD T fa)) (hb : PE X b (tD T fb)) (hc : PE X c (tD T fc)) :
    PE X (.Compare a [o, o'] [b, c] pos) (tD T fun ρ m => (fa ρ m).bind fun x m1 => (fb ρ m1).bind fun y m2 => (Out.of (cmpD op x y m2) m2).bind fun r m3 => if r then (fc ρ m3).bind fun z m4 => cmpO op' y z m4 else .ok (.p (.bl false)) m3) :=
  PE.weak (pe_chain ho ho' ha hb hc hm) fun σ H Q ⟨α, W, ρ, m, hr, hs, h⟩ => ⟨α, W, ρ, m, hr, hs, h.bind.mono fun x m1 α1 W1 H1 e1 hr1 h1 v rv =>
    ⟨α1, W1, ρ, m1, hr1, hs.ext e1, h1.bind.mono fun y m2 α2 W2 H2 e2 hr2 h2 u ru => by
      cases e : cmpD op x y m2 with
      | none => rw [e] at h2; exact h2.elim
      | some r =>
        rw [e] at h2
        refine ⟨α2, W2, m2, x, y, hr2, rv.ext e2, ru, ?_⟩
        rw [e]
        exact fun α3 W3 H3 e3 hr3 v' rv' => ⟨r, by simpa only [RD, Rp] using rv', by
          have h3 := Hg.from e3 h2
          cases r with
          | true =>
            exact ⟨α3, W3, ρ, m2, hr3, ((hs.ext e1).ext e2).ext e3, Hg.mono (Hg.bind h3) fun z m4 α4 W4 H4 e4 hr4 h4 w rw' => ⟨α4, W4, m4, y, z, hr4, (ru.ext e3).ext e4, rw', h4⟩⟩
          | false => exact h3.here hr3 _ (by simp only [RD, Rp])⟩⟩⟩
/-- .. its truth -/
theorem g_chainT {o o' : CmpOp} {op op' : COp} (ho : OpR X (compareOp o) (rC T op)) (ho' : OpR X (compareOp o') (rC T op')) (hm : lastMarks [o, o'] [b, c] = false) (ha : PE X a (tD T fa)) (hb : PE X b (tD T fb)) (hc : PE X c (tD T fc)) :
    PT X (.Compare a [o, o'] [b, c] pos) (tT T (tO fun ρ m => (fa ρ m).bind fun x m1 => (fb ρ m1).bind fun y m2 => (Out.of (cmpD op x y m2) m2).bind fun r m3 => if r then (fc ρ m3).bind fun z m4 => cmpO op' y z m4 else .ok (.p (.bl false)) m3)) :=
  PT.weak (pt_chain ho ho' ha hb hc hm) fun σ H Q ⟨α, W, ρ, m, hr, hs, h⟩ => by
    have h : Hg T α W H ((fa ρ m).bind fun x m1 => (fb ρ m1).bind fun y m2 => (Out.of (cmpD op x y m2) m2).bind fun r m3 => if r then (fc ρ m3).bind fun z m4 => Out.of (cmpD op' y z m4) m4 else .ok false m3) (fun b _ _ _ H => Q b H) := by
      have e : (tO (fun ρ m => (fa ρ m).bind fun x m1 => (fb ρ m1).bind fun y m2 => (Out.of (cmpD op x y m2) m2).bind fun r m3 => if r then (fc ρ m3).bind fun z m4 => cmpO op' y z m4 else .ok (.p (.bl false)) m3) ρ m) = ((fa ρ m).bind fun x m1 => (fb ρ m1).bind fun y m2 => (Out.of (cmpD op x y m2) m2).bind fun r m3 => if r then (fc ρ m3).bind fun z m4 => Out.of (cmpD op' y z m4) m4 else .ok false m3) := by
        unfold tO
        rw [Out.bind_assoc]
        congr 1; funext x m1
        rw [Out.bind_assoc]
        congr 1; funext y m2
        rw [Out.bind_assoc]
        congr 1; funext r m3
        cases r with
        | false => rfl
        | true =>
          simp only [if_true]
          rw [Out.bind_assoc]
          congr 1; funext z m4
          unfold cmpO
          cases cmpD op' y z m4 <;> rfl
      rw [e] at h
      exact h
    exact ⟨α, W, ρ, m, hr, hs, h.bind.mono fun x m1 α1 W1 H1 e1 hr1 h1 v rv =>
    ⟨α1, W1, ρ, m1, hr1, hs.ext e1, h1.bind.mono fun y m2 α2 W2 H2 e2 hr2 h2 u ru => by
      cases e : cmpD op x y m2 with
      | none => rw [e] at h2; exact h2.elim
      | some r =>
        rw [e] at h2
        refine ⟨α2, W2, m2, x, y, hr2, rv.ext e2, ru, ?_⟩
        rw [e]
        exact fun α3 W3 H3 e3 hr3 v' rv' => ⟨r, by simpa only [RD, Rp] using rv', by
          have h3 := Hg.from e3 h2
          cases r with
          | true =>
            exact ⟨α3, W3, ρ, m2, hr3, ((hs.ext e1).ext e2).ext e3, Hg.mono (Hg.bind h3) fun z m4 α4 W4 H4 e4 hr4 h4 w rw' => ⟨α4, W4, m4, y, z, hr4, (ru.ext e3).ext e4, rw', by
              cases e' : cmpD op' y z m4 with
              | none => rw [e'] at h4; exact h4.elim
              | some t =>
                rw [e'] at h4
                exact fun α5 W5 H5 e5 hr5 v5 rv5 => ⟨t, by simpa only [RD, Rp] using rv5, h4 α5 W5 H5 e5 hr5⟩⟩⟩
          | false => exact ⟨false, rfl, h3.here hr3⟩⟩⟩⟩
end
/-! ### arguments -/
theorem g_nil : PA X [] (tL T fun _ m => .ok [] m) := PA.weak pa_nil fun σ H Q ⟨α, W, ρ, m, hr, hs, h⟩ => h.here hr [] rfl
theorem g_cons {e : Expr} {es : List Expr} {fe : Ev} {fs : Env → Mem → Out (List D)} (he : PE X e (tD T fe)) (hs' : PA X es (tL T fs)) (hst : starEach (e :: es) X.env = (false, eval e X.env) :: starEach es X.env) :
    PA X (e :: es) (tL T fun ρ m => (fe ρ m).bind fun d m1 => (fs ρ m1).bind fun ds m2 => .ok (d :: ds) m2) :=
  PA.weak (pa_cons he hs' hst) fun σ H Q ⟨α, W, ρ, m, hr, hs, h⟩ => ⟨α, W, ρ, m, hr, hs, h.bind.mono fun x m1 α1 W1 H1 e1 hr1 h1 v rv =>
    ⟨α1, W1, ρ, m1, hr1, hs.ext e1, h1.bind.mono fun ds m2 α2 W2 H2 e2 hr2 h2 vs rvs => h2.here hr2 (v :: vs) ⟨v, vs, rfl, rv.ext e2, rvs⟩⟩⟩
/-! ### places and slices -/
theorem g_ix {a b : Expr} {fa fb : Ev} {pos : Pos} (hX : CxOk T X) (hp : PlainIx b) (ha : PE X a (tD T fa)) (hb : PE X b (tD T fb)) :
    PE X (.Subscript a b pos) (tD T fun ρ m => (fa ρ m).bind fun x m1 => (fb ρ m1).bind fun y m2 => (Out.of (ixD x y m2) m2).bind fun r m3 => .ok (.p r) m3) :=
  PE.weak (pe_ix (ix_ok hX) ha hb hp) fun σ H Q ⟨α, W, ρ, m, hr, hs, h⟩ => ⟨α, W, ρ, m, hr, hs, h.bind.mono fun x m1 α1 W1 H1 e1 hr1 h1 v rv =>
    ⟨α1, W1, ρ, m1, hr1, hs.ext e1, h1.bind.mono fun y m2 α2 W2 H2 e2 hr2 h2 u ru => ⟨α2, W2, m2, x, y, hr2, rv.ext e2, ru, h2⟩⟩⟩
end Lot
/-! LotH: names, displays, slices, fields, calls. -/
namespace Lot
open PySem PySem.Spec PyProof.Rows L2
variable {T : Tb} {X : Cx}
/-! ### names and constants -/
theorem g_var {i : Nat} {x : Str} {pos : Pos} (hN : X.N[i]? = some x) (hv : Vis X.env.scope x) (hd : (x == ("__debug__" : Str)) = false) (hcd : (x == ("__classdict__" : Str)) = false) : PE X (.Name x pos) (tD T fun ρ m => Out.of ((ρ[i]?).bind id) m) :=
  PE.weak (pe_var hN hv hd hcd) fun σ H Q ⟨α, W, ρ, m, hr, hs, h⟩ => by
    dsimp only at h
    cases e : ρ[i]? with
    | none => rw [e] at h; exact h.elim
    | some o =>
      rw [e] at h
      cases o with
      | none => exact h.elim
      | some d =>
        obtain ⟨v, h1, h2⟩ := hs.2 i d e
        exact ⟨v, h1, h.here hr v h2⟩
theorem tC_d {v : V} {d : D} {e : Expr} (h : PE X e (tC v)) (hv : ∀ α W H, RD T α W H d v) : PE X e (tD T fun _ m => .ok d m) :=
  PE.weak h fun σ H Q ⟨α, W, ρ, m, hr, hs, h⟩ => h.here hr v (hv α W H)
/-! ### displays -/
theorem rdl_p {α : Al} {W : Addr → Prop} {H : Hp} : ∀ {ds : List D} {xs : List P} {m : Mem} {vs : List V}, ds = xs.map D.p → RDL T α W H ds vs → RpL T W H xs vs
  | _, [], _, vs, e, h => by subst e; exact (by simp only [RpL]; exact h)
  | _, x :: xs, m, vs, e, h => by
    subst e
    obtain ⟨v, r, h1, h2, h3⟩ := h
    simp only [RpL]
    exact ⟨v, r, h1, h2, rdl_p (m := m) rfl h3⟩
/-- arguments that are data -/
def tP (T : Tb) (f : Env → Mem → Out (List P)) : TA := fun σ H Q => ∃ α W ρ m, HR T α W H m ∧ RS T α W H ρ σ ∧ Hg T α W H (f ρ m) fun xs _ α' W' H' => ∀ vs, RpL T W' H' xs vs → Q vs H'
theorem g_nilP : PA X [] (tP T fun _ m => .ok [] m) := PA.weak pa_nil fun σ H Q ⟨α, W, ρ, m, hr, hs, h⟩ => h.here hr [] (by simp only [RpL])
theorem g_consP {e : Expr} {es : List Expr} {fe : Ev} {fs : Env → Mem → Out (List P)} (he : PE X e (tD T fe)) (hs' : PA X es (tP T fs)) (hst : starEach (e :: es) X.env = (false, eval e X.env) :: starEach es X.env) :
    PA X (e :: es) (tP T fun ρ m => (fe ρ m).bind fun d m1 => (asP d m1).bind fun x m1 => (fs ρ m1).bind fun ds m2 => .ok (x :: ds) m2) :=
  PA.weak (pa_cons he hs' hst) fun σ H Q ⟨α, W, ρ, m, hr, hs, h⟩ => ⟨α, W, ρ, m, hr, hs, h.bind.mono fun d m1 α1 W1 H1 e1 hr1 h1 v rv => by
    cases d with
    | p x =>
      have h1 : Hg T α1 W1 H1 ((fs ρ m1).bind fun ds m2 => .ok (x :: ds) m2) _ := h1
      exact ⟨α1, W1, ρ, m1, hr1, hs.ext e1, h1.bind.mono fun ds m2 α2 W2 H2 e2 hr2 h2 vs rvs => h2.here hr2 (v :: vs) (by
        simp only [RpL]
        exact ⟨v, vs, rfl, Rp.ext e2 x v rv, rvs⟩)⟩
    | _ => exact h1.elim⟩
theorem g_tup {es : List Expr} {fs : Env → Mem → Out (List P)} {k : Nat} {pos : Pos} (h : PA X es (tP T fs)) : PE X (.Tuple es k pos) (tD T fun ρ m => (fs ρ m).bind fun xs m1 => if xs.length ≤ line then .ok (.p (.tup xs)) m1 else .bad) :=
  PE.weak (pe_tup h) fun σ H Q ⟨α, W, ρ, m, hr, hs, h⟩ => ⟨α, W, ρ, m, hr, hs, h.bind.mono fun xs m1 α1 W1 H1 e1 hr1 h1 vs rvs => by
    split at h1
    · rename_i hl
      exact ⟨by rw [rvs.len, ← line_eq]; exact hl, fun p hp => h1.newT hr1 rvs hp⟩
    · exact h1.elim⟩
theorem g_lst {es : List Expr} {fs : Env → Mem → Out (List P)} {pos : Pos} (h : PA X es (tP T fs)) : PE X (.List es pos) (tX T fun ρ m => (fs ρ m).bind fun xs m1 => if xs.length ≤ line then .ok (.p (.lst xs)) m1 else .bad) :=
  PE.weak (pe_lst h) fun σ H Q ⟨α, W, ρ, m, hr, hs, h⟩ => ⟨α, W, ρ, m, hr, hs, h.bind.mono fun xs m1 α1 W1 H1 e1 hr1 h1 vs rvs => by
    split at h1
    · rename_i hl
      exact ⟨by rw [rvs.len, ← line_eq]; exact hl, fun p hp => h1.F.new hr1 rvs hp⟩
    · exact (h1.elim id id).elim⟩
/-- a new object at a new place -/
theorem Hg.newO {α : Al} {W : Addr → Prop} {H : Hp} {m : Mem} {x : P} {Q : VK} {p : Addr} {o : HO} (h : Hg T α W H (.ok (.ref m.length 0) (m ++ [.val x])) (fin T Q)) (hr : HR T α W H m) (hp : H p = none) (ha : At T (wUp W p) (upd H p o) x p) : Q (.ref p) (upd H p o) :=
  h (aUp α m.length 0 p) (wUp W p) (upd H p o) ((Ext.hid hp).up (hr.out _ _ (Nat.le_refl _))) ((hr.hid hp).put (.inr rfl) ha (hr.noAl hp) (hr.noGh hp)) (.ref p) ⟨p, aUp_same, rfl⟩
theorem g_ndictK {pos : Pos} : PE X (.Dict [] [] pos) (tD T fun _ m => .ok (.ref m.length 0) (m ++ [.val (.dic false [])])) :=
  PE.weak pe_dnewK fun σ H Q ⟨α, W, ρ, m, hr, hs, h⟩ p hp => h.newO hr hp ⟨[], upd_same, List.nodup_nil, by simp only [RpD]⟩
theorem g_ndictT {pos : Pos} : PE X (.Dict [] [] pos) (tD T fun _ m => .ok (.ref m.length 0) (m ++ [.val (.dic true [])])) :=
  PE.weak pe_dnewT fun σ H Q ⟨α, W, ρ, m, hr, hs, h⟩ p hp => h.newO hr hp ⟨[], upd_same, List.nodup_nil, by simp only [RpT]⟩
/-! ### slices -/
/-- a bound -/
def tB1 (T : Tb) (f : Env → Mem → Out (Option Int)) : TO := fun σ H Q => ∃ α W ρ m, HR T α W H m ∧ RS T α W H ρ σ ∧ Hg T α W H (f ρ m) fun o _ _ _ H' => Q o H'
theorem PO.weak {e : Option Expr} {t t' : TO} (h : PO X e t) (w : ∀ σ H Q, t' σ H Q → t σ H Q) : PO X e t' := ⟨fun pins s σ H Q I hq => h.run pins s σ H Q I (w σ H Q hq)⟩
theorem g_bnd0 {f : Ev} : PO X none (tB1 T fun ρ m => bnd .nob (.ok (.p .non) m)) := PO.weak po_none fun σ H Q ⟨α, W, ρ, m, hr, hs, h⟩ => h.here hr
theorem g_bnd {e : Expr} {c : CE} {f : Ev} (hc : c ≠ .nob) (he : PE X e (tD T f)) : PO X (some e) (tB1 T fun ρ m => bnd c (f ρ m)) := PO.weak (po_some he) fun σ H Q ⟨α, W, ρ, m, hr, hs, h⟩ => by
  unfold bnd at h
  refine ⟨α, W, ρ, m, hr, hs, h.bind.mono fun d m1 α1 W1 H1 e1 hr1 h1 v rv => ?_⟩
  split at h1
  · exact absurd rfl hc
  · rename_i i _
    exact ⟨i, by simpa only [RD, Rp] using rv, h1.here hr1⟩
  · exact h1.elim
theorem g_slice {e : Expr} {lo hi : Option Expr} {fe : Ev} {fl fh : Env → Mem → Out (Option Int)} {pos p2 : Pos} (hX : CxOk T X) (he : PE X e (tD T fe)) (hl : PO X lo (tB1 T fl)) (hh : PO X hi (tB1 T fh)) :
    PE X (.Subscript e (.Slice lo hi none p2) pos) (tX T fun ρ m => (fe ρ m).bind fun x m1 => (fl ρ m1).bind fun y m2 => (fh ρ m2).bind fun z m3 => (Out.of (sliceD x y z m3) m3).bind fun r m4 => .ok (.p r) m4) :=
  PE.weak (pe_slice (sl_ok hX) he hl hh) fun σ H Q ⟨α, W, ρ, m, hr, hs, h⟩ => ⟨α, W, ρ, m, hr, hs, h.bind.mono fun x m1 α1 W1 H1 e1 hr1 h1 v rv =>
    ⟨α1, W1, ρ, m1, hr1, hs.ext e1, h1.bind.mono fun y m2 α2 W2 H2 e2 hr2 h2 => ⟨α2, W2, ρ, m2, hr2, (hs.ext e1).ext e2, h2.bind.mono fun z m3 α3 W3 H3 e3 hr3 h3 =>
      ⟨α3, W3, m3, x, hr3, (rv.ext e2).ext e3, h3⟩⟩⟩⟩
/-! ### calls -/
/-- a def's promise: what the small language's call tells -/
def spF (T : Tb) (cf : List D → Mem → Out D) : Sp := fun vs H Q _ => ∃ gh α W m ds, HR (T.g gh) α W H m ∧ RDL (T.g gh) α W H ds vs ∧ Hg (T.g gh) α W H (cf ds m) (fin (T.g gh) Q)
/-- a def stands, so many levels deep -/
def FnAt (T : Tb) (X : Cx) (k : Nat) (a : Addr) (cf : List D → Mem → Out D) : Prop := ∃ fd ps, FnG X.prog X.w X.K X.mg X.base k a fd ps (spF T cf) ∧ PySem.W.keepIn X.K (.ref a) = true ∧ Binds X.K fd ps []
/-- .. wherever it is called from -/
def FnAtK (T : Tb) (X : Cx) (k : Nat) (a : Addr) (cf : List D → Mem → Out D) : Prop := ∃ fd ps, FnOk X.prog X.w X.K X.mg X.base CX0 k a fd ps (spF T cf) ∧ PySem.W.keepIn X.K (.ref a) = true ∧ Binds X.K fd ps []
theorem app_nil {vs : List V} : vs ++ ([] : List V) = vs := List.append_nil vs
theorem g_call {k : Nat} {cf : List D → Mem → Out D} {a : Addr} {x : Str} {p pos : Pos} {e : Expr} {es : List Expr} {fs : Env → Mem → Out (List D)} (F : FnAt T X k a cf) (hA : Calm X.A) (hr : Room k X.A) (hg : Gl X x) (hm : X.mg x = some (.ref a)) (ha : PA X (e :: es) (tL T fs))
    (hdb : (x == ("__debug__" : Str)) = false) (he : starEach (e :: es) X.env = (false, eval e X.env) :: starEach es X.env) (hpl : (backTo pos (starEach es X.env)).any (·.1) = false) :
    PE X (.Call (.Name x p) (e :: es) [] pos) (tD T fun ρ m => (fs ρ m).bind fun ds m1 => cf ds m1) := by
  obtain ⟨fd, ps, F, hk, hb⟩ := F
  refine PE.weak (pg_call F hA hr hg hm hk hb pass0 ha hdb he hpl) fun σ H Q ⟨α, W, ρ, m, hr, hs, h⟩ => ⟨α, W, ρ, m, hr, hs, h.bind.mono fun ds m1 α1 W1 H1 e1 hr1 h1 vs rvs => ?_⟩
  show spF T cf vs H1 Q E0
  exact ⟨T.gh, α1, W1, m1, ds, hr1, rvs, h1⟩
theorem g_call0 {k : Nat} {cf : List D → Mem → Out D} {a : Addr} {x : Str} {p pos : Pos} (F : FnAt T X k a cf) (hA : Calm X.A) (hr : Room k X.A) (hg : Gl X x) (hm : X.mg x = some (.ref a)) (hdb : (x == ("__debug__" : Str)) = false) :
    PE X (.Call (.Name x p) [] [] pos) (tD T fun _ m => cf [] m) := by
  obtain ⟨fd, ps, F, hk, hb⟩ := F
  exact PE.weak (pg_call0 F hA hr hg hm hk hb pass0 hdb) fun σ H Q ⟨α, W, ρ, m, hr, hs, h⟩ => ⟨T.gh, α, W, m, [], hr, rfl, h⟩
/-- a name that holds one of the defs -/
theorem g_callv {k i : Nat} {cf : Nat → List D → Mem → Out D} {x : Str} {p pos : Pos} {e : Expr} {es : List Expr} {fs : Env → Mem → Out (List D)} {n : Nat} (F : ∀ f, f < n → FnAt T X k (T.fa f) (cf f)) (inj : ∀ f f', f < n → f' < n → T.fa f = T.fa f' → f = f')
    (hA : Calm X.A) (hr : Room k X.A) (hN : X.N[i]? = some x) (hv : Vis X.env.scope x) (ha : PA X (e :: es) (tL T fs)) (hdb : (x == ("__debug__" : Str)) = false) (hcd : (x == ("__classdict__" : Str)) = false)
    (he : starEach (e :: es) X.env = (false, eval e X.env) :: starEach es X.env) (hpl : (backTo pos (starEach es X.env)).any (·.1) = false) :
    PE X (.Call (.Name x p) (e :: es) [] pos) (tD T fun ρ m => match (ρ[i]?).bind id with
      | some (.fn f) => if f < n then (fs ρ m).bind fun ds m1 => cf f ds m1 else .bad
      | _ => .bad) := by
  refine ⟨fun pins s σ H Q I ⟨α, W, ρ, m, hr', hs, h⟩ => ?_⟩
  dsimp only at h
  cases q : (ρ[i]?).bind id with
  | none => rw [q] at h; exact h.elim
  | some d =>
    rw [q] at h
    cases d with
    | fn f =>
      dsimp only at h
      by_cases hf : f < n
      · rw [if_pos hf] at h
        obtain ⟨fd, ps, F, hk, hb⟩ := F f hf
        obtain ⟨o, e1, e2⟩ := Option.bind_eq_some_iff.mp q
        have e3 : o = some (.fn f) := e2
        subst e3
        obtain ⟨v, h1, h2⟩ := hs.2 i _ e1
        have h2 : v = .ref (T.fa f) := h2
        subst h2
        refine (pg_callL (i := i) F hA hr hN hv hk hb pass0 ha hdb hcd he hpl).run pins s σ H Q I ⟨h1, α, W, ρ, m, hr', hs, h.bind.mono fun ds m1 α1 W1 H1 e1 hr1 h1 vs rvs => ?_⟩
        show spF T (cf f) vs H1 Q E0
        exact ⟨T.gh, α1, W1, m1, ds, hr1, rvs, h1⟩
      · rw [if_neg hf] at h; exact h.elim
    | _ => exact h.elim
/-! ### instances -/
/-- a class as the top made it -/
structure ClAt (T : Tb) (X : Cx) (c : Nat) : Prop where
  cl : Cls X.K (T.ca c)
  no : ∀ k f, T.fn c k = some f → NoAttr X.K (T.ca c) f
theorem flds_get {c : Nat} : ∀ {k j : Nat} {xs : List V} {fs : List (Str × V)} {f : Str} {v : V}, Flds T c k xs fs → (∀ i i' g, k ≤ i → k ≤ i' → T.fn c i = some g → T.fn c i' = some g → i = i') → T.fn c (k + j) = some f → xs[j]? = some v → fs.lookup f = some v
  | _, _, [], _, _, _, _, _, _, h => by simp at h
  | k, 0, x :: xs, fs, f, v, h, _, hf, hv => by
    obtain ⟨g, r, e1, rfl, _⟩ := h
    rw [Nat.add_zero] at hf
    rw [hf] at e1
    cases e1
    simp at hv
    subst hv
    simp [List.lookup]
  | k, j + 1, x :: xs, fs, f, v, h, hi, hf, hv => by
    obtain ⟨g, r, e1, rfl, h2⟩ := h
    have ne : (f == g) = false := by
      rw [beq_eq_false_iff_ne]
      rintro rfl
      have := hi _ _ _ (Nat.le_add_right k (j + 1)) (Nat.le_refl k) hf e1
      omega
    rw [List.lookup_cons, ne]
    refine flds_get (k := k + 1) (j := j) h2 (fun i i' g h1 h2 => hi i i' g (by omega) (by omega)) (by rw [← hf]; congr 1; omega) (by simpa using hv)
theorem flds_no {c : Nat} {f : Str} : ∀ {k : Nat} {xs : List V} {fs : List (Str × V)}, Flds T c k xs fs → (∀ i, T.fn c i ≠ some f) → fs.lookup f = none
  | _, [], fs, h, _ => by have h : fs = [] := h; subst h; rfl
  | k, x :: xs, fs, h, hn => by
    obtain ⟨g, r, e1, rfl, h2⟩ := h
    have ne : (f == g) = false := by
      rw [beq_eq_false_iff_ne]
      rintro rfl
      exact hn _ e1
    rw [List.lookup_cons, ne]
    exact flds_no h2 hn
theorem fldsV_get {W : Addr → Prop} {H : Hp} {g : Nat → Option Addr} : ∀ {k j : Nat} {fs : List (Bool × P)} {xs : List V} {f : Bool × P}, FldsV T W H g k fs xs → fs[j]? = some f → ∃ v, xs[j]? = some v ∧ FldV T W H (g (k + j + 1)) f v
  | _, _, [], _, _, _, h => by simp at h
  | k, 0, f :: fs, xs, f', h, e => by
    obtain ⟨v, r, rfl, h1, _⟩ := h
    simp at e
    subst e
    exact ⟨v, rfl, h1⟩
  | k, j + 1, f :: fs, xs, f', h, e => by
    obtain ⟨v, r, rfl, _, h2⟩ := h
    obtain ⟨u, h3, h4⟩ := fldsV_get (k := k + 1) (j := j) h2 (by simpa using e)
    refine ⟨u, by simpa using h3, ?_⟩
    have : k + 1 + j + 1 = k + (j + 1) + 1 := by omega
    rw [← this]
    exact h4
theorem fldsV_len {W : Addr → Prop} {H : Hp} {g : Nat → Option Addr} : ∀ {k : Nat} {fs : List (Bool × P)} {xs : List V}, FldsV T W H g k fs xs → xs.length = fs.length
  | _, [], _, h => by have h : _ = [] := h; subst h; rfl
  | k, f :: fs, xs, h => by
    obtain ⟨v, r, rfl, _, h2⟩ := h
    show r.length + 1 = fs.length + 1
    rw [fldsV_len h2]
/-- where an instance lies, by its value -/
theorem ins_at {α : Al} {W : Addr → Prop} {H : Hp} {m : Mem} {c k : Nat} {d : D} {v : V} {Q : VK} (hr : HR T α W H m) (r : RD T α W H d v) (h : Hg T α W H (fldD c k d m) (fin T Q)) {f : Str} (hf : T.fn c k = some f) (hi : ∀ i i' g, T.fn c i = some g → T.fn c i' = some g → i = i') :
    ∃ a dx fs u, v = .ref a ∧ H a = some (.ins (T.ca c) dx fs) ∧ fs.lookup f = some u ∧ Q u H := by
  unfold fldD at h
  split at h
  · rename_i n
    split at h
    · rename_i c' fs e
      split at h
      · rename_i ec
        subst ec
        obtain ⟨a, h1, h2, dx, xs, r', h3, h4, h5⟩ := hr.ins n _ fs e
        obtain ⟨a', h6, rfl⟩ := r
        rw [h1] at h6; cases h6
        split at h
        · rename_i x ef
          obtain ⟨u, h7, b, h8, rfl⟩ := fldsV_get h5 ef
          rw [Nat.zero_add] at h8
          exact ⟨a, dx, r', _, rfl, h3, flds_get h4 (fun i i' g _ _ => hi i i' g) (by rw [Nat.zero_add]; exact hf) h7, h.here hr _ ⟨b, h8, rfl⟩⟩
        · rename_i x ef
          obtain ⟨u, h7, h8⟩ := fldsV_get h5 ef
          exact ⟨a, dx, r', _, rfl, h3, flds_get h4 (fun i i' g _ _ => hi i i' g) (by rw [Nat.zero_add]; exact hf) h7, h.here hr _ h8⟩
        · exact h.elim
      · exact h.elim
    · exact h.elim
  · rename_i c' fs
    split at h
    · rename_i ec
      subst ec
      split at h
      · rename_i x ef
        have r : Rp T W H (.ins _ fs) v := r
        simp only [Rp] at r
        obtain ⟨a, dx, xs, r', rfl, h1, h2, h3, h4⟩ := r
        obtain ⟨u, h7, h8⟩ := RpL.get h4 ef
        exact ⟨a, dx, r', u, rfl, h2, flds_get h3 (fun i i' g _ _ => hi i i' g) (by rw [Nat.zero_add]; exact hf) h7, h.here hr _ h8⟩
      · exact h.elim
    · exact h.elim
  · exact h.elim
theorem g_fld {e : Expr} {fe : Ev} {c k : Nat} {f : Str} {pos : Pos} (C : ClAt T X c) (hf : T.fn c k = some f) (hi : ∀ i i' g, T.fn c i = some g → T.fn c i' = some g → i = i') (he : PE X e (tD T fe)) (hb : attributeBase e f X.env (eval e X.env) = eval e X.env) :
    PE X (.Attribute e f pos) (tD T fun ρ m => (fe ρ m).bind fun d m1 => fldD c k d m1) :=
  PE.weak (pe_fld he hb) fun σ H Q ⟨α, W, ρ, m, hr, hs, h⟩ => ⟨α, W, ρ, m, hr, hs, h.bind.mono fun d m1 α1 W1 H1 e1 hr1 h1 v rv => by
    obtain ⟨a, dx, fs, u, rfl, h2, h3, h4⟩ := ins_at hr1 rv h1 hf hi
    exact ⟨a, _, dx, fs, u, rfl, h2, C.cl, C.no k f hf, h3, h4⟩⟩
theorem isOf_at {α : Al} {W : Addr → Prop} {H : Hp} {m : Mem} {c : Nat} {d : D} {v : V} (hr : HR T α W H m) (r : RD T α W H d v) (h : isOf c d m = true) : ∃ a dx xs fs, v = .ref a ∧ H a = some (.ins (T.ca c) dx fs) ∧ Flds T c 0 xs fs := by
  unfold isOf at h
  split at h
  · rename_i n
    split at h
    · rename_i c' fs e
      have ec : c' = c := by simpa using h
      subst ec
      obtain ⟨a, h1, h2, dx, xs, r', h3, h4, h5⟩ := hr.ins n _ fs e
      obtain ⟨a', h6, rfl⟩ := r
      rw [h1] at h6; cases h6
      exact ⟨a, dx, xs, r', rfl, h3, h4⟩
    · cases h
  · rename_i c' fs
    have ec : c' = c := by simpa using h
    subst ec
    have r : Rp T W H (.ins _ fs) v := r
    simp only [Rp] at r
    obtain ⟨a, dx, xs, r', rfl, h1, h2, h3, h4⟩ := r
    exact ⟨a, dx, xs, r', rfl, h2, h3⟩
  · cases h
/-- o.m(e, ..) -/
theorem g_meth {k c : Nat} {cf : List D → Mem → Out D} {f : Addr} {mn : Str} {pl : Sem Bool} {o e : Expr} {es : List Expr} {fo : Ev} {fs : Env → Mem → Out (List D)} {apos pos : Pos} (C : ClAt T X c) (M : Meth X.K (T.ca c) mn f) (hno : ∀ i, T.fn c i ≠ some mn) (F : FnAtK T X k f cf) (hr : Room k X.A)
    (ho : PE X o (tD T fo)) (ha : PA X (e :: es) (tL T fs)) (hst : starEach (e :: es) X.env = (false, eval e X.env) :: starEach es X.env) (hpl : (backTo pos (starEach es X.env)).any (·.1) = false)
    (ht : eval (.Call (.Attribute o mn apos) (e :: es) [] pos) X.env = (do
      let ov ← eval o X.env
      standAt apos.atName
      let (f, first) ← holding [ov] (getMethod ov mn pl)
      callWith pos f first (backTo pos (starEach (e :: es) X.env)) (backToKw pos (keywordEach [] X.env)))) :
    PE X (.Call (.Attribute o mn apos) (e :: es) [] pos) (tD T fun ρ m => (fo ρ m).bind fun d m1 => if isOf c d m1 then (fs ρ m1).bind fun ds m2 => cf (d :: ds) m2 else .bad) := by
  obtain ⟨fd, ps, F, hk, hb⟩ := F
  refine PE.weak (pe_meth ho C.cl M F hr hb .nil pass0 ha hst hpl ht) fun σ H Q ⟨α, W, ρ, m, hr, hs, h⟩ => ⟨α, W, ρ, m, hr, hs, h.bind.mono fun d m1 α1 W1 H1 e1 hr1 h1 v rv => ?_⟩
  split at h1
  · rename_i hi
    obtain ⟨a, dx, xs, fs', rfl, h2, h3⟩ := isOf_at hr1 rv hi
    refine ⟨a, dx, fs', rfl, h2, flds_no h3 hno, α1, W1, ρ, m1, hr1, hs.ext e1, h1.bind.mono fun ds m2 α2 W2 H2 e2 hr2 h2 vs rvs => ?_⟩
    show spF T cf (.ref a :: (vs ++ [])) H2 Q E0
    rw [app_nil]
    exact ⟨T.gh, α2, W2, m2, d :: ds, hr2, ⟨_, _, rfl, rv.ext e2, rvs⟩, h2⟩
  · exact h1.elim
theorem g_meth0 {k c : Nat} {cf : List D → Mem → Out D} {f : Addr} {mn : Str} {pl : Sem Bool} {o : Expr} {fo : Ev} {apos pos : Pos} (C : ClAt T X c) (M : Meth X.K (T.ca c) mn f) (hno : ∀ i, T.fn c i ≠ some mn) (F : FnAtK T X k f cf) (hr : Room k X.A)
    (ho : PE X o (tD T fo))
    (ht : eval (.Call (.Attribute o mn apos) [] [] pos) X.env = (do
      let ov ← eval o X.env
      standAt apos.atName
      let (f, first) ← holding [ov] (getMethod ov mn pl)
      callWith pos f first (backTo pos (starEach [] X.env)) (backToKw pos (keywordEach [] X.env)))) :
    PE X (.Call (.Attribute o mn apos) [] [] pos) (tD T fun ρ m => (fo ρ m).bind fun d m1 => if isOf c d m1 then cf [d] m1 else .bad) := by
  obtain ⟨fd, ps, F, hk, hb⟩ := F
  refine PE.weak (pe_meth0 ho C.cl M F hr hb .nil pass0 ht) fun σ H Q ⟨α, W, ρ, m, hr, hs, h⟩ => ⟨α, W, ρ, m, hr, hs, h.bind.mono fun d m1 α1 W1 H1 e1 hr1 h1 v rv => ?_⟩
  split at h1
  · rename_i hi
    obtain ⟨a, dx, xs, fs', rfl, h2, h3⟩ := isOf_at hr1 rv hi
    exact ⟨a, dx, fs', rfl, h2, flds_no h3 hno, T.gh, α1, W1, m1, [d], hr1, ⟨_, _, rfl, rv, rfl⟩, h1⟩
  · exact h1.elim
end Lot
/-! LotI: walks, targets, comprehensions. -/
namespace Lot
open PySem PySem.Spec PyProof.Rows L2
variable {T : Tb} {X : Cx}
mutual
theorem same_eq : ∀ {x y : P}, sameP x y = true → x = y
  | .non, .non, _ => rfl
  | .bl a, .bl b, h => by simp only [sameP, beq_iff_eq] at h; rw [h]
  | .int a, .int b, h => by simp only [sameP, beq_iff_eq] at h; rw [h]
  | .str a, .str b, h => by simp only [sameP, beq_iff_eq] at h; rw [h]
  | .tup a, .tup b, h => by simp only [sameP] at h; rw [sames_eq h]
  | .lst a, .lst b, h => by simp only [sameP] at h; rw [sames_eq h]
  | .dic t a, .dic u b, h => by simp only [sameP, Bool.and_eq_true, beq_iff_eq] at h; rw [h.1, sames_eq h.2]
  | .set a, .set b, h => by simp only [sameP] at h; rw [sames_eq h]
  | .ins c a, .ins d b, h => by simp only [sameP, Bool.and_eq_true, beq_iff_eq] at h; rw [h.1, sames_eq h.2]
  | .exc c a, .exc d b, h => by simp only [sameP, Bool.and_eq_true, beq_iff_eq] at h; rw [h.1, sames_eq h.2]
  | .non, .bl _, h | .non, .int _, h | .non, .str _, h | .non, .tup _, h | .non, .lst _, h | .non, .dic _ _, h | .non, .set _, h | .non, .ins _ _, h => by simp [sameP] at h
  | .bl _, .non, h | .bl _, .int _, h | .bl _, .str _, h | .bl _, .tup _, h | .bl _, .lst _, h | .bl _, .dic _ _, h | .bl _, .set _, h | .bl _, .ins _ _, h => by simp [sameP] at h
  | .int _, .non, h | .int _, .bl _, h | .int _, .str _, h | .int _, .tup _, h | .int _, .lst _, h | .int _, .dic _ _, h | .int _, .set _, h | .int _, .ins _ _, h => by simp [sameP] at h
  | .str _, .non, h | .str _, .bl _, h | .str _, .int _, h | .str _, .tup _, h | .str _, .lst _, h | .str _, .dic _ _, h | .str _, .set _, h | .str _, .ins _ _, h => by simp [sameP] at h
  | .tup _, .non, h | .tup _, .bl _, h | .tup _, .int _, h | .tup _, .str _, h | .tup _, .lst _, h | .tup _, .dic _ _, h | .tup _, .set _, h | .tup _, .ins _ _, h => by simp [sameP] at h
  | .lst _, .non, h | .lst _, .bl _, h | .lst _, .int _, h | .lst _, .str _, h | .lst _, .tup _, h | .lst _, .dic _ _, h | .lst _, .set _, h | .lst _, .ins _ _, h => by simp [sameP] at h
  | .dic _ _, .non, h | .dic _ _, .bl _, h | .dic _ _, .int _, h | .dic _ _, .str _, h | .dic _ _, .tup _, h | .dic _ _, .lst _, h | .dic _ _, .set _, h | .dic _ _, .ins _ _, h => by simp [sameP] at h
  | .set _, .non, h | .set _, .bl _, h | .set _, .int _, h | .set _, .str _, h | .set _, .tup _, h | .set _, .lst _, h | .set _, .dic _ _, h | .set _, .ins _ _, h => by simp [sameP] at h
  | .ins _ _, .non, h | .ins _ _, .bl _, h | .ins _ _, .int _, h | .ins _ _, .str _, h | .ins _ _, .tup _, h | .ins _ _, .lst _, h | .ins _ _, .dic _ _, h | .ins _ _, .set _, h => by simp [sameP] at h
  | .non, .exc _ _, h | .bl _, .exc _ _, h | .int _, .exc _ _, h | .str _, .exc _ _, h | .tup _, .exc _ _, h | .lst _, .exc _ _, h | .dic _ _, .exc _ _, h | .set _, .exc _ _, h | .ins _ _, .exc _ _, h => by simp [sameP] at h
  | .exc _ _, .non, h | .exc _ _, .bl _, h | .exc _ _, .int _, h | .exc _ _, .str _, h | .exc _ _, .tup _, h | .exc _ _, .lst _, h | .exc _ _, .dic _ _, h | .exc _ _, .set _, h | .exc _ _, .ins _ _, h => by simp [sameP] at h
theorem sames_eq : ∀ {x y : List P}, samePs x y = true → x = y
  | [], [], _ => rfl
  | [], _ :: _, h => by simp [samePs] at h
  | _ :: _, [], h => by simp [samePs] at h
  | x :: xs, y :: ys, h => by simp only [samePs, Bool.and_eq_true] at h; rw [same_eq h.1, sames_eq h.2]
end
/-! ### walks -/
/-- the heap has grown by a new object, or not -/
def Grow (H H' : Hp) : Prop := H' = H ∨ ∃ p o, H p = none ∧ H' = upd H p o
theorem Grow.ext {α : Al} {W : Addr → Prop} {H H' : Hp} (h : Grow H H') : Ext α W H α W H' := by
  rcases h with rfl | ⟨p, o, hp, rfl⟩
  · exact .refl
  · exact .new hp
theorem Grow.hr {α : Al} {W : Addr → Prop} {H H' : Hp} {m : Mem} (h : Grow H H') (hr : HR T α W H m) : HR T α W H' m := by
  rcases h with rfl | ⟨p, o, hp, rfl⟩
  · exact hr
  · exact hr.new hp
theorem Grow.keep {H H' : Hp} {a : Addr} {o : HO} (h : Grow H H') (e : H a = some o) : H' a = some o := by
  rcases h with rfl | ⟨p, u, hp, rfl⟩
  · exact e
  · rw [upd_ne (ne_of_none e hp)]; exact e
/-- the items that an iterator gives while the guard holds -/
def Wk (T : Tb) (α : Al) (W : Addr → Prop) (H : Hp) (J : It) (xs : List P) (g : Mem → Bool) : Prop :=
  ∀ α' W' H' m, Ext α W H α' W' H' → HR T α' W' H' m → g m = true →
    J.stop xs.length H' ∧ ∀ i y, xs[i]? = some y → J.go i H' ∧ ∀ x H'', J.yld i H' x H'' → Grow H' H'' ∧ Rp T W' H'' y x
def tI (T : Tb) (f : Env → Mem → Out (List P × (Mem → Bool))) : TI := fun σ H R => ∃ α W ρ m, HR T α W H m ∧ RS T α W H ρ σ ∧ Hg T α W H (f ρ m) fun w _ α' W' H' => ∀ J, Wk T α' W' H' J w.1 w.2 → R J H'
theorem PI.weak {tg e : Expr} {t t' : TI} (h : PI X tg e t) (w : ∀ σ H Q, t' σ H Q → t σ H Q) : PI X tg e t' := ⟨fun pins s σ H Q I hq => h.run pins s σ H Q I (w σ H Q hq)⟩
/-- what a value is read as stays so while the guard holds -/
theorem stays_rg {α α' : Al} {W W' : Addr → Prop} {H H' : Hp} {m m' : Mem} {d : D} {v : V} {x : P} (hr : HR T α W H m) (r : RD T α W H d v) (e : rg d m = some x) (ex : Ext α W H α' W' H') (hr' : HR T α' W' H' m') (g : stays (d, x) m' = true) : Rg T W' H' x v := by
  cases d with
  | p y =>
    cases e
    exact .inl (.inl (Rp.ext ex _ _ r))
  | gt l =>
    cases e
    obtain ⟨a, xs, rfl, h2, h3⟩ := r
    exact .inr ⟨l, a, xs, rfl, rfl, h2, RpL.ext ex _ _ h3⟩
  | ref n k =>
    have g' : (match rd (.ref n k) m' with | some y => sameP y x | none => false) = true := g
    cases q : rd (.ref n k) m' with
    | none => rw [q] at g'; cases g'
    | some y =>
      rw [q] at g'
      have := same_eq g'
      subst this
      exact .inl (rd_rc hr' (r.ext ex) q)
  | fn i => cases e
  | scr l => cases e
theorem wk_of {α : Al} {W : Addr → Prop} {H : Hp} {J : It} {n : Nat} {G : Hp → Prop} {Y : Nat → Hp → V → Hp → Prop} {xs : List P} {g : Mem → Bool} (hn : n = xs.length) (w : Walk J n G Y)
    (h : ∀ α' W' H' m, Ext α W H α' W' H' → HR T α' W' H' m → g m = true → G H' ∧ ∀ i y x H'', xs[i]? = some y → Y i H' x H'' → Grow H' H'' ∧ Rp T W' H'' y x) : Wk T α W H J xs g :=
  fun α' W' H' m e hr hg => by
    obtain ⟨h1, h2⟩ := h α' W' H' m e hr hg
    subst hn
    refine ⟨w.stops H' h1, fun i y hy => ?_⟩
    have hi : i < xs.length := by
      rcases Nat.lt_or_ge i xs.length with q | q
      · exact q
      · rw [List.getElem?_eq_none q] at hy; cases hy
    exact ⟨w.goes i H' hi h1, fun x H'' y' => h2 i y x H'' hy (w.yields i H' x H'' hi h1 y')⟩
theorem RpL.get' {W : Addr → Prop} {H : Hp} : ∀ {l : List P} {xs : List V} {i : Nat} {y : P}, RpL T W H l xs → l[i]? = some y → ∃ v, xs[i]? = some v ∧ Rp T W H y v
  | [], _, _, _, _, h => by simp at h
  | d :: ds, xs, 0, y, h, e => by
    simp only [RpL] at h
    obtain ⟨v, r, rfl, h1, _⟩ := h
    simp at e
    subst e
    exact ⟨v, rfl, h1⟩
  | d :: ds, xs, i + 1, y, h, e => by
    simp only [RpL] at h
    obtain ⟨v, r, rfl, _, h2⟩ := h
    simpa using RpL.get' h2 (by simpa using e)
/-- a list, as it stands while the guard holds -/
theorem wk_list {α : Al} {W : Addr → Prop} {H : Hp} {a : Addr} {l : List P} {g : Mem → Bool} (h : ∀ α' W' H' m, Ext α W H α' W' H' → HR T α' W' H' m → g m = true → ∃ xs, SqL T.K H' a xs ∧ RpL T W' H' l xs) : Wk T α W H (Itl T.K a) l g :=
  fun α' W' H' m e hr hg => by
    obtain ⟨xs, h1, h2⟩ := h α' W' H' m e hr hg
    refine ⟨⟨xs, h1, Nat.le_of_eq h2.len⟩, fun i y hy => ?_⟩
    obtain ⟨v, h3, h4⟩ := h2.get' hy
    refine ⟨⟨xs, v, h1, h3⟩, fun x H'' yl => ?_⟩
    obtain ⟨rfl, yx⟩ := yl
    have := yx xs h1
    rw [h3] at this
    cases this
    exact ⟨.inl rfl, h4⟩
theorem wk_tup {α : Al} {W : Addr → Prop} {H : Hp} {a : Addr} {l : List P} {g : Mem → Bool} (h : ∀ α' W' H' m, Ext α W H α' W' H' → HR T α' W' H' m → g m = true → ∃ xs, SqT T.K H' a xs ∧ RpL T W' H' l xs) : Wk T α W H (Itt T.K a) l g :=
  fun α' W' H' m e hr hg => by
    obtain ⟨xs, h1, h2⟩ := h α' W' H' m e hr hg
    refine ⟨⟨xs, h1, Nat.le_of_eq h2.len⟩, fun i y hy => ?_⟩
    obtain ⟨v, h3, h4⟩ := h2.get' hy
    refine ⟨⟨xs, v, h1, h3⟩, fun x H'' yl => ?_⟩
    obtain ⟨rfl, yx⟩ := yl
    have := yx xs h1
    rw [h3] at this
    cases this
    exact ⟨.inl rfl, h4⟩
/-- a list, a tuple, a text -/
def iAny (K : PySem.W.Frag) (te : TE) : TI := fun σ H R => te σ H fun x H1 => (∃ a, x = .ref a ∧ (∃ xs, SqL K H1 a xs) ∧ R (Itl K a) H1) ∨ (∃ a, x = .ref a ∧ (∃ xs, SqT K H1 a xs) ∧ R (Itt K a) H1) ∨ (∃ z, x = .str z ∧ R (Its z) H1)
theorem pi_any {tg e : Expr} {te : TE} (he : PE X e te) : PI X tg e (iAny X.K te) := by
  refine ⟨fun pins s σ H R I h => ?_⟩
  refine thn (he.run pins s σ H _ I h) fun v s1 ⟨x, H1, I1, r1, q1⟩ => ?_
  rcases q1 with ⟨a, e, ⟨xs, hq⟩, q⟩ | ⟨a, e, ⟨xs, hq⟩, q⟩ | ⟨z, e, q⟩
  · subst e
    cases r1
    obtain ⟨its, rv, p, hz⟩ := I1.list hq
    refine wpAny_pyIter_list p.isList ?_
    refine ⟨s1.heap.objs.size, [s1.heap.objs.size], _, _, H1, rfl, I1.kept (t' := s1.toks) fun b o e => Heap.get?_push_of_some _ e, turn_list a _, ⟨_, Heap.get?_push_size _ rfl, rfl, rfl⟩, fun b hb => ?_, q⟩
    have e : b = s1.heap.objs.size := by simpa using hb
    subst e
    exact I1.fpOk (Nat.le_refl _) (I1.hok.fresh (Nat.le_refl _))
  · subst e
    cases r1
    obtain ⟨its, rv, p, hz⟩ := I1.tuple hq
    refine wpAny_pyIter_tuple (show s1.heap.IsTuple a its.toArray from p) ?_
    refine ⟨s1.heap.objs.size, [s1.heap.objs.size], _, _, H1, rfl, I1.kept (t' := s1.toks) fun b o e => Heap.get?_push_of_some _ e, turn_tuple a _, ⟨_, Heap.get?_push_size _ rfl, rfl, rfl⟩, fun b hb => ?_, q⟩
    have e : b = s1.heap.objs.size := by simpa using hb
    subst e
    exact I1.fpOk (Nat.le_refl _) (I1.hok.fresh (Nat.le_refl _))
  · subst e
    obtain ⟨t, rfl⟩ := r1
    cases ha : z.cps.all (· < 128)
    · exact wpAny_pyIter_wide ha (pi_one (tk := s1.toks) I1 _ (turn_str _ z t "str_iterator" (.inr rfl)) ⟨_, Heap.get?_push_size _ rfl, rfl, rfl⟩ q)
    · exact wpAny_pyIter_ascii ha (pi_one (tk := s1.toks) I1 _ (turn_str _ z t "str_ascii_iterator" (.inl rfl)) ⟨_, Heap.get?_push_size _ rfl, rfl, rfl⟩ q)
theorem g_seq {tg e : Expr} {fe : Ev} (hX : CxOk T X) (he : PE X e (tD T fe)) : PI X tg e (tI T fun ρ m => (fe ρ m).bind fun d m1 => seqO' d m1) := PI.weak (pi_any he) fun σ H R ⟨α, W, ρ, m, hr, hs, h⟩ => ⟨α, W, ρ, m, hr, hs, h.bind.mono fun d m1 α1 W1 H1 e1 hr1 h1 v rv => by
  unfold seqO' at h1
  split at h1
  · rename_i x ex
    cases ei : itemsP x with
    | none => rw [ei] at h1; exact h1.elim
    | some l =>
      rw [ei] at h1
      have h2 := h1.here hr1
      rw [hX.K]
      have key := fun α' W' H' m' (e : Ext α1 W1 H1 α' W' H') hr' g => stays_rg (x := x) hr1 rv ex (e) (m' := m') hr' g
      have now := rg_rg hr1 rv ex
      unfold itemsP at ei
      split at ei
      · rename_i q
        cases ei
        obtain ⟨a, xs, rfl, h3, h4⟩ := (now.c (by intro l; simp)).lst
        refine .inl ⟨a, rfl, ⟨xs, SqL.of h3⟩, h2 _ (wk_list fun α' W' H' m' e hr' g => ?_)⟩
        obtain ⟨b, ys, eb, h5, h6⟩ := ((key α' W' H' m' e hr' g).c (by intro l; simp)).lst
        cases eb
        exact ⟨ys, SqL.of h5, h6⟩
      · rename_i q
        cases ei
        obtain ⟨a, xs, rfl, h3, h4⟩ := now.tup
        refine .inr (.inl ⟨a, rfl, ⟨xs, h3⟩, h2 _ (wk_tup fun α' W' H' m' e hr' g => ?_)⟩)
        obtain ⟨b, ys, eb, h5, h6⟩ := (key α' W' H' m' e hr' g).tup
        cases eb
        exact ⟨ys, h5, h6⟩
      · rename_i s
        cases ei
        obtain rfl := (now.c (by intro l; simp)).str
        refine .inr (.inr ⟨s, rfl, h2 _ (wk_of (n := s.cps.size) (by simp [signs]) walk_str fun α' W' H' m' e hr' g => ⟨trivial, fun i y x' H'' hy yx => ?_⟩)⟩)
        obtain ⟨rfl, c, hc, rfl⟩ := yx
        refine ⟨.inl rfl, ?_⟩
        have : y = .str ⟨#[c]⟩ := by
          have h7 : (s.cps.toList.map fun c => P.str ⟨#[c]⟩)[i]? = some y := hy
          rw [List.getElem?_map, Array.getElem?_toList, hc] at h7
          exact (Option.some.inj h7).symm
        subst this
        simp only [Rp]
      · cases ei
  · exact h1.elim⟩
theorem rngL_get : ∀ {n : Nat} {a : Int} {i : Nat} {y : P}, (rngL a n)[i]? = some y → y = .int (a + i)
  | 0, _, _, _, h => by simp [rngL] at h
  | n + 1, a, 0, y, h => by simp [rngL] at h; rw [← h]; simp
  | n + 1, a, i + 1, y, h => by
    have h : (rngL (a + 1) n)[i]? = some y := by simpa [rngL] using h
    rw [rngL_get h]
    congr 1
    omega
theorem rngL_len : ∀ (n : Nat) (a : Int), (rngL a n).length = n
  | 0, _ => rfl
  | n + 1, a => by simp [rngL, rngL_len n]
theorem wk_rng {α : Al} {W : Addr → Prop} {H : Hp} {a : Int} {n : Nat} {g : Mem → Bool} : Wk T α W H (Itr a n) (rngL a n) g :=
  wk_of (rngL_len n a).symm walk_range fun α' W' H' m e hr hg => ⟨trivial, fun i y x H'' hy yx => by
    obtain ⟨rfl, rfl⟩ := yx
    rw [rngL_get hy]
    exact ⟨.inl rfl, by simp only [Rp]⟩⟩
theorem int_of {α : Al} {W : Addr → Prop} {H : Hp} {i : Int} {v : V} (r : RD T α W H (.p (.int i)) v) : v = .int i := by simpa only [RD, Rp] using r
def rng1K (ds : List D) (m : Mem) : Out (List P × (Mem → Bool)) := match ds with
  | [y] => rng1O y m
  | _ => .bad
def rng2K (ds : List D) (m : Mem) : Out (List P × (Mem → Bool)) := match ds with
  | [x, y] => rng2O x y m
  | _ => .bad
theorem g_rng1 {tg a : Expr} {fa : Ev} {p pos : Pos} (hg : Gl X "range") (hm : X.mg "range" = none) (ha : PE X a (tD T fa)) (hs : starEach [a] X.env = (false, eval a X.env) :: starEach [] X.env) :
    PI X tg (.Call (.Name "range" p) [a] [] pos) (tI T fun ρ m => (fa ρ m).bind fun y m2 => rng1O y m2) := PI.weak (pi_range1 hg hm (g_cons ha g_nil hs) hs) fun σ H R ⟨α, W, ρ, m, hr, hs, h⟩ => ⟨α, W, ρ, m, hr, hs, by
  have h2 : Hg T α W H (((fa ρ m).bind fun d m1 => (Out.ok [] m1).bind fun ds m2 => .ok (d :: ds) m2).bind rng1K) fun w _ α' W' H' => ∀ J, Wk T α' W' H' J w.1 w.2 → R J H' := by
    rw [Out.bind_assoc]; exact h
  refine h2.bind.mono fun ds m1 α1 W1 H1 e1 hr1 h1 vs rvs => ?_
  unfold rng1K at h1
  split at h1
  · unfold rng1O at h1
    split at h1
    · rename_i j
      obtain ⟨v, r, rfl, rv, rfl⟩ := rvs
      split at h1
      · rename_i hb
        exact ⟨j, by rw [int_of rv], hb.1, hb.2, h1.here hr1 _ wk_rng⟩
      · exact h1.elim
    · exact h1.elim
  · exact h1.elim⟩
theorem g_rng {tg a b : Expr} {fa fb : Ev} {p pos : Pos} (hg : Gl X "range") (hm : X.mg "range" = none) (ha : PE X a (tD T fa)) (hb : PE X b (tD T fb)) (hs : starEach [a, b] X.env = (false, eval a X.env) :: starEach [b] X.env) (hs2 : starEach [b] X.env = (false, eval b X.env) :: starEach [] X.env) :
    PI X tg (.Call (.Name "range" p) [a, b] [] pos) (tI T fun ρ m => (fa ρ m).bind fun x m1 => (fb ρ m1).bind fun y m2 => rng2O x y m2) := PI.weak (pi_range2 hg hm (g_cons ha (g_cons hb g_nil hs2) hs) (by rw [hs, hs2]; rfl) hs2) fun σ H R ⟨α, W, ρ, m, hr, hs, h⟩ => ⟨α, W, ρ, m, hr, hs, by
  have h2 : Hg T α W H (((fa ρ m).bind fun d m1 => ((fb ρ m1).bind fun d m1 => (Out.ok [] m1).bind fun ds m2 => .ok (d :: ds) m2).bind fun ds m2 => .ok (d :: ds) m2).bind rng2K) fun w _ α' W' H' => ∀ J, Wk T α' W' H' J w.1 w.2 → R J H' := by
    rw [Out.bind_assoc]
    simp only [Out.bind_assoc]
    exact h
  refine h2.bind.mono fun ds m1 α1 W1 H1 e1 hr1 h1 vs rvs => ?_
  unfold rng2K at h1
  split at h1
  · unfold rng2O at h1
    split at h1
    · rename_i i j
      obtain ⟨v, r, rfl, rv, u, r', rfl, ru, rfl⟩ := rvs
      split at h1
      · rename_i hb
        exact ⟨i, j, by rw [int_of rv, int_of ru], hb, h1.here hr1 _ wk_rng⟩
      · exact h1.elim
    · exact h1.elim
  · exact h1.elim⟩
/-! ### targets -/
/-- the slots but these are as they were -/
def Off (vs : List Nat) (σ σ' : L2.St) : Prop := σ'.length = σ.length ∧ ∀ i : Nat, i ∉ vs → σ'[i]? = σ[i]?
theorem wipe_off {σ σ' : L2.St} {vs : List Nat} (h : Off vs σ σ') : L2.wipe σ' vs = L2.wipe σ vs := by
  have out : ∀ (σ : L2.St) (vs : List Nat) (i : Nat), i ∈ vs → i < σ.length → (L2.wipe σ vs)[i]? = some none := by
    intro σ vs
    induction vs with
    | nil => intro i h _; simp at h
    | cons v vs ih =>
      intro i h hl
      unfold L2.wipe
      by_cases e : v = i
      · subst e
        rw [List.getElem?_set_self (by rw [wipe_length]; exact hl)]
      · rw [List.getElem?_set_ne e]
        refine ih i ?_ hl
        simp only [List.mem_cons] at h
        rcases h with h | h
        · exact absurd h.symm e
        · exact h
  refine List.ext_getElem? fun i => ?_
  by_cases hi : i ∈ vs
  · by_cases hl : i < σ.length
    · rw [out σ vs i hi hl, out σ' vs i hi (by rw [h.1]; exact hl)]
    · rw [List.getElem?_eq_none (by rw [wipe_length, h.1]; omega), List.getElem?_eq_none (by rw [wipe_length]; omega)]
  · rw [wipe_out hi, wipe_out hi]
    exact h.2 i hi
def tG (T : Tb) (vs : List Nat) (b : P → Env → Option Env) : TG := fun v σ H Q => ∃ α W ρ m y ρ', HR T α W H m ∧ RS T α W H ρ σ ∧ Rp T W H y v ∧ b y ρ = some ρ' ∧ ∀ σ', RS T α W H ρ' σ' → Off vs σ σ' → Q σ' H
theorem PG.weak {tg : Expr} {t t' : TG} (h : PG X tg t) (w : ∀ v σ H Q, t' v σ H Q → t v σ H Q) : PG X tg t' := ⟨fun pins s σ H v u Q I r hq => h.run pins s σ H v u Q I r (w v σ H Q hq)⟩
theorem RS.set {α : Al} {W : Addr → Prop} {H : Hp} {ρ : Env} {σ : L2.St} {d : D} {v : V} (hs : RS T α W H ρ σ) (i : Nat) (r : RD T α W H d v) : RS T α W H (ρ.set i (some d)) (σ.set i (some v)) := by
  refine ⟨by rw [List.length_set, List.length_set]; exact hs.1, fun j e h => ?_⟩
  by_cases hj : i = j
  · subst hj
    have hl : i < ρ.length := by
      rcases Nat.lt_or_ge i ρ.length with q | q
      · exact q
      · rw [List.getElem?_eq_none (by rw [List.length_set]; exact q)] at h; cases h
    rw [List.getElem?_set_self hl] at h
    cases h
    exact ⟨v, by rw [List.getElem?_set_self (by rw [← hs.1]; exact hl)], r⟩
  · rw [List.getElem?_set_ne hj] at h ⊢
    exact hs.2 j e h
theorem g_nm {i : Nat} {x : Str} {pos : Pos} (hN : X.N.Nodup) (hi : X.N[i]? = some x) (hx : L2.Loc X.env.scope x) (hf : X.fn x = true ∨ X.env.scope.names.lookup x = some .local) : PG X (.Name x pos) (tG T [i] (bindTg (.nm i))) :=
  PG.weak (pg_name hN hi hx hf) fun v σ H Q ⟨α, W, ρ, m, y, ρ', hr, hs, r, e, q⟩ => by
    cases e
    exact q _ (hs.set i r) ⟨by rw [List.length_set], fun j hj => List.getElem?_set_ne (by intro z; subst z; simp at hj)⟩
def tGs (T : Tb) (is : List Nat) : TGs := fun vs σ H Q => ∃ α W ρ m ys, HR T α W H m ∧ RS T α W H ρ σ ∧ RpL T W H ys vs ∧ ys.length = is.length ∧ ∀ σ', RS T α W H (setAll ρ is ys) σ' → Off is σ σ' → Q σ' H
theorem PGs.weak {tg : List Expr} {t t' : TGs} (h : PGs X tg t) (w : ∀ v σ H Q, t' v σ H Q → t v σ H Q) : PGs X tg t' := ⟨fun pins s σ H v u Q I r hq => h.run pins s σ H v u Q I r (w v σ H Q hq)⟩
theorem g_nms_nil : PGs X [] (tGs T []) := PGs.weak pgs_nil fun v σ H Q ⟨α, W, ρ, m, ys, hr, hs, r, e, q⟩ => by
  have : ys = [] := List.length_eq_zero_iff.mp e
  subst this
  simp only [RpL] at r
  exact ⟨r, q _ hs ⟨rfl, fun _ _ => rfl⟩⟩
theorem g_nms_cons {i : Nat} {is : List Nat} {x : Str} {pos : Pos} {es : List Expr} (hN : X.N.Nodup) (hi : X.N[i]? = some x) (hx : L2.Loc X.env.scope x) (hf : X.fn x = true ∨ X.env.scope.names.lookup x = some .local) (h : PGs X es (tGs T is)) (hs : (assignEach (.Name x pos :: es) X.env).map (·.2) = assign (.Name x pos) X.env :: (assignEach es X.env).map (·.2)) : PGs X (.Name x pos :: es) (tGs T (i :: is)) :=
  PGs.weak (pgs_cons (pg_name hN hi hx hf) h hs) fun v σ H Q ⟨α, W, ρ, m, ys, hr, hs, r, e, q⟩ => by
    cases ys with
    | nil => cases e
    | cons y ys =>
      simp only [RpL] at r
      obtain ⟨u, r', rfl, h1, h2⟩ := r
      refine ⟨u, r', rfl, α, W, ρ.set i (some (.p y)), m, ys, hr, hs.set i h1, h2, by simpa using e, fun σ' s' o => q σ' s' ⟨by rw [o.1, List.length_set], fun j hj => ?_⟩⟩
      simp only [List.mem_cons, not_or] at hj
      rw [o.2 j hj.2, List.getElem?_set_ne (fun z => hj.1 z.symm)]
theorem g_tp {es : List Expr} {k : Nat} {is : List Nat} {pos : Pos} (hX : CxOk T X) (h : PGs X es (tGs T is)) (hn : (assignEach es X.env).length = is.length) (hst : (assignEach es X.env).findIdx? (·.1) = none) : PG X (.Tuple es k pos) (tG T is (bindTg (.tp is))) :=
  PG.weak (pg_tup hX.calm h hn hst) fun v σ H Q ⟨α, W, ρ, m, y, ρ', hr, hs, r, e, q⟩ => by
    unfold bindTg at e
    dsimp only at e
    split at e
    · rename_i xs
      split at e
      · rename_i hl
        cases e
        simp only [Rp] at r
        obtain ⟨a, vs, rfl, h1, h2⟩ := r
        exact ⟨a, vs, rfl, h1.sq, by rw [h2.len, hl], α, W, ρ, m, xs, hr, hs, h2, hl.symm, q⟩
      · cases e
    · cases e
end Lot
/-! LotIa: enumerate of a tuple. -/
namespace Lot
open PySem PySem.Spec PyProof.Rows L2
section
open PySem.AutoSeq1 (wpAny_loadPart')
theorem enum_newT (t : Addr) (is : Array Value) (n : Nat) (dc : Option Addr) (sl : Array (Option Value)) :
    Meets (Builtin.«enumerate.__new__» ⟨[.type "enumerate", .ref t], []⟩) (fun _ R s => s.heap.get? t = some { cls := .type "tuple", dict := dc, data := .seq is n, slots := sl } ∧
      R (.ok (.ret (.ref (s.heap.push { cls := .type "tuple_iterator", data := .fields #[.ref t, .int 0 0] }).objs.size)))
        { s with heap := (s.heap.push { cls := .type "tuple_iterator", data := .fields #[.ref t, .int 0 0] }).push { cls := .type "enumerate", data := .fields #[.none, .bool false, .ref s.heap.objs.size, rawInt 0, .none, .none] } }) :=
  .of_wp fun prog w A R s h => by
    obtain ⟨hp, g, d, tk, os⟩ := s; obtain ⟨h1, h⟩ := h
    have fs := sub_enumerate
    have ht : Heap.IsTuple (Shared.heap ⟨hp, g, d, tk, os⟩) t is := ⟨_, h1, rfl, n, rfl⟩
    wp_walk using wpAny_loadPart' h1
    refine wpAny_stack_any fun st => wpAny_pure ?_
    split
    · rename_i c _ _ _ _ _
      cases (c == Value.type "enumerate")
      · wp_walk using wpAny_loadPart' h1, wpAny_pyIter_tuple ht
        exact ⟨_, rfl, h⟩
      · wp_walk using wpAny_loadPart' h1, wpAny_pyIter_tuple ht
        exact ⟨_, rfl, h⟩
    · wp_walk using wpAny_loadPart' h1, wpAny_pyIter_tuple ht
      exact ⟨_, rfl, h⟩
variable {prog : Program} {w : World} {A : Around} {E : Value → Shared → Prop} {s : Shared}
theorem call_enumT {t : Addr} {is : Array Value} {Q : Value → Shared → Prop} (ht : s.heap.IsTuple t is)
    (h : ∀ h', IsEnum h' (s.heap.objs.size + 1) s.heap.objs.size 0 .none → h'.IsTupleIter s.heap.objs.size t 0 → h'.objs.size = s.heap.objs.size + 2 →
      (∀ b o, s.heap.get? b = some o → h'.get? b = some o) → Q (.ref (s.heap.objs.size + 1)) { s with heap := h' }) :
    wpAny (model prog w) A (call (.type "enumerate") [.ref t]) Q E s := by
  obtain ⟨⟨c, dc, dt, sl⟩, h1, hc, n, hd⟩ := ht
  replace hc : c = .type "tuple" := hc
  replace hd : dt = .seq is n := hd
  subst hc hd
  refine callType_new PySem.F.called_enumerate (by decide) (PySem.F.typeCall_enumerate_1 _) (PySem.F.newCall_enumerate_1 _) (fun obj => PySem.F.args_object_init_2 obj _) PySem.F.entry_enumerate_new (enum_newT t is n dc sl) ⟨h1, ?_⟩
  have hz : (s.heap.push { cls := .type "tuple_iterator", data := .fields #[.ref t, .int 0 0] }).objs.size = s.heap.objs.size + 1 := Heap.size_push ..
  show _ ∧ _
  rw [hz]
  have he : IsEnum ((s.heap.push { cls := .type "tuple_iterator", data := .fields #[.ref t, .int 0 0] }).push { cls := .type "enumerate", data := .fields #[.none, .bool false, .ref s.heap.objs.size, rawInt 0, .none, .none] }) (s.heap.objs.size + 1) s.heap.objs.size 0 .none := by
    have q := Heap.get?_push_size (s.heap.push { cls := .type "tuple_iterator", data := .fields #[.ref t, .int 0 0] }) (o := { cls := .type "enumerate", data := .fields #[.none, .bool false, .ref s.heap.objs.size, rawInt 0, .none, .none] }) rfl
    rw [hz] at q; exact q
  refine ⟨⟨_, he, rfl⟩, h _ he ⟨_, Heap.get?_push_of_some _ (Heap.get?_push_size _ rfl), rfl, rfl⟩ (by rw [Heap.size_push, hz]) fun b o x => Heap.get?_push_of_some _ (Heap.get?_push_of_some _ x)⟩
theorem enum_endT {e it t : Addr} {i : Nat} {is : Array Value} {old : Value} {Q : Option Value → Shared → Prop} (hh : A.handled = none) (he : IsEnum s.heap e it i old) (hit : s.heap.IsTupleIter it t i) (ht : s.heap.IsTuple t is) (hx : is[i]? = none)
    (hQ : ∀ h', Heap.ExtBut it s.heap h' → Q none { s with heap := h' }) : wpAny (model prog w) A (pyNext (.ref e)) Q E s := by
  have hT : s.TypeIs (.ref e) "enumerate" := ⟨_, he, rfl⟩
  unfold pyNext
  refine wpAny_bind (wpAny_attempt (wpAny_callSpecial?_slot (name := Str.ofString "__next__") hT PySem.F.slot_enumerate_next (wpAny_call_entry PySem.F.slot_enumerate_next hT PySem.F.entry_enumerate_next ?_ (PySem.F.args_enumerate_next_1 _))))
  show wpAny _ _ (field (.ref e) 2 >>= _) _ _ _
  refine wpAny_bind (wpAny_field he rfl (x := .ref it) rfl ?_)
  refine wpAny_bind (wpAny_nextOf_tuple_end hh hit ht hx fun h' x e1 e2 => ?_)
  obtain ⟨o, ho, hc⟩ := e2
  exact wpAny_bind (wpAny_isInstance (T := "StopIteration") (b := true) ⟨o, ho, hc⟩ isSubtype_stop (wpAny_pure (hQ _ e1)))
end
/-- the tuple at a, each item in a new pair -/
def IteT (K : PySem.W.Frag) (a : Addr) : It :=
  ⟨fun i H => ∃ (xs : List V) (x : V), SqT K H a xs ∧ xs[i]? = some x, fun i H v H' => ∃ T x, v = .ref T ∧ H T = none ∧ H' = upd H T (.tup [.int (i : Nat), x]) ∧ ∀ xs, SqT K H a xs → xs[i]? = some x, fun i H => ∃ xs : List V, SqT K H a xs ∧ xs.length ≤ i⟩
theorem turn_enumT {P : Program} {w : World} {K : PySem.W.Frag} {elts : List Expr} {kk : Nat} {tpos : Pos} (a e it : Addr) :
    Turn P w K (.Tuple elts kk tpos) (IteT K a) [e, it] e (fun i h => (∃ old, IsEnum h e it ((i : Nat) : Int) old) ∧ h.IsTupleIter it a i ∧ e ≠ it ∧ a ≠ it ∧ a ≠ e) where
  mem := by simp
  obj := fun i h st b hb => by
    obtain ⟨⟨old, he⟩, ⟨o, ho, hc, hd⟩, _⟩ := st
    have z : b = e ∨ b = it := by simpa using hb
    rcases z with z | z
    · rw [z]; exact ⟨_, he, fun v q => nomatch q⟩
    · rw [z]; exact ⟨o, ho, fun v q => by rw [hd] at q; cases q⟩
  keep := fun i h h' st k => let ⟨⟨old, he⟩, ⟨o, ho, hr⟩, hne⟩ := st; ⟨⟨old, k e (by simp) _ he⟩, ⟨o, k it (by simp) _ ho, hr⟩, hne⟩
  item := by
    intro X hP hw hK hc i pins s σ H E I hf st hg
    subst hP hw hK
    obtain ⟨⟨old, he⟩, hit, hne, n1, n2⟩ := st
    obtain ⟨xs, x, hq, hx⟩ := hg
    obtain ⟨its, rv, ⟨ot, hot, hct, nt, hdt⟩, hz⟩ := I.tuple hq
    have ht : s.heap.IsTuple a its.toArray := ⟨ot, hot, hct, nt, hdt⟩
    obtain ⟨u, hu, ru⟩ := rv.get hx
    have hel : e < s.heap.objs.size := Heap.lt_size he
    have hil : it < s.heap.objs.size := by obtain ⟨_, q, _⟩ := hit; exact Heap.lt_size q
    have hi : i < its.toArray.size := by
      rcases Nat.lt_or_ge i its.length with z | z
      · simpa using z
      · rw [List.getElem?_eq_none z] at hu; cases hu
    refine wpAny_pyNext_enum_itemD (Draws.tuple (A := X.A.in1) (I.ok.hd hc) it a n1 its.toArray) he ⟨hit, ht⟩ hi hne (by simp; exact ⟨hne, fun z => n2 z.symm⟩) fun u' h' tk hu' ho hst hT hsz hk => ?_
    have eu : u' = u := by
      have q : its[i]? = some u' := by simpa using hu'
      rw [hu] at q; cases q; rfl
    subst eu
    refine ⟨_, rfl, wpAny_letOwnedTupleGo_enum (s := { s with heap := h', toks := tk + 1 }) ho fun h'' he' sb => ?_⟩
    have hT2 : h''.get? s.heap.objs.size = some { cls := .type "tuple", data := .seq #[.int i tk, u'] } := (sb.2 _ (Nat.ne_of_gt hel)).trans hT
    have new : ObjOk X.prog X.w (upd H s.heap.objs.size (.tup [.int (i : Nat), x])) h'' s.heap.objs.size (.tup [.int (i : Nat), x]) :=
      ⟨by show 2 ≤ sizeLine; decide, [.int i tk, u'], .cons ⟨_, rfl⟩ (.cons ru .nil), ⟨_, hT2, rfl, _, rfl⟩⟩
    have I1 : Inv X pins σ (upd H s.heap.objs.size (.tup [.int (i : Nat), x])) { s with heap := h'', toks := tk + 1 } :=
      I.turnedNew (ch := [e, it]) (fun b ob hb q => (sb.2 b (fun z => hb (by simp [z]))).trans (hk b ob (fun z => hb (by simp [z])) (fun z => hb (by simp [z])) q)) hf (Nat.le_refl _) new
    obtain ⟨o2, g1, g2⟩ := hst.1
    refine ⟨.ref s.heap.objs.size, _, I1, rfl, ⟨_, x, rfl, I.hok.fresh (Nat.le_refl _), rfl, fun ys hy => by rw [I.tuple_inj hy hq]; exact hx⟩, ⟨⟨u', ?_⟩, ⟨o2, (sb.2 it (Ne.symm hne)).trans g1, g2⟩, hne, n1, n2⟩, fun b hb => ?_⟩
    · have e1 : ((i + 1 : Nat) : Int) = (i : Int) + 1 := by omega
      rw [e1]; exact he'
    · have z : b = e ∨ b = it := by simpa using hb
      have hb' : b < s.heap.objs.size := by
        rcases z with z | z
        · rw [z]; exact hel
        · rw [z]; exact hil
      rw [upd_ne (Nat.ne_of_lt hb')]
      exact (hf b hb).1
  done := by
    intro X hP hw hK hc i pins s σ H E I hf st hg
    subst hP hw hK
    obtain ⟨⟨old, he⟩, hit, hne, n1, n2⟩ := st
    obtain ⟨xs, hq, hx⟩ := hg
    obtain ⟨its, rv, ⟨ot, hot, hct, nt, hdt⟩, hz⟩ := I.tuple hq
    obtain ⟨f0, f1, f2, f3, f4, f5⟩ := hf it (by simp)
    have hl := rv.length
    exact enum_endT (I.ok.hd hc) he hit ⟨ot, hot, hct, nt, hdt⟩ (by simp; omega) fun h' eb => ⟨rfl, I.turned (t' := s.toks) (fun b o hb q => eb b o hb q) f0 f1 f3 f4 f5⟩
  self := fun A i s Q E st h => let ⟨⟨_, he⟩, _⟩ := st; wpAny_pyIter_enum he h
def iEnumA (K : PySem.W.Frag) (ta : TA) : TI := fun σ H R => ta σ H fun vs H1 => ∃ a xs, vs = [.ref a] ∧ ((SqL K H1 a xs ∧ R (Ite K a) H1) ∨ (SqT K H1 a xs ∧ R (IteT K a) H1))
theorem pi_enumA {X : Cx} {e : Expr} {ta : TA} {p pos tpos : Pos} {elts : List Expr} {kk : Nat} (hg : Gl X "enumerate") (hm : X.mg "enumerate" = none) (ha : PA X [e] ta) (hs : starEach [e] X.env = [(false, eval e X.env)] := by rfl) :
    PI X (.Tuple elts kk tpos) (.Call (.Name "enumerate" p) [e] [] pos) (iEnumA X.K ta) := by
  refine ⟨fun pins s σ H R I h => ?_⟩
  refine Call_ (ld_blt I hg hm boot_enumerate (PyProof.Rows.callWith_type1 (thn (ha.run pos pins s σ H _ I h) fun us s1 ⟨vs, H1, I1, r1, q1⟩ => ?_) hs rfl))
  obtain ⟨a, xs, ex, q1⟩ := q1
  subst ex
  cases r1 with
  | cons r rr =>
    cases rr
    cases r
    have fr : ∀ b ∈ [s1.heap.objs.size + 1, s1.heap.objs.size], FpOk X pins H1 b := fun b hb => by
      have z : b = s1.heap.objs.size + 1 ∨ b = s1.heap.objs.size := by simpa using hb
      have hle : s1.heap.objs.size ≤ b := by
        rcases z with z | z
        · rw [z]; exact Nat.le_add_right _ _
        · rw [z]; exact Nat.le_refl _
      exact I1.fpOk hle (I1.hok.fresh hle)
    rcases q1 with ⟨hq, q⟩ | ⟨hq, q⟩
    · obtain ⟨its, rv, p', hz⟩ := I1.list hq
      refine call_enumerate_list p'.isList fun h' he hit hsz hk => wpAny_pyIter_enum he ?_
      have I2 : Inv X pins σ H1 { s1 with heap := h' } := I1.kept (t' := s1.toks) hk
      exact ⟨s1.heap.objs.size + 1, [s1.heap.objs.size + 1, s1.heap.objs.size], _, _, H1, rfl, I2, turn_enum a (s1.heap.objs.size + 1) s1.heap.objs.size, ⟨⟨.none, he⟩, hit, Nat.succ_ne_self _⟩, fr, q⟩
    · obtain ⟨its, rv, ⟨ot, hot, hct, nt, hdt⟩, hz⟩ := I1.tuple hq
      have hal : a < s1.heap.objs.size := Heap.lt_size hot
      refine call_enumT ⟨ot, hot, hct, nt, hdt⟩ fun h' he hit hsz hk => wpAny_pyIter_enum he ?_
      have I2 : Inv X pins σ H1 { s1 with heap := h' } := I1.kept (t' := s1.toks) hk
      exact ⟨s1.heap.objs.size + 1, [s1.heap.objs.size + 1, s1.heap.objs.size], _, _, H1, rfl, I2, turn_enumT a (s1.heap.objs.size + 1) s1.heap.objs.size, ⟨⟨.none, he⟩, hit, Nat.succ_ne_self _, Nat.ne_of_lt hal, Nat.ne_of_lt (Nat.lt_succ_of_lt hal)⟩, fr, q⟩
end Lot
/-! LotJ: enumerate, zip, comprehensions. -/
namespace Lot
open PySem PySem.Spec PyProof.Rows L2
variable {T : Tb} {X : Cx}
/-- a new pair -/
theorem pair_new {α : Al} {W : Addr → Prop} {H : Hp} {m : Mem} {p : Addr} {x y : V} {a b : P} (hr : HR T α W H m) (hp : H p = none) (ra : Rp T W H a x) (rb : Rp T W H b y) :
    Grow H (upd H p (.tup [x, y])) ∧ Rp T W (upd H p (.tup [x, y])) (.tup [a, b]) (.ref p) := by
  refine ⟨.inr ⟨p, _, hp, rfl⟩, ?_⟩
  simp only [Rp, RpL]
  exact ⟨p, [x, y], rfl, ⟨hr.free hp, upd_same⟩, x, [y], rfl, Rp.ext (α := α) (α' := α) (.new hp) a x ra, y, [], rfl, Rp.ext (α := α) (α' := α) (.new hp) b y rb, rfl⟩
theorem enumL_get : ∀ {l : List P} {k i : Nat} {y : P}, (enumL k l)[i]? = some y → ∃ x, l[i]? = some x ∧ y = .tup [.int ((k + i : Nat) : Int), x]
  | [], _, _, _, h => by simp [enumL] at h
  | x :: r, k, 0, y, h => by
    simp [enumL] at h
    exact ⟨x, rfl, by rw [← h]; simp⟩
  | x :: r, k, i + 1, y, h => by
    have h : (enumL (k + 1) r)[i]? = some y := by simpa [enumL] using h
    obtain ⟨z, h1, h2⟩ := enumL_get h
    exact ⟨z, by simpa using h1, by rw [h2]; congr 3; omega⟩
theorem enumL_len : ∀ (l : List P) (k : Nat), (enumL k l).length = l.length
  | [], _ => rfl
  | x :: r, k => by simp [enumL, enumL_len r]
theorem wk_enum {α : Al} {W : Addr → Prop} {H : Hp} {a : Addr} {l : List P} {g : Mem → Bool} (h : ∀ α' W' H' m, Ext α W H α' W' H' → HR T α' W' H' m → g m = true → ∃ xs, SqL T.K H' a xs ∧ RpL T W' H' l xs) : Wk T α W H (Ite T.K a) (enumL 0 l) g :=
  fun α' W' H' m e hr hg => by
    obtain ⟨xs, h1, h2⟩ := h α' W' H' m e hr hg
    refine ⟨⟨xs, h1, by rw [enumL_len]; exact Nat.le_of_eq h2.len⟩, fun i y hy => ?_⟩
    obtain ⟨z, hz, rfl⟩ := enumL_get hy
    obtain ⟨v, h3, h4⟩ := h2.get' hz
    refine ⟨⟨xs, v, h1, h3⟩, fun x H'' yl => ?_⟩
    obtain ⟨p, u, rfl, hp, rfl, yx⟩ := yl
    have := yx xs h1
    rw [h3] at this
    cases this
    rw [Nat.zero_add]
    exact pair_new hr hp (by simp only [Rp]) h4
theorem zipL_get : ∀ {l k : List P} {i : Nat} {y : P}, (zipL l k)[i]? = some y → ∃ a b, l[i]? = some a ∧ k[i]? = some b ∧ y = .tup [a, b]
  | [], _, _, _, h => by simp [zipL] at h
  | _ :: _, [], _, _, h => by simp [zipL] at h
  | a :: l, b :: k, 0, y, h => by simp [zipL] at h; exact ⟨a, b, rfl, rfl, h.symm⟩
  | a :: l, b :: k, i + 1, y, h => by
    have h : (zipL l k)[i]? = some y := by simpa [zipL] using h
    simpa using zipL_get h
theorem zipL_len : ∀ (l k : List P), (zipL l k).length = min l.length k.length
  | [], _ => by simp [zipL]
  | _ :: _, [] => by simp [zipL]
  | a :: l, b :: k => by simp [zipL, zipL_len l k]
theorem wk_zip {α : Al} {W : Addr → Prop} {H : Hp} {a b : Addr} {l k : List P} {g : Mem → Bool} (h : ∀ α' W' H' m, Ext α W H α' W' H' → HR T α' W' H' m → g m = true → ∃ xs ys, SqL T.K H' a xs ∧ RpL T W' H' l xs ∧ SqL T.K H' b ys ∧ RpL T W' H' k ys) : Wk T α W H (Itz T.K a b) (zipL l k) g :=
  fun α' W' H' m e hr hg => by
    obtain ⟨xs, ys, h1, h2, h5, h6⟩ := h α' W' H' m e hr hg
    have l1 := h2.len
    have l2 := h6.len
    refine ⟨⟨xs, ys, h1, h5, by rw [zipL_len]; omega⟩, fun i y hy => ?_⟩
    obtain ⟨z, w, hz, hw, rfl⟩ := zipL_get hy
    obtain ⟨v, h3, h4⟩ := h2.get' hz
    obtain ⟨u, h7, h8⟩ := h6.get' hw
    refine ⟨⟨xs, ys, v, u, h1, h5, h3, h7⟩, fun x H'' yl => ?_⟩
    obtain ⟨p, v', u', rfl, hp, rfl, yx, yy⟩ := yl
    have e1 := yx xs h1
    have e2 := yy ys h5
    rw [h3] at e1
    rw [h7] at e2
    cases e1; cases e2
    exact pair_new hr hp h4 h8
theorem wk_zipT {α : Al} {W : Addr → Prop} {H : Hp} {a b : Addr} {l k : List P} {g : Mem → Bool} (h : ∀ α' W' H' m, Ext α W H α' W' H' → HR T α' W' H' m → g m = true → ∃ xs ys, SqT T.K H' a xs ∧ RpL T W' H' l xs ∧ SqT T.K H' b ys ∧ RpL T W' H' k ys) : Wk T α W H (RZ.ItzT T.K a b) (zipL l k) g :=
  fun α' W' H' m e hr hg => by
    obtain ⟨xs, ys, h1, h2, h5, h6⟩ := h α' W' H' m e hr hg
    have l1 := h2.len
    have l2 := h6.len
    refine ⟨⟨xs, ys, h1, h5, by rw [zipL_len]; omega⟩, fun i y hy => ?_⟩
    obtain ⟨z, w, hz, hw, rfl⟩ := zipL_get hy
    obtain ⟨v, h3, h4⟩ := h2.get' hz
    obtain ⟨u, h7, h8⟩ := h6.get' hw
    refine ⟨⟨xs, ys, v, u, h1, h5, h3, h7⟩, fun x H'' yl => ?_⟩
    obtain ⟨p, v', u', rfl, hp, rfl, yx, yy⟩ := yl
    have e1 := yx xs h1
    have e2 := yy ys h5
    rw [h3] at e1
    rw [h7] at e2
    cases e1; cases e2
    exact pair_new hr hp h4 h8
def enumK (ds : List D) (m : Mem) : Out (List P × (Mem → Bool)) := match ds with
  | [x] => enumO x m
  | _ => .bad
def zipK (ds : List D) (m : Mem) : Out (List P × (Mem → Bool)) := match ds with
  | [x, y] => zipO x y m
  | _ => .bad
theorem wk_enumT {α : Al} {W : Addr → Prop} {H : Hp} {a : Addr} {l : List P} {g : Mem → Bool} (h : ∀ α' W' H' m, Ext α W H α' W' H' → HR T α' W' H' m → g m = true → ∃ xs, SqT T.K H' a xs ∧ RpL T W' H' l xs) : Wk T α W H (IteT T.K a) (enumL 0 l) g :=
  fun α' W' H' m e hr hg => by
    obtain ⟨xs, h1, h2⟩ := h α' W' H' m e hr hg
    refine ⟨⟨xs, h1, by rw [enumL_len]; exact Nat.le_of_eq h2.len⟩, fun i y hy => ?_⟩
    obtain ⟨z, hz, rfl⟩ := enumL_get hy
    obtain ⟨v, h3, h4⟩ := h2.get' hz
    refine ⟨⟨xs, v, h1, h3⟩, fun x H'' yl => ?_⟩
    obtain ⟨p, u, rfl, hp, rfl, yx⟩ := yl
    have := yx xs h1
    rw [h3] at this
    cases this
    rw [Nat.zero_add]
    exact pair_new hr hp (by simp only [Rp]) h4
theorem g_enum {a : Expr} {fa : Ev} {p pos tpos : Pos} {elts : List Expr} {kk : Nat} (hX : CxOk T X) (hg : Gl X "enumerate") (hm : X.mg "enumerate" = none) (ha : PE X a (tD T fa)) (hs : starEach [a] X.env = (false, eval a X.env) :: starEach [] X.env) :
    PI X (.Tuple elts kk tpos) (.Call (.Name "enumerate" p) [a] [] pos) (tI T fun ρ m => (fa ρ m).bind fun y m2 => enumO y m2) := PI.weak (pi_enumA hg hm (g_cons ha g_nil hs) hs) fun σ H R ⟨α, W, ρ, m, hr, hs, h⟩ => ⟨α, W, ρ, m, hr, hs, by
  have h2 : Hg T α W H (((fa ρ m).bind fun d m1 => (Out.ok [] m1).bind fun ds m2 => .ok (d :: ds) m2).bind enumK) fun w _ α' W' H' => ∀ J, Wk T α' W' H' J w.1 w.2 → R J H' := by
    rw [Out.bind_assoc]; exact h
  refine h2.bind.mono fun ds m1 α1 W1 H1 e1 hr1 h1 vs rvs => ?_
  unfold enumK at h1
  split at h1
  · unfold enumO at h1
    obtain ⟨v, r, rfl, rv, rfl⟩ := rvs
    rw [hX.K]
    split at h1
    · rename_i l ex
      obtain ⟨b, xs, rfl, h3, h4⟩ := ((rg_rg hr1 rv ex).c (by intro l; simp)).lst
      refine ⟨b, xs, rfl, .inl ⟨SqL.of h3, h1.here hr1 _ (wk_enum fun α' W' H' m' e hr' g => ?_)⟩⟩
      obtain ⟨c, ys, eb, h5, h6⟩ := ((stays_rg hr1 rv ex e hr' g).c (by intro l; simp)).lst
      cases eb
      exact ⟨ys, SqL.of h5, h6⟩
    · rename_i l ex
      obtain ⟨b, xs, rfl, h3, h4⟩ := (rg_rg hr1 rv ex).tup
      refine ⟨b, xs, rfl, .inr ⟨h3, h1.here hr1 _ (wk_enumT fun α' W' H' m' e hr' g => ?_)⟩⟩
      obtain ⟨c, ys, eb, h5, h6⟩ := (stays_rg hr1 rv ex e hr' g).tup
      cases eb
      exact ⟨ys, h5, h6⟩
    · exact h1.elim
  · exact h1.elim⟩
theorem g_zip {a b : Expr} {fa fb : Ev} {p pos tpos : Pos} {elts : List Expr} {kk : Nat} (hX : CxOk T X) (hg : Gl X "zip") (hm : X.mg "zip" = none) (ha : PE X a (tD T fa)) (hb : PE X b (tD T fb)) (hs : starEach [a, b] X.env = (false, eval a X.env) :: starEach [b] X.env) (hs2 : starEach [b] X.env = (false, eval b X.env) :: starEach [] X.env)
    (hpl : (backTo pos (starEach [b] X.env)).any (·.1) = false) :
    PI X (.Tuple elts kk tpos) (.Call (.Name "zip" p) [a, b] [] pos) (tI T fun ρ m => (fa ρ m).bind fun x m1 => (fb ρ m1).bind fun y m2 => zipO x y m2) := PI.weak (RZ.pi_zipA hg hm (g_cons ha (g_cons hb g_nil hs2) hs) hs hpl) fun σ H R ⟨α, W, ρ, m, hr, hs, h⟩ => ⟨α, W, ρ, m, hr, hs, by
  have h2 : Hg T α W H (((fa ρ m).bind fun d m1 => ((fb ρ m1).bind fun d m1 => (Out.ok [] m1).bind fun ds m2 => .ok (d :: ds) m2).bind fun ds m2 => .ok (d :: ds) m2).bind zipK) fun w _ α' W' H' => ∀ J, Wk T α' W' H' J w.1 w.2 → R J H' := by
    rw [Out.bind_assoc]
    simp only [Out.bind_assoc]
    exact h
  refine h2.bind.mono fun ds m1 α1 W1 H1 e1 hr1 h1 vs rvs => ?_
  unfold zipK at h1
  split at h1
  · unfold zipO at h1
    obtain ⟨v, r, rfl, rv, u, r', rfl, ru, rfl⟩ := rvs
    rw [hX.K]
    split at h1
    · rename_i l k ex ey
      obtain ⟨c, xs, rfl, h3, h4⟩ := ((rg_rg hr1 rv ex).c (by intro l; simp)).lst
      obtain ⟨d, ys, rfl, h5, h6⟩ := ((rg_rg hr1 ru ey).c (by intro l; simp)).lst
      refine ⟨c, d, xs, ys, rfl, .inl ⟨SqL.of h3, SqL.of h5, h1.here hr1 _ (wk_zip fun α' W' H' m' e hr' g => ?_)⟩⟩
      simp only [Bool.and_eq_true] at g
      obtain ⟨_, xs', eb, h7, h8⟩ := ((stays_rg hr1 rv ex e hr' g.1).c (by intro l; simp)).lst
      obtain ⟨_, ys', eb', h9, h10⟩ := ((stays_rg hr1 ru ey e hr' g.2).c (by intro l; simp)).lst
      cases eb; cases eb'
      exact ⟨xs', ys', SqL.of h7, h8, SqL.of h9, h10⟩
    · rename_i l k ex ey
      obtain ⟨c, xs, rfl, h3, h4⟩ := (rg_rg hr1 rv ex).tup
      obtain ⟨d, ys, rfl, h5, h6⟩ := (rg_rg hr1 ru ey).tup
      refine ⟨c, d, xs, ys, rfl, .inr ⟨h3, h5, h1.here hr1 _ (wk_zipT fun α' W' H' m' e hr' g => ?_)⟩⟩
      simp only [Bool.and_eq_true] at g
      obtain ⟨_, xs', eb, h7, h8⟩ := (stays_rg hr1 rv ex e hr' g.1).tup
      obtain ⟨_, ys', eb', h9, h10⟩ := (stays_rg hr1 ru ey e hr' g.2).tup
      cases eb; cases eb'
      exact ⟨xs', ys', h7, h8, h9, h10⟩
    · exact h1.elim
  · exact h1.elim⟩
/-! ### comprehensions -/
theorem wipe_rs {α : Al} {W : Addr → Prop} {H : Hp} {ρ : Env} {σ : L2.St} (hs : RS T α W H ρ σ) : ∀ vs : List Nat, RS T α W H (wipe ρ vs) (L2.wipe σ vs)
  | [] => hs
  | v :: vs => by
    have ih := wipe_rs hs vs
    unfold wipe L2.wipe
    refine ⟨by rw [List.length_set, List.length_set]; exact ih.1, fun j e h => ?_⟩
    by_cases hj : v = j
    · subst hj
      rcases Nat.lt_or_ge v (wipe ρ vs).length with q | q
      · rw [List.getElem?_set_self q] at h; cases h
      · rw [List.getElem?_eq_none (by rw [List.length_set]; exact q)] at h; cases h
    · rw [List.getElem?_set_ne hj] at h ⊢
      exact ih.2 j e h
/-- a clause's tests -/
def tIfs (T : Tb) (f : Env → Mem → Out Bool) : TT := tT T f
theorem PTs.weak {e : List Expr} {t t' : TT} (h : PTs X e t) (w : ∀ σ H Q, t' σ H Q → t σ H Q) : PTs X e t' := ⟨fun pins s σ H Q I hq => h.run pins s σ H Q I (w σ H Q hq)⟩
theorem g_ifs0 : PTs X [] (tT T fun _ m => .ok true m) := PTs.weak pts_nil fun σ H Q ⟨α, W, ρ, m, hr, hs, h⟩ => h.here hr
theorem g_ifs1 {c : Expr} {fc : Ev} (hc : PT X c (tT T (tO fc))) : PTs X [c] (tT T fun ρ m => (tO fc ρ m).bind fun b m1 => if b then .ok true m1 else .ok false m1) := PTs.weak (pts_one hc) fun σ H Q ⟨α, W, ρ, m, hr, hs, h⟩ => ⟨α, W, ρ, m, hr, hs, h.bind.mono fun b m1 α1 W1 H1 e1 hr1 h1 => by
  cases b with
  | true => exact h1.here hr1
  | false => exact h1.here hr1⟩
theorem compL_len {g : Mem → Bool} {step : P → Mem → Out (List P)} : ∀ {xs acc : List P} {m m' : Mem} {l : List P}, compL g step xs acc m = .ok l m' → acc.length ≤ l.length
  | [], acc, m, m', l, h => by
    unfold compL at h
    split at h
    · cases h; exact Nat.le_refl _
    · cases h
  | x :: xs, acc, m, m', l, h => by
    unfold compL at h
    split at h
    · cases q : step x m with
      | ok o m1 =>
        rw [q] at h
        have := compL_len (xs := xs) h
        rw [List.length_append] at this
        omega
      | exn _ _ _ => rw [q] at h; cases h
      | bad => rw [q] at h; cases h
    · cases h
/-- any hidden objects -/
def tDg (T : Tb) (f : Ev) : TE := fun σ H Q => ∃ gh, tD (T.g gh) f σ H Q
def tTg (T : Tb) (f : Env → Mem → Out Bool) : TT := fun σ H Q => ∃ gh, tT (T.g gh) f σ H Q
theorem PE.anyG {e : Expr} {f : Ev} (h : ∀ gh, PE X e (tD (T.g gh) f)) : PE X e (tDg T f) := ⟨fun pins s σ H Q I ⟨gh, q⟩ => (h gh).run pins s σ H Q I q⟩
theorem PTs.anyG {e : List Expr} {f : Env → Mem → Out Bool} (h : ∀ gh, PTs X e (tT (T.g gh) f)) : PTs X e (tTg T f) := ⟨fun pins s σ H Q I ⟨gh, q⟩ => (h gh).run pins s σ H Q I q⟩
def tGg (T : Tb) (vs : List Nat) (b : P → Env → Option Env) : TG := fun v σ H Q => ∃ gh, tG (T.g gh) vs b v σ H Q
theorem PG.anyG {e : Expr} {vs : List Nat} {b : P → Env → Option Env} (h : ∀ gh, PG X e (tG (T.g gh) vs b)) : PG X e (tGg T vs b) := ⟨fun pins s σ H v u Q I r ⟨gh, q⟩ => (h gh).run pins s σ H v u Q I r q⟩
theorem HR.poke {α : Al} {W : Addr → Prop} {H : Hp} {m : Mem} {p : Addr} {o : HO} (hr : HR T α W H m) (hw : W p) (hn : ∀ n k, live m n k = true → α n k ≠ some p) (hg : T.gh p = none) : Ext α W H α W (upd H p o) ∧ HR T α W (upd H p o) m := by
  have e : Ext α W H α W (upd H p o) := ⟨fun _ _ _ h => h, fun a o' h q => ⟨by rw [upd_ne (fun z => h (by rw [z]; exact hw))]; exact q, h⟩⟩
  refine ⟨e, hr.keep e (fun a h q => ?_) fun a o' hl h q => ?_⟩
  · by_cases z : a = p
    · rw [z, upd_same] at q; cases q
    · rw [upd_ne z] at q; exact hr.wd a h q
  · have z : a ≠ p := by
      rintro rfl
      rcases hl with ⟨n, k, h1, h2⟩ | ⟨u, h1⟩
      · exact hn n k h1 h2
      · rw [hg] at h1; cases h1
    exact ⟨by rw [upd_ne z]; exact q, h⟩
def ghUp (T : Tb) (p : Addr) (o : HO) : Addr → Option HO := fun a => if a = p then some o else T.gh a
theorem HR.hide {α : Al} {W : Addr → Prop} {H : Hp} {m : Mem} {p : Addr} {o : HO} (hr : HR T α W H m) (hw : W p) (ho : H p = some o) (hn : ∀ n k, live m n k = true → α n k ≠ some p) : HR (T.g (ghUp T p o)) α W H m := by
  refine hr.gh fun a u q => ?_
  unfold ghUp at q
  by_cases z : a = p
  · rw [if_pos z] at q
    cases q
    subst z
    exact ⟨hw, ho, hn⟩
  · rw [if_neg z] at q
    exact hr.gho a u q
theorem HR.show_ {α : Al} {W : Addr → Prop} {H : Hp} {m : Mem} {p : Addr} {o : HO} (hr : HR (T.g (ghUp T p o)) α W H m) (hg : T.gh p = none) : HR T α W H m ∧ W p ∧ H p = some o ∧ ∀ n k, live m n k = true → α n k ≠ some p := by
  have q := hr.gho p o (if_pos rfl)
  refine ⟨HR.gh (T := T.g (ghUp T p o)) (gh := T.gh) hr fun a u h => hr.gho a u ?_, q⟩
  show ghUp T p o a = some u
  unfold ghUp
  rw [if_neg (fun z => by rw [z, hg] at h; cases h)]
  exact h
theorem Hg.hid {β : Type} {α : Al} {W : Addr → Prop} {H : Hp} {o : Out β} {Q Q' : β → Mem → Al → (Addr → Prop) → Hp → Prop} {p : Addr} {u : HO} (h : Hg T α W H o Q) (hg : T.gh p = none)
    (f : ∀ b m α' W' H', Ext α W H α' W' H' → HR T α' W' H' m → W' p → H' p = some u → (∀ n k, live m n k = true → α' n k ≠ some p) → Q b m α' W' H' → Q' b m α' W' H') : Hg (T.g (ghUp T p u)) α W H o Q' := by
  unfold Hg at h ⊢
  split at h
  · intro α' W' H' e hr
    obtain ⟨h1, h2, h3, h4⟩ := hr.show_ hg
    exact f _ _ _ _ _ e h1 h2 h3 h4 (h α' W' H' e h1)
  · exact h
theorem wipe_2 {σ σ2 : L2.St} {vs : List Nat} (h : Off vs (L2.wipe σ vs) σ2) : L2.wipe σ2 vs = L2.wipe σ vs :=
  wipe_off ⟨by rw [h.1, wipe_length], fun i hi => by rw [h.2 i hi, wipe_out hi]⟩
theorem lc_red {vs : List Nat} {b : P → Env → Option Env} {fi : Env → Mem → Out (List P × (Mem → Bool))} {fifs : Env → Mem → Out Bool} {fe : Ev} {σ : L2.St} {H : Hp} {Q : VK} (h : tX T (lcO vs b fi fifs fe) σ H Q) : tLc (tI T fi) (tGg T vs b) (tTg T fifs) (tDg T fe) vs σ H Q := by
  obtain ⟨α, W, ρ, m, hr, hs, h⟩ := h
  unfold lcO at h
  refine ⟨α, W, ρ, m, hr, hs, h.bind.mono fun w m1 α1 W1 H1 e1 hr1 h1 J hJ D hD => ?_⟩
  obtain ⟨xs, g⟩ := w
  dsimp only at h1 hJ
  have hs1 := hs.ext e1
  have hgD := hr1.noGh hD
  refine ⟨fun i n H' => n = xs.length - i ∧ i ≤ xs.length ∧ ∃ α' W' m' acc accV, Ext α1 W1 H1 α' W' H' ∧ HR T α' W' H' m' ∧ W' D ∧ H' D = some (.lst accV) ∧ RpL T W' H' acc accV ∧ (∀ n k, live m' n k = true → α' n k ≠ some D) ∧
    Hx T α' W' H' ((compL g (stepO vs b fifs fe ρ) (xs.drop i) acc m').bind fun l m2 => if l.length ≤ line then .ok (.p (.lst l)) m2 else .bad) Q, ⟨xs.length, by simp, Nat.zero_le _, ?_⟩, ?_⟩
  · exact ⟨α1, wUp W1 D, m1, [], [], .hid hD, hr1.hid hD, .inr rfl, upd_same, by simp only [RpL], hr1.noAl hD, Hx.from (.hid hD) h1⟩
  · rintro i n H' ⟨rfl, hi, α', W', m', acc, accV, e2, hr2, hw, hD2, ra, hn, h2⟩
    have hgd : g m' = true := by
      cases q : g m' with
      | true => rfl
      | false =>
        exfalso
        have : compL g (stepO vs b fifs fe ρ) (xs.drop i) acc m' = .bad := by
          cases xs.drop i <;> · unfold compL; rw [q]; rfl
        rw [this] at h2
        exact h2.elim id id
    obtain ⟨hstop, hgo⟩ := hJ α' W' H' m' e2 hr2 hgd
    by_cases hlt : i < xs.length
    · right
      have hd : xs.drop i = xs[i] :: xs.drop (i + 1) := List.drop_eq_getElem_cons hlt
      rw [hd] at h2
      unfold compL at h2
      rw [hgd] at h2
      rw [if_pos rfl] at h2
      obtain ⟨hg1, hg2⟩ := hgo i xs[i] (List.getElem?_eq_getElem hlt)
      refine ⟨hg1, fun H' => ∃ α' W' m' acc accV, Ext α1 W1 H1 α' W' H' ∧ HR T α' W' H' m' ∧ W' D ∧ H' D = some (.lst accV) ∧ RpL T W' H' acc accV ∧ (∀ n k, live m' n k = true → α' n k ≠ some D) ∧
        Hx T α' W' H' ((compL g (stepO vs b fifs fe ρ) (xs.drop (i + 1)) acc m').bind fun l m2 => if l.length ≤ line then .ok (.p (.lst l)) m2 else .bad) Q, fun H'' q => ⟨xs.length - (i + 1), by omega, rfl, hlt, q⟩, fun x H3 yl => ?_⟩
      obtain ⟨gr, rx⟩ := hg2 x H3 yl
      have e3 : Ext α' W' H' α' W' H3 := gr.ext
      have hr3 := gr.hr hr2
      have hD3 := gr.keep hD2
      rw [Out.bind_assoc] at h2
      have h3 := Hx.from e3 h2
      have e13 := e2.trans e3
      have ra3 := ra.ext e3
      -- the hidden list
      have hrG := hr3.hide hw hD3 hn
      unfold stepO at h3
      cases hb : b xs[i] (wipe ρ vs) with
      | none => rw [hb] at h3; exact (h3.elim id id).elim
      | some ρ1 =>
        rw [hb] at h3
        refine ⟨ghUp T D (.lst accV), α', W', wipe ρ vs, m', xs[i], ρ1, hrG, by rw [RS_ge]; exact wipe_rs (hs1.ext e13) vs, by rw [Rp_ge]; exact rx, hb, fun σ2 hs2 off => ⟨wipe_2 off, ?_⟩⟩
        have hs2 : RS T α' W' H3 ρ1 σ2 := by rw [RS_ge] at hs2; exact hs2
        refine ⟨ghUp T D (.lst accV), α', W', ρ1, m', hrG, by rw [RS_ge]; exact hs2, ?_⟩
        -- the tests
        dsimp only at h3
        rw [Out.bind_assoc] at h3
        refine h3.bind.hid hgD fun t m4 α4 W4 H4 e4 hr4 hw4 hD4 hn4 h4 => ?_
        have e14 := e13.trans e4
        cases t with
        | false => exact ⟨α4, W4, m4, acc, accV, e14, hr4, hw4, hD4, ra3.ext e4, hn4, by rw [if_neg Bool.false_ne_true, Out.bind_ok, List.append_nil] at h4; exact h4⟩
        | true =>
          rw [if_pos rfl, Out.bind_assoc] at h4
          refine ⟨ghUp T D (.lst accV), α4, W4, ρ1, m4, hr4.hide hw4 hD4 hn4, by rw [RS_ge]; exact hs2.ext e4, ?_⟩
          refine h4.bind.hid hgD fun d m5 α5 W5 H5 e5 hr5 hw5 hD5 hn5 h5 v rv => ?_
          cases d with
          | p y =>
            have rv : Rp T W5 H5 y v := by
              have rv : RD (T.g _) α5 W5 H5 (.p y) v := rv
              rw [RD_ge] at rv; exact rv
            have h5 : Hx T α5 W5 H5 ((compL g (stepO vs b fifs fe ρ) (xs.drop (i + 1)) (acc ++ [y]) m5).bind fun l m2 => if l.length ≤ line then .ok (.p (.lst l)) m2 else .bad) Q := h5
            have ra5 := (ra3.ext e4).ext e5
            have hlen : accV.length < sizeLine := by
              rw [ra5.len, ← line_eq]
              cases q : compL g (stepO vs b fifs fe ρ) (xs.drop (i + 1)) (acc ++ [y]) m5 with
              | ok l m6 =>
                have q1 := compL_len q
                rw [q] at h5
                rw [List.length_append] at q1
                have q1 : acc.length + 1 ≤ l.length := q1
                dsimp only [Out.bind_ok] at h5
                split at h5
                · omega
                · exact (h5.elim id id).elim
              | exn _ _ _ => rw [q] at h5; exact (h5.elim id id).elim
              | bad => rw [q] at h5; exact (h5.elim id id).elim
            obtain ⟨ep, hrp⟩ := hr5.poke (o := .lst (accV ++ [v])) hw5 hn5 hgD
            refine ⟨accV, hD5, hlen, α5, W5, m5, acc ++ [y], accV ++ [v], (e14.trans e5).trans ep, hrp, hw5, upd_same, ?_, hn5, Hx.from ep h5⟩
            exact (ra5.ext ep).app (by simp only [RpL]; exact ⟨v, [], rfl, Rp.ext ep _ _ rv, rfl⟩)
          | _ => exact (h5.elim id id).elim
    · left
      have hi' : i = xs.length := by omega
      subst hi'
      rw [List.drop_length] at h2
      unfold compL at h2
      rw [hgd, if_pos rfl] at h2
      refine ⟨hstop, ?_⟩
      dsimp only [Out.bind_ok] at h2
      split at h2
      · exact h2.F α' W' H' accV D .refl hr2 hw hD2 ra hn hgD
      · exact (h2.elim id id).elim
section
variable {elt tg iter : Expr} {ifs : List Expr} {scope : Scope} {own : List (Str × Nat)} {pos : Pos} {fi : Env → Mem → Out (List P × (Mem → Bool))} {b : P → Env → Option Env} {fifs : Env → Mem → Out Bool} {fe : Ev}
theorem g_lc (hX : CxOk T X) (hi : PI X tg iter (tI T fi)) (ok : BlkOk X.N X.env.scope scope own)
    (hg : ∀ gh (s : Shared) (H : Hp) (C : Addr) (cl : List (Str × Addr)) (fp : List Addr), PG (X.blk s H scope (compEnvC scope cl C X.env) fp) tg (tG (T.g gh) (own.map (·.2)) b))
    (ht : ∀ gh (s : Shared) (H : Hp) (C : Addr) (cl : List (Str × Addr)) (fp : List Addr), PTs (X.blk s H scope (compEnvC scope cl C X.env) fp) ifs (tT (T.g gh) fifs))
    (he : ∀ gh (s : Shared) (H : Hp) (C : Addr) (cl : List (Str × Addr)) (fp : List Addr), PE (X.blk s H scope (compEnvC scope cl C X.env) fp) elt (tD (T.g gh) fe)) (hs : ∀ x, foldedSetIterable iter X.env x = pure x) :
    PE X (.ListComp elt [⟨tg, iter, ifs, 0⟩] scope pos) (tX T (lcO (own.map (·.2)) b fi fifs fe)) :=
  PE.weak (pe_lc hX.calm hX.nd hi ok (fun s H C cl fp => PG.anyG fun gh => hg gh s H C cl fp) (fun s H C cl fp => PTs.anyG fun gh => ht gh s H C cl fp) (fun s H C cl fp => PE.anyG fun gh => he gh s H C cl fp) hs) fun σ H Q h => lc_red h
def allocO (al : Bool) (f : Ev) : Ev := if al then evAlloc f else f
theorem tX_alloc {f : Ev} {σ : L2.St} {H : Hp} {Q : VK} (h : tD T (evAlloc f) σ H Q) : tX T f σ H Q := by
  obtain ⟨α, W, ρ, m, h1, h2, h3⟩ := h
  refine ⟨α, W, ρ, m, h1, h2, .inr ?_⟩
  unfold evAlloc at h3
  cases q : f ρ m with
  | ok d m1 =>
    rw [q] at h3
    cases d with
    | p x =>
      cases x with
      | lst l => exact Hg.alloc h3
      | _ => exact h3.elim
    | _ => exact h3.elim
  | exn _ _ _ => rw [q] at h3; exact h3.elim
  | bad => rw [q] at h3; exact h3.elim
theorem tX_al {f : Ev} {al : Bool} {σ : L2.St} {H : Hp} {Q : VK} (h : tD T (allocO al f) σ H Q) : tX T f σ H Q := by
  cases al with
  | true => exact tX_alloc h
  | false => obtain ⟨α, W, ρ, m, h1, h2, h3⟩ := h; exact ⟨α, W, ρ, m, h1, h2, .inl h3⟩
end
/-! ### statements -/
/-- what is wanted behind a statement -/
def endS (T : Tb) (D : Ends) : Fl → Mem → Al → (Addr → Prop) → Hp → Prop := fun f _ α W H => match f with
  | .nx ρ => ∀ σ, RS T α W H ρ σ → D.nx σ H
  | .rt d => ∀ v, RD T α W H d v → D.rt v H
  | .bk ρ => ∀ σ, RS T α W H ρ σ → D.bk σ H
  | .ct ρ => ∀ σ, RS T α W H ρ σ → D.ct σ H
def tS (T : Tb) (f : Es) : TS := fun D σ H => ∃ α W ρ m, HR T α W H m ∧ RS T α W H ρ σ ∧ Hg T α W H (f ρ m) (endS T D)
theorem PS.weak {st : Stmt} {t t' : TS} (h : PS X st t) (w : ∀ D σ H, t' D σ H → t D σ H) : PS X st t' := ⟨fun pins s σ H D I hq => h.run pins s σ H D I (w D σ H hq)⟩
theorem PSs.weak {st : List Stmt} {t t' : TS} (h : PSs X st t) (w : ∀ D σ H, t' D σ H → t D σ H) : PSs X st t' := ⟨fun pins s σ H D I hq => h.run pins s σ H D I (w D σ H hq)⟩
theorem s_nil : PSs X [] (tS T fun ρ m => .ok (.nx ρ) m) := PSs.weak pss_nil fun D σ H ⟨α, W, ρ, m, hr, hs, h⟩ => h.here hr σ hs
theorem s_cons {st : Stmt} {sts : List Stmt} {f g : Es} (h1 : PS X st (tS T f)) (h2 : PSs X sts (tS T g)) : PSs X (st :: sts) (tS T (seqO f g)) :=
  PSs.weak (pss_cons h1 h2) fun D σ H ⟨α, W, ρ, m, hr, hs, h⟩ => ⟨α, W, ρ, m, hr, hs, Hg.mono h.bind fun fl m1 α1 W1 H1 e1 hr1 h1 => by
    cases fl with
    | nx ρ1 => exact fun σ1 hs1 => ⟨α1, W1, ρ1, m1, hr1, hs1, h1⟩
    | rt d => exact h1.here hr1
    | bk ρ1 => exact h1.here hr1
    | ct ρ1 => exact h1.here hr1⟩
theorem s_expr {e : Expr} {fe : Ev} {pos : Pos} (he : PE X e (tD T fe)) (hs : swapsWith e none pos.line X.env = pure false) : PS X (.Expr e pos) (tS T fun ρ m => (fe ρ m).bind fun _ m1 => .ok (.nx ρ) m1) :=
  PS.weak (ps_expr he hs) fun D σ H ⟨α, W, ρ, m, hr, hs, h⟩ => ⟨α, W, ρ, m, hr, hs, h.bind.mono fun d m1 α1 W1 H1 e1 hr1 h1 v rv => h1.here hr1 σ (hs.ext e1)⟩
theorem s_ret {e : Expr} {fe : Ev} {pos : Pos} (he : PE X e (tD T fe)) : PS X (.Return (some e) pos) (tS T fun ρ m => (fe ρ m).bind fun d m1 => .ok (.rt d) m1) :=
  PS.weak (ps_ret he) fun D σ H ⟨α, W, ρ, m, hr, hs, h⟩ => ⟨α, W, ρ, m, hr, hs, h.bind.mono fun d m1 α1 W1 H1 e1 hr1 h1 v rv => h1.here hr1 v rv⟩
theorem s_retn {pos : Pos} : PS X (.Return none pos) (tS T fun _ m => .ok (.rt (.p .non)) m) :=
  PS.weak ps_retN fun D σ H ⟨α, W, ρ, m, hr, hs, h⟩ => h.here hr .non (by simp only [RD, Rp])
theorem s_pass {pos : Pos} : PS X (.Pass pos) (tS T fun ρ m => .ok (.nx ρ) m) := PS.weak ps_pass fun D σ H ⟨α, W, ρ, m, hr, hs, h⟩ => h.here hr σ hs
theorem s_brk {pos : Pos} : PS X (.Break pos) (tS T fun ρ m => .ok (.bk ρ) m) := PS.weak ps_break fun D σ H ⟨α, W, ρ, m, hr, hs, h⟩ => h.here hr σ hs
theorem s_cont {pos : Pos} : PS X (.Continue pos) (tS T fun ρ m => .ok (.ct ρ) m) := PS.weak ps_continue fun D σ H ⟨α, W, ρ, m, hr, hs, h⟩ => h.here hr σ hs
theorem s_if {c : Expr} {a b : List Stmt} {fc : Ev} {fa fb : Es} {pos : Pos} (hc : PT X c (tT T (tO fc))) (ha : PSs X a (tS T fa)) (hb : PSs X b (tS T fb)) : PS X (.If c a b pos) (tS T fun ρ m => (tO fc ρ m).bind fun t m1 => if t then fa ρ m1 else fb ρ m1) :=
  PS.weak (ps_if hc ha hb) fun D σ H ⟨α, W, ρ, m, hr, hs, h⟩ => ⟨α, W, ρ, m, hr, hs, h.bind.mono fun t m1 α1 W1 H1 e1 hr1 h1 => by
    cases t with
    | true => exact ⟨α1, W1, ρ, m1, hr1, hs.ext e1, h1⟩
    | false => exact ⟨α1, W1, ρ, m1, hr1, hs.ext e1, h1⟩⟩
def noFld (d : D) : Bool := match d with
  | .ref _ (_ + 1) => false
  | _ => true
theorem s_set {i : Nat} {x : Str} {e : Expr} {fe : Ev} {pos pos' : Pos} (hN : X.N.Nodup) (hi : X.N[i]? = some x) (hx : Loc X.env.scope x) (he : PE X e (tD T fe)) (hs : swapsWith e (some (.Name x pos')) pos.line X.env = pure false) (hf : X.fn x = true ∨ X.env.scope.names.lookup x = some .local) :
    PS X (.Assign [.Name x pos'] e pos) (tS T (setO i fe)) :=
  PS.weak (ps_set hN hi hx he hs hf) fun D σ H ⟨α, W, ρ, m, hr, hs, h⟩ => ⟨α, W, ρ, m, hr, hs, h.bind.mono fun d m1 α1 W1 H1 e1 hr1 h1 v rv => h1.here hr1 _ ((hs.ext e1).set i rv)⟩
end Lot
/-! LotK: what is written; assignments. -/
namespace Lot
open PySem PySem.Spec PyProof.Rows L2
variable {T : Tb} {X : Cx}
theorem getM_set {m : Mem} {n q : Nat} {o : Obj} (h : n < m.length) : getM (m.set n o) q = if q = n then o else getM m q := by
  unfold getM
  by_cases e : q = n
  · subst e; rw [if_pos rfl, List.getElem?_set_self h]; rfl
  · rw [if_neg e, List.getElem?_set_ne (fun z => e z.symm)]
theorem cell_lt {m : Mem} {n k : Nat} {x : P} (h : cell m n k = some x) : n < m.length := live_lt (live_cell h)
/-- the object that holds a cell: itself, or an instance's field -/
theorem cell_cases {m : Mem} {n k : Nat} {x : P} (h : cell m n k = some x) : (k = 0 ∧ getM m n = .val x) ∨ ∃ j c fs, k = j + 1 ∧ getM m n = .ins c fs ∧ fs[j]? = some (true, x) := by
  unfold cell at h
  split at h
  · rename_i e; cases h; exact .inl ⟨rfl, e⟩
  · rename_i c fs j e
    split at h
    · rename_i y e2
      cases h
      exact .inr ⟨j, c, fs, rfl, e, e2⟩
    · cases h
  · cases h
theorem setCell_len {m : Mem} {n k : Nat} {x : P} : (setCell m n k x).length = m.length := by
  unfold setCell
  split <;> simp
def putObj (o : Obj) (k : Nat) (y : P) : Obj := match o, k with
  | .val _, 0 => .val y
  | .ins c fs, k + 1 => .ins c (fs.set k (true, y))
  | o, _ => o
theorem getM_setCell {m : Mem} {n k q : Nat} {x y : P} (h : cell m n k = some x) : getM (setCell m n k y) q = if q = n then putObj (getM m n) k y else getM m q := by
  have hl := cell_lt h
  rcases cell_cases h with ⟨rfl, e⟩ | ⟨j, c, fs, rfl, e, e2⟩
  · unfold setCell
    rw [e]
    exact getM_set hl
  · unfold setCell
    rw [e]
    exact getM_set hl
theorem cell_setCell {m : Mem} {n k q j : Nat} {x y : P} (h : cell m n k = some x) : cell (setCell m n k y) q j = if q = n ∧ j = k then some y else cell m q j := by
  rcases cell_cases h with ⟨rfl, e⟩ | ⟨i, c, fs, rfl, e, e2⟩
  · have g := getM_setCell (q := q) (y := y) h
    by_cases eq : q = n
    · subst eq
      rw [if_pos rfl, e] at g
      have g : getM (setCell m q 0 y) q = .val y := g
      unfold cell
      rw [g, e]
      cases j with
      | zero => rw [if_pos ⟨rfl, rfl⟩]; rfl
      | succ j => rw [if_neg (by omega)]; rfl
    · rw [if_neg eq] at g
      unfold cell
      rw [g, if_neg (fun z => eq z.1)]
  · have g := getM_setCell (q := q) (y := y) h
    have hi : i < fs.length := by
      rcases Nat.lt_or_ge i fs.length with z | z
      · exact z
      · rw [List.getElem?_eq_none z] at e2; cases e2
    by_cases eq : q = n
    · subst eq
      rw [if_pos rfl, e] at g
      have g : getM (setCell m q (i + 1) y) q = .ins c (fs.set i (true, y)) := g
      unfold cell
      rw [g, e]
      cases j with
      | zero => rw [if_neg (by omega)]
      | succ j =>
        show (match (fs.set i (true, y))[j]? with | some (true, x) => some x | _ => none) = if q = q ∧ j + 1 = i + 1 then some y else (match fs[j]? with | some (true, x) => some x | _ => none)
        by_cases ej : j = i
        · subst ej
          rw [List.getElem?_set_self hi, if_pos ⟨rfl, rfl⟩]
        · rw [List.getElem?_set_ne (fun z => ej z.symm), if_neg (by omega)]
    · rw [if_neg eq] at g
      unfold cell
      rw [g, if_neg (fun z => eq z.1)]
theorem live_setCell {m : Mem} {n k q j : Nat} {x y : P} (h : cell m n k = some x) : live (setCell m n k y) q j = true → live m q j = true := by
  intro hl
  by_cases e : q = n ∧ j = k
  · obtain ⟨rfl, rfl⟩ := e
    exact live_cell h
  · have g := getM_setCell (q := q) (y := y) h
    unfold live at hl ⊢
    rw [cell_setCell h, if_neg e] at hl
    rw [g] at hl
    by_cases eq : q = n
    · subst eq
      rw [if_pos rfl] at hl
      rcases cell_cases h with ⟨rfl, e1⟩ | ⟨i, c, fs, rfl, e1, e2⟩
      · rw [e1] at hl ⊢
        dsimp only [putObj] at hl ⊢
        cases j with
        | zero => exact absurd ⟨rfl, rfl⟩ e
        | succ j => exact hl
      · rw [e1] at hl ⊢
        dsimp only [putObj] at hl ⊢
        cases j with
        | zero => rfl
        | succ j => exact hl
    · rw [if_neg eq] at hl
      exact hl
theorem HR.write {α : Al} {W : Addr → Prop} {H : Hp} {m : Mem} {n k : Nat} {a : Addr} {x y : P} {o : HO} (hr : HR T α W H m) (hc : cell m n k = some x) (ha : α n k = some a) (hA : At T W (upd H a o) y a) : Ext α W H α W (upd H a o) ∧ HR T α W (upd H a o) (setCell m n k y) := by
  obtain ⟨b, hb, hw, _⟩ := hr.cel n k x hc
  rw [ha] at hb; cases hb
  have e : Ext α W H α W (upd H a o) := ⟨fun _ _ _ h => h, fun b o' h q => ⟨by rw [upd_ne (fun z => h (by rw [z]; exact hw))]; exact q, h⟩⟩
  refine ⟨e, ⟨fun b h q => ?_, fun q j h => hr.out q j (by rw [setCell_len] at h; exact h), fun q j z h => ?_, fun q c fs h => ?_, fun q j q' j' b l1 l2 e1 e2 => hr.inj q j q' j' b (live_setCell hc l1) (live_setCell hc l2) e1 e2, fun b o' h => ?_⟩⟩
  · by_cases z : b = a
    · rw [z, upd_same] at q; cases q
    · rw [upd_ne z] at q; exact hr.wd b h q
  · rw [cell_setCell hc] at h
    by_cases eq : q = n ∧ j = k
    · rw [if_pos eq] at h
      obtain ⟨rfl, rfl⟩ := eq
      cases h
      exact ⟨a, ha, hw, hA⟩
    · rw [if_neg eq] at h
      obtain ⟨b, h1, h2, h3⟩ := hr.cel q j z h
      refine ⟨b, h1, h2, h3.ext e fun o' q' => ?_⟩
      rw [upd_ne]
      · exact q'
      · rintro rfl
        exact eq (hr.inj q j n k b (live_cell h) (live_cell hc) h1 ha)
  · have g := getM_setCell (q := q) (y := y) hc
    rw [g] at h
    by_cases eq : q = n
    · subst eq
      rw [if_pos rfl] at h
      rcases cell_cases hc with ⟨rfl, e1⟩ | ⟨i, c', fs', rfl, e1, e2⟩
      · rw [e1] at h; exact nomatch (show Obj.val y = .ins c fs from h)
      · rw [e1] at h
        have h : Obj.ins c' (fs'.set i (true, y)) = .ins c fs := h
        cases h
        obtain ⟨b, h1, h2, dx, xs, r, h3, h4, h5⟩ := hr.ins q _ _ e1
        have hne : b ≠ a := by
          rintro rfl
          have := hr.inj q 0 q (i + 1) b (live_ins e1) (live_cell hc) h1 ha
          omega
        refine ⟨b, h1, h2, dx, xs, r, by rw [upd_ne hne]; exact h3, h4, ?_⟩
        have key : ∀ (k i : Nat) (fs : List (Bool × P)) (xs : List V), FldsV T W H (α q) k fs xs → fs[i]? = some (true, x) → FldsV T W (upd H a o) (α q) k (fs.set i (true, y)) xs := by
          intro k i fs
          induction fs generalizing k i with
          | nil => intro xs h e; simp at e
          | cons f fs ih =>
            intro xs h e'
            obtain ⟨v, r, h1, h2, h3⟩ := h
            cases i with
            | zero =>
              simp at e'
              subst e'
              exact ⟨v, r, h1, h2, h3.ext e fun _ _ z => z⟩
            | succ i => exact ⟨v, r, h1, h2.ext e fun _ z => z, ih (k + 1) i r h3 (by simpa using e')⟩
        exact key 0 i fs' xs h5 e2
    · rw [if_neg eq] at h
      obtain ⟨b, h1, h2, h3⟩ := hr.ins q c fs h
      refine ⟨b, h1, h2, h3.ext e (fun o' q' => ?_) fun _ _ z => z⟩
      rw [upd_ne]
      · exact q'
      · rintro rfl
        exact eq (hr.inj q 0 n k b (live_ins h) (live_cell hc) h1 ha).1
  · obtain ⟨h1, h2, h3⟩ := hr.gho b o' h
    have hne : b ≠ a := by
      rintro rfl
      exact h3 n k (live_cell hc) ha
    exact ⟨h1, by rw [upd_ne hne]; exact h2, fun q j l => h3 q j (live_setCell hc l)⟩
/-! ### assignments -/
theorem s_unp {es : List Expr} {k : Nat} {is : List Nat} {e : Expr} {fe : Ev} {pos pos' : Pos} (hX : CxOk T X) (he : PE X e (tD T fe)) (h : PGs X es (tGs T is)) (hn : (assignEach es X.env).length = is.length) (hst : (assignEach es X.env).findIdx? (·.1) = none)
    (hs : swapsWithSole [.Tuple es k pos'] e pos.line X.env = pure false) (hw : swappedStores [.Tuple es k pos'] e X.env = pure none) (h1 : (assignEach [.Tuple es k pos'] X.env).map (·.2) = [assign (.Tuple es k pos') X.env]) :
    PS X (.Assign [.Tuple es k pos'] e pos) (tS T (unpO is fe)) :=
  PS.weak (ps_asg he (pg_tup hX.calm h hn hst) hs hw h1) fun D σ H ⟨α, W, ρ, m, hr, hs, h⟩ => ⟨α, W, ρ, m, hr, hs, h.bind.mono fun d m1 α1 W1 H1 e1 hr1 h1 v rv => by
    split at h1
    · rename_i xs ex
      split at h1
      · rename_i hl
        obtain ⟨a, vs, rfl, h3, h4⟩ := (rg_rg hr1 rv ex).tup
        rw [hX.K]
        exact ⟨a, vs, rfl, h3, by rw [h4.len, hl], α1, W1, ρ, m1, xs, hr1, hs.ext e1, h4, hl.symm, fun σ' hs' _ => h1.here hr1 σ' hs'⟩
      · exact h1.elim
    · exact h1.elim⟩
theorem putK_get {κ : Type} [DecidableEq κ] (kvs : List (κ × V)) (k : κ) (v : V) : L2.putK kvs k v = if (valV kvs k).isSome then kvs.map (fun kv => if kv.1 = k then (kv.1, v) else kv) else kvs ++ [(k, v)] := by
  unfold L2.putK
  rw [valV_any]
theorem putK_keys {κ : Type} [DecidableEq κ] (kvs : List (κ × V)) (k : κ) (v : V) (nd : (kvs.map (·.1)).Nodup) : ((L2.putK kvs k v).map (·.1)).Nodup := by
  unfold L2.putK
  split
  · have : (kvs.map (fun kv => if kv.1 = k then (kv.1, v) else kv)).map (·.1) = kvs.map (·.1) := by
      rw [List.map_map]
      refine List.map_congr_left fun kv _ => ?_
      show (if kv.1 = k then (kv.1, v) else kv).1 = kv.1
      split <;> rfl
    rw [this]; exact nd
  · rename_i h
    rw [List.map_append, List.nodup_append]
    refine ⟨nd, by simp, fun a ha b hb => ?_⟩
    simp only [List.map_cons, List.map_nil, List.mem_singleton] at hb
    subst hb
    rintro rfl
    refine h ?_
    obtain ⟨kv, h1, h2⟩ := List.mem_map.mp ha
    exact List.any_eq_true.mpr ⟨kv, h1, by simpa using h2⟩
section
variable {W : Addr → Prop} {H : Hp}
theorem RpD.app : ∀ {l k : List P} {a b : List (Key × V)}, RpD T W H l a → RpD T W H k b → RpD T W H (l ++ k) (a ++ b)
  | [], _, _, _, h, h' => by simp only [RpD] at h; subst h; exact h'
  | x :: r, k, _, b, h, h' => by
    obtain ⟨c, d, κ', y, q, rfl, rfl, h1, h2, h3⟩ := h.cons
    have ih := RpD.app h3 h'
    simp only [List.cons_append, RpD, RpL]
    exact ⟨κ', y, _, rfl, ⟨kV κ', [y], rfl, rp_ky h1, y, [], rfl, h2, rfl⟩, ih⟩
theorem RpT.app : ∀ {l k : List P} {a b : List (List Key × V)}, RpT T W H l a → RpT T W H k b → RpT T W H (l ++ k) (a ++ b)
  | [], _, _, _, h, h' => by simp only [RpT] at h; subst h; exact h'
  | x :: r, k, _, b, h, h' => by
    obtain ⟨c, d, κ', y, q, rfl, rfl, h1, h2, h3⟩ := h.cons
    have ih := RpT.app h3 h'
    simp only [List.cons_append, RpT]
    exact ⟨κ', y, _, rfl, h1, h2, ih⟩
theorem mapT {k v : P} {κ : List Key} {u : V} (hk : kyT k = some κ) (rv : Rp T W H v u) : ∀ {l : List P} {kvs : List (List Key × V)}, RpT T W H l kvs → RpT T W H (l.map fun kv => if kEq true (keyOf kv) k then .tup [keyOf kv, v] else kv) (kvs.map fun kv => if kv.1 = κ then (kv.1, u) else kv)
  | [], _, h => by simp only [RpT] at h; subst h; simp only [List.map_nil, RpT]
  | x :: r, _, h => by
    obtain ⟨a, b, κ', y, q, rfl, rfl, h1, h2, h3⟩ := h.cons
    have ih := mapT hk rv h3
    have ek : kEq true (keyOf (.tup [a, b])) k = decide (κ' = κ) := by simp [kEq, keyOf, h1, hk]
    simp only [List.map_cons]
    rw [ek]
    by_cases e : κ' = κ
    · subst e
      simp only [decide_true, if_true, RpT, keyOf]
      exact ⟨κ', u, _, rfl, h1, rv, ih⟩
    · rw [if_neg (by simpa using e), if_neg e]
      simp only [RpT]
      exact ⟨κ', y, _, rfl, h1, h2, ih⟩
theorem mapD {k v : P} {κ : Key} {u : V} (hk : ky k = some κ) (rv : Rp T W H v u) : ∀ {l : List P} {kvs : List (Key × V)}, RpD T W H l kvs → RpD T W H (l.map fun kv => if kEq false (keyOf kv) k then .tup [keyOf kv, v] else kv) (kvs.map fun kv => if kv.1 = κ then (kv.1, u) else kv)
  | [], _, h => by simp only [RpD] at h; subst h; simp only [List.map_nil, RpD]
  | x :: r, _, h => by
    obtain ⟨a, b, κ', y, q, rfl, rfl, h1, h2, h3⟩ := h.cons
    have ih := mapD hk rv h3
    have ek : kEq false (keyOf (.tup [a, b])) k = decide (κ' = κ) := by simp [kEq, keyOf, h1, hk]
    simp only [List.map_cons]
    rw [ek]
    by_cases e : κ' = κ
    · subst e
      simp only [decide_true, if_true, RpD, RpL, keyOf]
      exact ⟨κ', u, _, rfl, ⟨kV κ', [u], rfl, rp_ky h1, u, [], rfl, rv, rfl⟩, ih⟩
    · rw [if_neg (by simpa using e), if_neg e]
      simp only [RpD, RpL]
      exact ⟨κ', y, _, rfl, ⟨kV κ', [y], rfl, rp_ky h1, y, [], rfl, h2, rfl⟩, ih⟩
theorem putD {k v : P} {κ : Key} {u : V} (hk : ky k = some κ) (rv : Rp T W H v u) {l : List P} {kvs : List (Key × V)} (h : RpD T W H l kvs) : RpD T W H (putK false l k v) (L2.putK kvs κ u) := by
  rw [putK_get, (findD hk h).isSome]
  unfold putK
  split
  · exact mapD hk rv h
  · exact h.app (by simp only [RpD, RpL]; exact ⟨κ, u, [], rfl, ⟨kV κ, [u], rfl, rp_ky hk, u, [], rfl, rv, rfl⟩, rfl⟩)
theorem putT {k v : P} {κ : List Key} {u : V} (hk : kyT k = some κ) (rv : Rp T W H v u) {l : List P} {kvs : List (List Key × V)} (h : RpT T W H l kvs) : RpT T W H (putK true l k v) (L2.putK kvs κ u) := by
  rw [putK_get, (findT hk h).isSome]
  unfold putK
  split
  · exact mapT hk rv h
  · exact h.app (by simp only [RpT]; exact ⟨κ, u, [], rfl, hk, rv, rfl⟩)
end
end Lot
/-! LotKa: dict comprehensions. -/
namespace Lot
open PySem PySem.Spec PyProof.Rows L2
variable {T : Tb} {X : Cx}
theorem foldD_app (l : List P) (y z : P) : foldD (l ++ [.tup [y, z]]) [] = putK false (foldD l []) y z := by
  unfold foldD
  rw [List.foldl_append]
  rfl
theorem putK_len (kvs : List (Key × V)) (k : Key) (v : V) : (L2.putK kvs k v).length ≤ kvs.length + 1 := length_putK kvs k v
theorem rp_key {W : Addr → Prop} {H : Hp} {a : P} {k : Key} {u : V} (h : ky a = some k) (r : Rp T W H a u) : u = kV k := by
  have h3 : Rp T W H a (kV k) := rp_ky h
  cases a <;> first | cases h | skip
  all_goals (simp only [Rp] at r; subst r; rfl)
theorem dc_red {vs : List Nat} {b : P → Env → Option Env} {fi : Env → Mem → Out (List P × (Mem → Bool))} {fifs : Env → Mem → Out Bool} {fk fv : Ev} {σ : L2.St} {H : Hp} {Q : VK} (h : tD T (dcO vs b fi fifs fk fv) σ H Q) : tDc (tI T fi) (tGg T vs b) (tTg T fifs) (tDg T fk) (tDg T fv) vs σ H Q := by
  obtain ⟨α, W, ρ, m, hr, hs, h⟩ := h
  unfold dcO at h
  refine ⟨α, W, ρ, m, hr, hs, h.bind.mono fun w m1 α1 W1 H1 e1 hr1 h1 J hJ D hD => ?_⟩
  obtain ⟨xs, g⟩ := w
  dsimp only at h1 hJ
  have hs1 := hs.ext e1
  have hgD := hr1.noGh hD
  refine ⟨fun i n H' => n = xs.length - i ∧ i ≤ xs.length ∧ ∃ α' W' m' acc kvs, Ext α1 W1 H1 α' W' H' ∧ HR T α' W' H' m' ∧ W' D ∧ H' D = some (.dK kvs) ∧ RpD T W' H' (foldD acc []) kvs ∧ (kvs.map (·.1)).Nodup ∧ kvs.length ≤ acc.length ∧ (∀ n k, live m' n k = true → α' n k ≠ some D) ∧
    Hg T α' W' H' ((compL g (stepD vs b fifs fk fv ρ) (xs.drop i) acc m').bind fun l m2 => if l.length ≤ line then .ok (.ref m2.length 0) (m2 ++ [.val (.dic false (foldD l []))]) else .bad) (fin T Q), ⟨xs.length, by simp, Nat.zero_le _, ?_⟩, ?_⟩
  · exact ⟨α1, wUp W1 D, m1, [], [], .hid hD, hr1.hid hD, .inr rfl, upd_same, by simp only [foldD, List.foldl_nil, RpD], by simp, Nat.le_refl _, hr1.noAl hD, Hg.from (.hid hD) h1⟩
  · rintro i n H' ⟨rfl, hi, α', W', m', acc, kvs, e2, hr2, hw, hD2, ra, nd, kl, hn, h2⟩
    have hgd : g m' = true := by
      cases q : g m' with
      | true => rfl
      | false =>
        exfalso
        have : compL g (stepD vs b fifs fk fv ρ) (xs.drop i) acc m' = .bad := by
          cases xs.drop i <;> · unfold compL; rw [q]; rfl
        rw [this] at h2
        exact h2
    obtain ⟨hstop, hgo⟩ := hJ α' W' H' m' e2 hr2 hgd
    by_cases hlt : i < xs.length
    · right
      have hd : xs.drop i = xs[i] :: xs.drop (i + 1) := List.drop_eq_getElem_cons hlt
      rw [hd] at h2
      unfold compL at h2
      rw [hgd] at h2
      rw [if_pos rfl] at h2
      obtain ⟨hg1, hg2⟩ := hgo i xs[i] (List.getElem?_eq_getElem hlt)
      refine ⟨hg1, fun H' => ∃ α' W' m' acc kvs, Ext α1 W1 H1 α' W' H' ∧ HR T α' W' H' m' ∧ W' D ∧ H' D = some (.dK kvs) ∧ RpD T W' H' (foldD acc []) kvs ∧ (kvs.map (·.1)).Nodup ∧ kvs.length ≤ acc.length ∧ (∀ n k, live m' n k = true → α' n k ≠ some D) ∧
        Hg T α' W' H' ((compL g (stepD vs b fifs fk fv ρ) (xs.drop (i + 1)) acc m').bind fun l m2 => if l.length ≤ line then .ok (.ref m2.length 0) (m2 ++ [.val (.dic false (foldD l []))]) else .bad) (fin T Q), fun H'' q => ⟨xs.length - (i + 1), by omega, rfl, hlt, q⟩, fun x H3 yl => ?_⟩
      obtain ⟨gr, rx⟩ := hg2 x H3 yl
      have e3 : Ext α' W' H' α' W' H3 := gr.ext
      have hr3 := gr.hr hr2
      have hD3 := gr.keep hD2
      rw [Out.bind_assoc] at h2
      have h3 := Hg.from e3 h2
      have e13 := e2.trans e3
      have ra3 := RpD.ext e3 _ _ ra
      have hrG := hr3.hide hw hD3 hn
      unfold stepD at h3
      cases hb : b xs[i] (wipe ρ vs) with
      | none => rw [hb] at h3; exact (show False from h3).elim
      | some ρ1 =>
        rw [hb] at h3
        refine ⟨ghUp T D (.dK kvs), α', W', wipe ρ vs, m', xs[i], ρ1, hrG, by rw [RS_ge]; exact wipe_rs (hs1.ext e13) vs, by rw [Rp_ge]; exact rx, hb, fun σ2 hs2 off => ⟨wipe_2 off, ?_⟩⟩
        have hs2 : RS T α' W' H3 ρ1 σ2 := by rw [RS_ge] at hs2; exact hs2
        refine ⟨ghUp T D (.dK kvs), α', W', ρ1, m', hrG, by rw [RS_ge]; exact hs2, ?_⟩
        dsimp only at h3
        rw [Out.bind_assoc] at h3
        refine h3.bind.hid hgD fun t m4 α4 W4 H4 e4 hr4 hw4 hD4 hn4 h4 => ?_
        have e14 := e13.trans e4
        cases t with
        | false => exact ⟨α4, W4, m4, acc, kvs, e14, hr4, hw4, hD4, RpD.ext e4 _ _ ra3, nd, kl, hn4, by rw [if_neg Bool.false_ne_true, Out.bind_ok, List.append_nil] at h4; exact h4⟩
        | true =>
          rw [if_pos rfl, Out.bind_assoc] at h4
          refine ⟨ghUp T D (.dK kvs), α4, W4, ρ1, m4, hr4.hide hw4 hD4 hn4, by rw [RS_ge]; exact hs2.ext e4, ?_⟩
          refine h4.bind.hid hgD fun d m5 α5 W5 H5 e5 hr5 hw5 hD5 hn5 h5 u ru => ?_
          cases d with
          | p y =>
            have ru : Rp T W5 H5 y u := by
              have ru : RD (T.g _) α5 W5 H5 (.p y) u := ru
              rw [RD_ge] at ru; exact ru
            have h5 : Hg T α5 W5 H5 (((fv ρ1 m5).bind fun e m4 => (asP e m4).bind fun z m4 => if kOk false y then .ok [.tup [y, z]] m4 else .bad).bind fun o m1 => (compL g (stepD vs b fifs fk fv ρ) (xs.drop (i + 1)) (acc ++ o) m1).bind fun l m2 => if l.length ≤ line then .ok (.ref m2.length 0) (m2 ++ [.val (.dic false (foldD l []))]) else .bad) (fin T Q) := by
              exact h5
            rw [Out.bind_assoc] at h5
            refine ⟨ghUp T D (.dK kvs), α5, W5, ρ1, m5, hr5.hide hw5 hD5 hn5, by rw [RS_ge]; exact (hs2.ext e4).ext e5, ?_⟩
            refine h5.bind.hid hgD fun dz m6 α6 W6 H6 e6 hr6 hw6 hD6 hn6 h6 v rv => ?_
            cases dz with
            | p z =>
              have rv : Rp T W6 H6 z v := by
                have rv : RD (T.g _) α6 W6 H6 (.p z) v := rv
                rw [RD_ge] at rv; exact rv
              by_cases hk : kOk false y = true
              · have h6 : Hg T α6 W6 H6 ((compL g (stepD vs b fifs fk fv ρ) (xs.drop (i + 1)) (acc ++ [.tup [y, z]]) m6).bind fun l m2 => if l.length ≤ line then .ok (.ref m2.length 0) (m2 ++ [.val (.dic false (foldD l []))]) else .bad) (fin T Q) := by
                  have : ((asP (.p z) m6).bind fun z m4 => if kOk false y = true then Out.ok [P.tup [y, z]] m4 else .bad) = .ok [P.tup [y, z]] m6 := if_pos hk
                  rw [this] at h6
                  exact h6
                simp only [kOk, Bool.false_eq_true, if_false] at hk
                obtain ⟨κ, ek⟩ := Option.isSome_iff_exists.mp hk
                have eu := rp_key ek ru
                have ra6 := RpD.ext e6 _ _ (RpD.ext e5 _ _ (RpD.ext e4 _ _ ra3))
                have hlen : kvs.length < sizeLine := by
                  rw [← line_eq]
                  cases q : compL g (stepD vs b fifs fk fv ρ) (xs.drop (i + 1)) (acc ++ [.tup [y, z]]) m6 with
                  | ok l m7 =>
                    have q1 := compL_len q
                    rw [q] at h6
                    rw [List.length_append] at q1
                    have q1 : acc.length + 1 ≤ l.length := q1
                    dsimp only [Out.bind_ok] at h6
                    split at h6
                    · omega
                    · exact (show False from h6).elim
                  | exn _ _ _ => rw [q] at h6; exact (show False from h6).elim
                  | bad => rw [q] at h6; exact (show False from h6).elim
                obtain ⟨ep, hrp⟩ := hr6.poke (o := .dK (L2.putK kvs κ v)) hw6 hn6 hgD
                refine ⟨kvs, κ, eu, hD6, hlen, α6, W6, m6, acc ++ [.tup [y, z]], L2.putK kvs κ v, ((e14.trans e5).trans e6).trans ep, hrp, hw6, upd_same, ?_, putK_keys kvs κ v nd, ?_, hn6, Hg.from ep h6⟩
                · rw [foldD_app]
                  exact putD ek (Rp.ext ep _ _ rv) (RpD.ext ep _ _ ra6)
                · have := putK_len kvs κ v
                  rw [List.length_append]
                  show _ ≤ acc.length + 1
                  omega
              · exfalso
                have : ((asP (.p z) m6).bind fun z m4 => if kOk false y = true then Out.ok [P.tup [y, z]] m4 else .bad) = .bad := if_neg hk
                rw [this] at h6
                exact h6
            | _ => exact (show False from h6).elim
          | _ => exact (show False from h5).elim
    · left
      have hi' : i = xs.length := by omega
      subst hi'
      rw [List.drop_length] at h2
      unfold compL at h2
      rw [hgd, if_pos rfl] at h2
      refine ⟨hstop, ?_⟩
      dsimp only [Out.bind_ok] at h2
      split at h2
      · exact h2 (aUp α' m'.length 0 D) W' H' (Ext.refl.up (hr2.out _ _ (Nat.le_refl _))) (hr2.put hw ⟨kvs, hD2, nd, ra⟩ hn hgD) (.ref D) ⟨D, aUp_same, rfl⟩
      · exact (show False from h2).elim
section
variable {kx vx tg iter : Expr} {ifs : List Expr} {scope : Scope} {own : List (Str × Nat)} {pos : Pos} {fi : Env → Mem → Out (List P × (Mem → Bool))} {b : P → Env → Option Env} {fifs : Env → Mem → Out Bool} {fk fv : Ev}
theorem g_dc (hX : CxOk T X) (hi : PI X tg iter (tI T fi)) (ok : BlkOk X.N X.env.scope scope own)
    (hg : ∀ gh (s : Shared) (H : Hp) (C : Addr) (cl : List (Str × Addr)) (fp : List Addr), PG (X.blk s H scope (compEnvC scope cl C X.env) fp) tg (tG (T.g gh) (own.map (·.2)) b))
    (ht : ∀ gh (s : Shared) (H : Hp) (C : Addr) (cl : List (Str × Addr)) (fp : List Addr), PTs (X.blk s H scope (compEnvC scope cl C X.env) fp) ifs (tT (T.g gh) fifs))
    (hk : ∀ gh (s : Shared) (H : Hp) (C : Addr) (cl : List (Str × Addr)) (fp : List Addr), PE (X.blk s H scope (compEnvC scope cl C X.env) fp) kx (tD (T.g gh) fk))
    (he : ∀ gh (s : Shared) (H : Hp) (C : Addr) (cl : List (Str × Addr)) (fp : List Addr), PE (X.blk s H scope (compEnvC scope cl C X.env) fp) vx (tD (T.g gh) fv)) (hs : ∀ x, foldedSetIterable iter X.env x = pure x) :
    PE X (.DictComp kx vx [⟨tg, iter, ifs, 0⟩] scope pos) (tD T (dcO (own.map (·.2)) b fi fifs fk fv)) :=
  PE.weak (pe_dc hX.calm hX.nd hi ok (fun s H C cl fp => PG.anyG fun gh => hg gh s H C cl fp) (fun s H C cl fp => PTs.anyG fun gh => ht gh s H C cl fp) (fun s H C cl fp => PE.anyG fun gh => hk gh s H C cl fp) (fun s H C cl fp => PE.anyG fun gh => he gh s H C cl fp) hs) fun σ H Q h => dc_red h
end
end Lot
/-! LotL: stores, loops, data made of an object. -/
namespace Lot
open PySem PySem.Spec PyProof.Rows L2
variable {T : Tb} {X : Cx}
theorem rdl2 {α : Al} {W : Addr → Prop} {H : Hp} {ds : List D} {vs : List V} (h : RDL T α W H ds vs) : vs.length = ds.length := by
  induction ds generalizing vs with
  | nil => have h : vs = [] := h; subst h; rfl
  | cons d ds ih => obtain ⟨v, r, rfl, _, h2⟩ := h; simp [ih h2]
theorem s_par {i j : Nat} {x y : Str} {a b : Expr} {fs : Env → Mem → Out (List D)} {px py pt : Pos} {kt k2 pt2} {pos : Pos} (hX : CxOk T X) (hi : X.N[i]? = some x) (hj : X.N[j]? = some y) (hij : i ≠ j)
    (hx : X.env.scope.names.lookup x = some .local) (hy : X.env.scope.names.lookup y = some .local) (ha : PA X [a, b] (tL T fs))
    (hw : swappedStores [.Tuple [.Name x px, .Name y py] kt pt] (.Tuple [a, b] k2 pt2) X.env = pure (some [x, y]))
    (hs : swapsWithSole [.Tuple [.Name x px, .Name y py] kt pt] (.Tuple [a, b] k2 pt2) pos.line X.env = pure false) :
    PS X (.Assign [.Tuple [.Name x px, .Name y py] kt pt] (.Tuple [a, b] k2 pt2) pos) (tS T (parO [i, j] fs)) :=
  PS.weak (ps_par hX.calm hX.nd hi hj hij hx hy ha hw hs) fun D σ H ⟨α, W, ρ, m, hr, hs, h⟩ => ⟨α, W, ρ, m, hr, hs, h.bind.mono fun ds m1 α1 W1 H1 e1 hr1 h1 vs rvs => by
    split at h1
    · rename_i hl
      match ds, hl with
      | [d, e], _ =>
        obtain ⟨v, r, rfl, rv, u, r', rfl, ru, rfl⟩ := rvs
        exact ⟨v, u, rfl, h1.here hr1 _ (((hs.ext e1).set i rv).set j ru)⟩
    · exact h1.elim⟩
theorem s_par3 {i j l : Nat} {x y z : Str} {a b c : Expr} {fs : Env → Mem → Out (List D)} {px py pz pt : Pos} {kt k2 pt2} {pos : Pos} (hX : CxOk T X) (hi : X.N[i]? = some x) (hj : X.N[j]? = some y) (hl : X.N[l]? = some z) (hij : i ≠ j) (hil : i ≠ l) (hjl : j ≠ l)
    (hx : X.env.scope.names.lookup x = some .local) (hy : X.env.scope.names.lookup y = some .local) (hz : X.env.scope.names.lookup z = some .local) (ha : PA X [a, b, c] (tL T fs))
    (hw : swappedStores [.Tuple [.Name x px, .Name y py, .Name z pz] kt pt] (.Tuple [a, b, c] k2 pt2) X.env = pure (some [x, y, z]))
    (hs : swapsWithSole [.Tuple [.Name x px, .Name y py, .Name z pz] kt pt] (.Tuple [a, b, c] k2 pt2) pos.line X.env = pure false) :
    PS X (.Assign [.Tuple [.Name x px, .Name y py, .Name z pz] kt pt] (.Tuple [a, b, c] k2 pt2) pos) (tS T (parO [i, j, l] fs)) :=
  PS.weak (ps_par3 hX.calm hX.nd hi hj hl hij hil hjl hx hy hz ha hw hs) fun D σ H ⟨α, W, ρ, m, hr, hs, h⟩ => ⟨α, W, ρ, m, hr, hs, h.bind.mono fun ds m1 α1 W1 H1 e1 hr1 h1 vs rvs => by
    split at h1
    · rename_i hl
      match ds, hl with
      | [d, e, g], _ =>
        obtain ⟨v, r, rfl, rv, u, r', rfl, ru, w, r'', rfl, rw', rfl⟩ := rvs
        exact ⟨v, u, w, rfl, h1.here hr1 _ ((((hs.ext e1).set i rv).set j ru).set l rw')⟩
    · exact h1.elim⟩
def tGsD (T : Tb) (is : List Nat) : TGs := fun vs σ H Q => ∃ α W ρ m ds, HR T α W H m ∧ RS T α W H ρ σ ∧ RDL T α W H ds vs ∧ is.length = ds.length ∧ ∀ σ', RS T α W H (setAllD ρ is ds) σ' → Q σ' H
theorem g_nmsD_nil : PGs X [] (tGsD T []) := PGs.weak pgs_nil fun v σ H Q ⟨α, W, ρ, m, ds, hr, hs, r, e, q⟩ => by
  have : ds = [] := List.length_eq_zero_iff.mp e.symm
  subst this
  exact ⟨r, q _ hs⟩
theorem g_nmsD_cons {i : Nat} {is : List Nat} {x : Str} {pos : Pos} {es : List Expr} (hN : X.N.Nodup) (hi : X.N[i]? = some x) (hx : Loc X.env.scope x) (hf : X.fn x = true ∨ X.env.scope.names.lookup x = some .local) (h : PGs X es (tGsD T is)) (hs : (assignEach (.Name x pos :: es) X.env).map (·.2) = assign (.Name x pos) X.env :: (assignEach es X.env).map (·.2)) : PGs X (.Name x pos :: es) (tGsD T (i :: is)) :=
  PGs.weak (pgs_cons (pg_name hN hi hx hf) h hs) fun v σ H Q ⟨α, W, ρ, m, ds, hr, hs, r, e, q⟩ => by
    cases ds with
    | nil => cases e
    | cons y ys =>
      obtain ⟨u, r', rfl, h1, h2⟩ := r
      exact ⟨u, r', rfl, α, W, ρ.set i (some y), m, ys, hr, hs.set i h1, h2, by simpa using e, q⟩
theorem s_parT {ts es : List Expr} {k k2 : Nat} {is : List Nat} {fs : Env → Mem → Out (List D)} {pos pos' pos2 : Pos} (hX : CxOk T X) (ha : PA X es (tL T fs)) (h : PGs X ts (tGsD T is)) (hn : (assignEach ts X.env).length = is.length) (hst : (assignEach ts X.env).findIdx? (·.1) = none)
    (hs : swapsWithSole [.Tuple ts k pos'] (.Tuple es k2 pos2) pos.line X.env = pure false) (hw : swappedStores [.Tuple ts k pos'] (.Tuple es k2 pos2) X.env = pure none) (h1 : (assignEach [.Tuple ts k pos'] X.env).map (·.2) = [assign (.Tuple ts k pos') X.env]) :
    PS X (.Assign [.Tuple ts k pos'] (.Tuple es k2 pos2) pos) (tS T (parO is fs)) :=
  PS.weak (ps_asg (pe_tup ha) (pg_tup hX.calm h hn hst) hs hw h1) fun D σ H ⟨α, W, ρ, m, hr, hs, h⟩ => ⟨α, W, ρ, m, hr, hs, h.bind.mono fun ds m1 α1 W1 H1 e1 hr1 h1 vs rvs => by
    split at h1
    · rename_i hl
      refine ⟨by rw [rdl2 rvs]; exact Nat.le_trans hl.2 (by decide), fun p hp => ?_⟩
      refine ⟨p, vs, rfl, .inl (.inl upd_same), by rw [rdl2 rvs, hl.1], α1, W1, ρ, m1, ds, hr1.new hp, (hs.ext e1).ext (.new hp), RDL.ext (.new hp) _ _ rvs, hl.1, fun σ' hs' => h1 _ _ _ (.new hp) (hr1.new hp) σ' hs'⟩
    · exact h1.elim⟩
/-- o[i] = v, a list or a dict -/
def rSetA : V → V → V → Hp → (Hp → Prop) → Prop := fun o i v H Q => rSetL o i v H Q ∨ ∃ a H', o = .ref a ∧ DPut H a i v H' ∧ Q H'
theorem set_any (hX : CxOk T X) : PSet X rSetA := by
  intro pins s σ H o i v ov iv u Q I ro ri rv h
  rcases h with h | ⟨a, H', rfl, g, q⟩
  · exact set_list pins s σ H o i v ov iv u Q I ro ri rv h
  · obtain rfl : ov = Value.ref a := ro
    exact d_setItem (Nat.lt_of_le_of_lt (Nat.add_le_add_left (by decide) _) hX.hu) I g ri rv fun s4 I4 => ⟨H', I4, q⟩
theorem RpD.len {W : Addr → Prop} {H : Hp} : ∀ {l : List P} {a : List (Key × V)}, RpD T W H l a → a.length = l.length
  | [], _, h => by simp only [RpD] at h; subst h; rfl
  | x :: r, _, h => by
    obtain ⟨c, d, κ', y, q, rfl, rfl, h1, h2, h3⟩ := h.cons
    simp [RpD.len h3]
theorem RpT.len {W : Addr → Prop} {H : Hp} : ∀ {l : List P} {a : List (List Key × V)}, RpT T W H l a → a.length = l.length
  | [], _, h => by simp only [RpT] at h; subst h; rfl
  | x :: r, _, h => by
    obtain ⟨c, d, κ', y, q, rfl, rfl, h1, h2, h3⟩ := h.cons
    simp [RpT.len h3]
theorem set_red (hX : CxOk T X) {α : Al} {W : Addr → Prop} {H : Hp} {m : Mem} {d k v : D} {o i u : V} {Q : Hp → Prop} (hr : HR T α W H m) (rd' : RD T α W H d o) (rk : RD T α W H k i) (rv : RD T α W H v u)
    (h : Hg T α W H (setixO d k v m) fun _ _ _ _ H' => Q H') : rSetA o i u H Q := by
  unfold setixO at h
  split at h
  · rename_i n j pk pv
    obtain ⟨a, ha, rfl⟩ := rd'
    split at h
    · rename_i l i' ec
      split at h
      · rename_i q eq
        obtain ⟨b, hb, hw, hA⟩ := hr.cel n j _ ec
        rw [ha] at hb; cases hb
        obtain ⟨xs, h1, h2⟩ := hA
        have ei : i = .int i' := int_of rk
        subst ei
        refine .inl ⟨a, xs, i', q, rfl, rfl, h1, by rw [← ixN_eq, h2.len]; exact eq, ?_⟩
        have e : Ext α W H α W (upd H a (.lst (xs.set q u))) := ⟨fun _ _ _ h => h, fun b o' h q => ⟨by rw [upd_ne (fun z => h (by rw [z]; exact hw))]; exact q, h⟩⟩
        obtain ⟨e1, hr1⟩ := hr.write (y := .lst (l.set q pv)) ec ha (o := .lst (xs.set q u)) ⟨_, upd_same, RpL.ext e _ _ (RpL.set q h2 rv)⟩
        exact h _ _ _ e1 hr1
      · exact h.elim
    · rename_i pk _ _ t l ec
      split at h
      · rename_i hk
        rw [Bool.and_eq_true] at hk
        obtain ⟨hk, hl⟩ := hk
        have hl := of_decide_eq_true hl
        obtain ⟨b, hb, hw, hA⟩ := hr.cel n j _ ec
        rw [ha] at hb; cases hb
        cases t with
        | false =>
          obtain ⟨kvs, h1, nd, h2⟩ := hA
          have ok' : (ky pk).isSome = true := by simpa [kOk] using hk
          obtain ⟨κ, e⟩ := Option.isSome_iff_exists.mp ok'
          have eu : i = kV κ := by
            have rk : Rp T W H pk i := rk
            have h3 : Rp T W H pk (kV κ) := rp_ky e
            cases pk <;> first | cases e | skip
            all_goals (simp only [Rp] at rk; subst rk; rfl)
          subst eu
          refine .inr ⟨a, _, rfl, DPut.k h1 (by rw [h2.len, ← line_eq]; exact hl), ?_⟩
          have e' : Ext α W H α W (upd H a (.dK (L2.putK kvs κ u))) := ⟨fun _ _ _ h => h, fun b o' h q => ⟨by rw [upd_ne (fun z => h (by rw [z]; exact hw))]; exact q, h⟩⟩
          obtain ⟨e1, hr1⟩ := hr.write (y := .dic false (putK false l pk pv)) ec ha (o := .dK (L2.putK kvs κ u)) ⟨_, upd_same, putK_keys kvs κ u nd, RpD.ext e' _ _ (putD e rv h2)⟩
          exact h _ _ _ e1 hr1
        | true =>
          obtain ⟨kvs, h1, nd, h2⟩ := hA
          have ok' : (kyT pk).isSome = true := by simpa [kOk] using hk
          obtain ⟨κ, e⟩ := Option.isSome_iff_exists.mp ok'
          obtain ⟨b, rfl, h3⟩ := kyT_rp e rk
          refine .inr ⟨a, _, rfl, DPut.t h1 h3 (by rw [h2.len, ← line_eq]; exact hl), ?_⟩
          have e' : Ext α W H α W (upd H a (.dT (L2.putK kvs κ u))) := ⟨fun _ _ _ h => h, fun b o' h q => ⟨by rw [upd_ne (fun z => h (by rw [z]; exact hw))]; exact q, h⟩⟩
          obtain ⟨e1, hr1⟩ := hr.write (y := .dic true (putK true l pk pv)) ec ha (o := .dT (L2.putK kvs κ u)) ⟨_, upd_same, putK_keys kvs κ u nd, RpT.ext e' _ _ (putT e rv h2)⟩
          exact h _ _ _ e1 hr1
      · exact h.elim
    · exact h.elim
  · exact h.elim
theorem s_setix {o i e : Expr} {fo fi fe : Ev} {pos pos' : Pos} (hX : CxOk T X) (he : PE X e (tD T fe)) (ho : PE X o (tD T fo)) (hi : PE X i (tD T fi))
    (ha : ∀ v, assign (.Subscript o i pos') X.env v = (do
      let ov ← holding [v] (eval o X.env)
      let iv ← holding [v, ov] (eval i X.env)
      standAt pos'
      holding [v, ov, iv] (setItem ov iv v)
      release [v, ov, iv] []))
    (hs : swapsWithSole [.Subscript o i pos'] e pos.line X.env = pure false) (hw : swappedStores [.Subscript o i pos'] e X.env = pure none) (h1 : (assignEach [.Subscript o i pos'] X.env).map (·.2) = [assign (.Subscript o i pos') X.env]) :
    PS X (.Assign [.Subscript o i pos'] e pos) (tS T fun ρ m => (fe ρ m).bind fun v m1 => (fo ρ m1).bind fun d m2 => (fi ρ m2).bind fun k m3 => (setixO d k v m3).bind fun _ m4 => .ok (.nx ρ) m4) :=
  PS.weak (ps_asg he (pg_sub ho hi (set_any hX) ha) hs hw h1) fun D σ H ⟨α, W, ρ, m, hr, hs, h⟩ => ⟨α, W, ρ, m, hr, hs, h.bind.mono fun v m1 α1 W1 H1 e1 hr1 h1 x rx =>
    ⟨α1, W1, ρ, m1, hr1, hs.ext e1, h1.bind.mono fun d m2 α2 W2 H2 e2 hr2 h2 y ry => ⟨α2, W2, ρ, m2, hr2, (hs.ext e1).ext e2, h2.bind.mono fun k m3 α3 W3 H3 e3 hr3 h3 z rz =>
      set_red hX hr3 (ry.ext e3) rz ((rx.ext e2).ext e3) (h3.bind.mono fun _ m4 α4 W4 H4 e4 hr4 h4 => h4.here hr4 σ ((((hs.ext e1).ext e2).ext e3).ext e4))⟩⟩⟩
/-! ### loops -/
theorem forL_nil {g : Mem → Bool} {step : P → Env → Mem → Out Fl} {ρ : Env} {m : Mem} : forL g step [] ρ m = if g m then .ok (.nx ρ) m else .bad := rfl
theorem s_aug {i : Nat} {x : Str} {e : Expr} {fe : Ev} {pos pos' : Pos} {op : BOp} {o : Operator} {g : Int → Int → Int} (hN : X.N.Nodup) (hi : X.N[i]? = some x) (hx : Loc X.env.scope x) (he : PE X e (tD T fe)) (ho : PIp X o (ipI g)) (hg : ∀ a b r, binP op (.int a) (.int b) = some r → r = .int (g a b)) (hf : X.fn x = true ∨ X.env.scope.names.lookup x = some .local) :
    PS X (.AugAssign (.Name x pos') o e pos) (tS T (augO i op fe)) :=
  PS.weak (ps_aug hN hi hx he ho hf) fun D σ H ⟨α, W, ρ, m, hr, hs, h⟩ => by
    unfold augO at h
    cases q : (ρ[i]?).bind id with
    | none => rw [q] at h; exact h.elim
    | some d =>
      rw [q] at h
      obtain ⟨o, e1, e2⟩ := Option.bind_eq_some_iff.mp q
      have e3 : o = some d := e2
      subst e3
      obtain ⟨v, h1, h2⟩ := hs.2 i _ e1
      refine ⟨v, h1, α, W, ρ, m, hr, hs, h.bind.mono fun y m1 α1 W1 H1 ex hr1 h3 u ru => ?_⟩
      split at h3
      · rename_i a b
        cases er : binP op (.int a) (.int b) with
        | none => rw [er] at h3; exact h3.elim
        | some r =>
          rw [er] at h3
          have := hg a b r er
          subst this
          exact ⟨a, b, int_of h2, int_of ru, h3.here hr1 _ ((hs.ext ex).set i (by show Rp T W1 H1 _ _; simp only [Rp]))⟩
      · exact h3.elim
theorem s_for {tg iter : Expr} {body : List Stmt} {vs : List Nat} {b : P → Env → Option Env} {fi : Env → Mem → Out (List P × (Mem → Bool))} {f : Es} {pos : Pos} (hX : CxOk T X) (hp : PassesOwn (model X.prog X.w) X.A X.env X.xe) (hi : PI X tg iter (tI T fi)) (hg : PG X tg (tG T vs b)) (hb : PSs X body (tS T f))
    (hs : ∀ x, foldedSetIterable iter X.env x = pure x) : PS X (.For tg iter body [] pos) (tS T (forO b fi f)) :=
  PS.weak (ps_for hp hX.calm hi hg hb hs) fun D σ H ⟨α, W, ρ, m, hr, hs, h⟩ => ⟨α, W, ρ, m, hr, hs, h.bind.mono fun w m1 α1 W1 H1 e1 hr1 h1 J hJ => by
    obtain ⟨xs, g⟩ := w
    dsimp only at h1 hJ
    generalize hstep : (fun (x : P) (ρ : Env) (m : Mem) => match b x ρ with
      | some ρ1 => f ρ1 m
      | none => .bad) = step at h1
    refine ⟨fun i n σ' H' => n = xs.length - i ∧ i ≤ xs.length ∧ ∃ α' W' ρ' m', Ext α1 W1 H1 α' W' H' ∧ HR T α' W' H' m' ∧ RS T α' W' H' ρ' σ' ∧ Hg T α' W' H' (forL g step (xs.drop i) ρ' m') (endS T D),
      ⟨xs.length, by simp, Nat.zero_le _, α1, W1, ρ, m1, .refl, hr1, hs.ext e1, h1⟩, ?_⟩
    rintro i n σ' H' ⟨rfl, hi, α', W', ρ', m', e2, hr2, hs2, h2⟩
    have hgd : g m' = true := by
      cases q : g m' with
      | true => rfl
      | false =>
        exfalso
        have : forL g step (xs.drop i) ρ' m' = .bad := by
          cases xs.drop i <;> · unfold forL; rw [q]; rfl
        rw [this] at h2
        exact h2
    obtain ⟨hstop, hgo⟩ := hJ α' W' H' m' e2 hr2 hgd
    by_cases hlt : i < xs.length
    · right
      have hd : xs.drop i = xs[i] :: xs.drop (i + 1) := List.drop_eq_getElem_cons hlt
      rw [hd] at h2
      unfold forL at h2
      rw [hgd, if_pos rfl] at h2
      obtain ⟨hg1, hg2⟩ := hgo i xs[i] (List.getElem?_eq_getElem hlt)
      refine ⟨hg1, fun σ' H' => ∃ α' W' ρ' m', Ext α1 W1 H1 α' W' H' ∧ HR T α' W' H' m' ∧ RS T α' W' H' ρ' σ' ∧ Hg T α' W' H' (forL g step (xs.drop (i + 1)) ρ' m') (endS T D), fun σ'' H'' q => ⟨xs.length - (i + 1), by omega, rfl, hlt, q⟩, fun x H3 yl => ?_⟩
      obtain ⟨gr, rx⟩ := hg2 x H3 yl
      have e3 : Ext α' W' H' α' W' H3 := gr.ext
      have h3 := Hg.from e3 h2
      subst hstep
      dsimp only at h3
      cases hb : b xs[i] ρ' with
      | none => rw [hb] at h3; exact h3.elim
      | some ρ1 =>
        rw [hb] at h3
        refine ⟨α', W', ρ', m', xs[i], ρ1, gr.hr hr2, hs2.ext e3, rx, hb, fun σ2 hs2 off => ⟨α', W', ρ1, m', gr.hr hr2, hs2, h3.bind.mono fun fl m4 α4 W4 H4 e4 hr4 h4 => ?_⟩⟩
        have e14 := (e2.trans e3).trans e4
        cases fl with
        | nx ρ2 => exact fun σ4 hs4 => ⟨α4, W4, ρ2, m4, e14, hr4, hs4, h4⟩
        | ct ρ2 => exact fun σ4 hs4 => ⟨α4, W4, ρ2, m4, e14, hr4, hs4, h4⟩
        | bk ρ2 => exact h4.here hr4
        | rt d => exact h4.here hr4
    · left
      have hi' : i = xs.length := by omega
      subst hi'
      rw [List.drop_length] at h2
      unfold forL at h2
      rw [hgd, if_pos rfl] at h2
      exact ⟨hstop, h2.here hr2 σ' hs2⟩⟩
theorem s_while {c : Expr} {body : List Stmt} {ft : Env → Mem → Out Bool} {f : Es} {pos : Pos} {n : Nat} (hp : PassesOwn (model X.prog X.w) X.A X.env X.xe) (hc : PT X c (tT T ft)) (hb : PSs X body (tS T f)) : PS X (.While c body [] pos) (tS T fun ρ m => whileL ft f n ρ m) :=
  PS.weak (ps_while hp hc hb) fun D σ H ⟨α, W, ρ, m, hr, hs, h⟩ => by
    refine ⟨fun n σ' H' => ∃ α' W' ρ' m', HR T α' W' H' m' ∧ RS T α' W' H' ρ' σ' ∧ Hg T α' W' H' (whileL ft f n ρ' m') (endS T D), ⟨n, α, W, ρ, m, hr, hs, h⟩, ?_⟩
    rintro n σ' H' ⟨α', W', ρ', m', hr2, hs2, h2⟩
    cases n with
    | zero => exact h2.elim
    | succ n =>
      unfold whileL at h2
      refine ⟨α', W', ρ', m', hr2, hs2, h2.bind.mono fun t m3 α3 W3 H3 e3 hr3 h3 => ?_⟩
      cases t with
      | false => exact h3.here hr3 σ' (hs2.ext e3)
      | true =>
        rw [if_pos rfl] at h3 ⊢
        refine ⟨fun σ4 H4 => ∃ α' W' ρ' m', HR T α' W' H4 m' ∧ RS T α' W' H4 ρ' σ4 ∧ Hg T α' W' H4 (whileL ft f n ρ' m') (endS T D), fun σ4 H4 q => ⟨n, Nat.lt_succ_self _, q⟩, α3, W3, ρ', m3, hr3, hs2.ext e3, h3.bind.mono fun fl m4 α4 W4 H4 e4 hr4 h4 => ?_⟩
        cases fl with
        | nx ρ2 => exact fun σ4 hs4 => ⟨α4, W4, ρ2, m4, hr4, hs4, h4⟩
        | ct ρ2 => exact fun σ4 hs4 => ⟨α4, W4, ρ2, m4, hr4, hs4, h4⟩
        | bk ρ2 => exact h4.here hr4
        | rt d => exact h4.here hr4
end Lot
/-! LotM: calls of built-ins. -/
namespace Lot
open PySem PySem.Spec PyProof.Rows L2
variable {T : Tb} {X : Cx}
theorem CallR.or {f : Value} {r1 r2 : List V → Hp → VK → Prop} (h1 : CallR X f r1) (h2 : CallR X f r2) : CallR X f (fun vs H Q => r1 vs H Q ∨ r2 vs H Q) := by
  intro pins s σ H xs us Q I r h
  rcases h with h | h
  · exact h1 pins s σ H xs us Q I r h
  · exact h2 pins s σ H xs us Q I r h
theorem CallR.weak {f : Value} {r r' : List V → Hp → VK → Prop} (h : CallR X f r) (w : ∀ vs H Q, r' vs H Q → r vs H Q) : CallR X f r' :=
  fun pins s σ H xs us Q I rr q => h pins s σ H xs us Q I rr (w _ _ _ q)
/-- what a built-in promises of the small language's values -/
def rP (T : Tb) (f : List D → Mem → Out D) : List V → Hp → VK → Prop := fun vs H Q => ∃ α W m ds, HR T α W H m ∧ RDL T α W H ds vs ∧ Hx T α W H (f ds m) Q
theorem g_prim {x : Str} {id : String} {f : List D → Mem → Out D} {e : Expr} {es : List Expr} {fs : Env → Mem → Out (List D)} {p pos : Pos} (hc : CallR X (.builtin id) (rP T f)) (hg : Gl X x) (hm : X.mg x = none) (hv : bootBuiltins x = some (.builtin id)) (ha : PA X (e :: es) (tL T fs))
    (hn : x ≠ "__name__") (hdb : (x == ("__debug__" : Str)) = false) (he : starEach (e :: es) X.env = (false, eval e X.env) :: starEach es X.env) (hpl : (backTo pos (starEach es X.env)).any (·.1) = false) : PE X (.Call (.Name x p) (e :: es) [] pos) (tX T fun ρ m => (fs ρ m).bind fun ds m1 => f ds m1) :=
  PE.weak (pe_callB hc hg hm hv ha hn hdb he hpl) fun σ H Q ⟨α, W, ρ, m, hr, hs, h⟩ => ⟨α, W, ρ, m, hr, hs, h.bind.mono fun ds m1 α1 W1 H1 e1 hr1 h1 vs rvs => ⟨α1, W1, m1, ds, hr1, rvs, h1⟩⟩
theorem g_primT {x : Str} {id : String} {f : List D → Mem → Out D} {e : Expr} {es : List Expr} {fs : Env → Mem → Out (List D)} {p pos : Pos} (hc : CallR X (.type id) (rP T f)) (hg : Gl X x) (hm : X.mg x = none) (hv : bootBuiltins x = some (.type id)) (ha : PA X (e :: es) (tL T fs))
    (hn : x ≠ "__name__") (hdb : (x == ("__debug__" : Str)) = false) (he : starEach (e :: es) X.env = (false, eval e X.env) :: starEach es X.env) (hpl : (backTo pos (starEach es X.env)).any (·.1) = false) : PE X (.Call (.Name x p) (e :: es) [] pos) (tX T fun ρ m => (fs ρ m).bind fun ds m1 => f ds m1) :=
  PE.weak (pe_callTy hc hg hm hv ha hn hdb he hpl) fun σ H Q ⟨α, W, ρ, m, hr, hs, h⟩ => ⟨α, W, ρ, m, hr, hs, h.bind.mono fun ds m1 α1 W1 H1 e1 hr1 h1 vs rvs => ⟨α1, W1, m1, ds, hr1, rvs, h1⟩⟩
/-- all data as read -/
def RcL (T : Tb) (W : Addr → Prop) (H : Hp) : List P → List V → Prop
  | [], vs => vs = []
  | y :: ys, vs => ∃ v r, vs = v :: r ∧ Rc T W H y v ∧ RcL T W H ys r
theorem rds_rc {α : Al} {W : Addr → Prop} {H : Hp} {m : Mem} (hr : HR T α W H m) : ∀ {ds : List D} {vs : List V} {ys : List P}, RDL T α W H ds vs → rds ds m = some ys → RcL T W H ys vs
  | [], vs, ys, h, e => by cases e; exact h
  | d :: ds, vs, ys, h, e => by
    obtain ⟨v, r, rfl, h1, h2⟩ := h
    unfold rds at e
    split at e
    · rename_i x xs e1 e2
      cases e
      exact ⟨v, r, rfl, rd_rc hr h1 e1, rds_rc hr h2 e2⟩
    · cases e
theorem pure_red {α : Al} {W : Addr → Prop} {H : Hp} {m : Mem} {p : Pr} {ds : List D} {vs : List V} {Q : VK} (hr : HR T α W H m) (r : RDL T α W H ds vs) (h : Hx T α W H (pureO p ds m) Q) : ∃ ys x, RcL T W H ys vs ∧ primP p ys = some x ∧ Hx T α W H (.ok (.p x) m) Q := by
  unfold pureO at h
  cases e : rds ds m with
  | none => rw [e] at h; exact (h.elim id id).elim
  | some ys =>
    rw [e] at h
    cases e2 : primP p ys with
    | none => simp only [e2] at h; exact (h.elim id id).elim
    | some x => simp only [e2] at h; exact ⟨ys, x, rds_rc hr r e, e2, h⟩
theorem rcl1 {W : Addr → Prop} {H : Hp} {y : P} {vs : List V} (h : RcL T W H [y] vs) : ∃ v, vs = [v] ∧ Rc T W H y v := by
  obtain ⟨v, r, rfl, h1, rfl⟩ := h
  exact ⟨v, rfl, h1⟩
theorem rcl2 {W : Addr → Prop} {H : Hp} {y z : P} {vs : List V} (h : RcL T W H [y, z] vs) : ∃ v u, vs = [v, u] ∧ Rc T W H y v ∧ Rc T W H z u := by
  obtain ⟨v, r, rfl, h1, u, r', rfl, h2, rfl⟩ := h
  exact ⟨v, u, rfl, h1, h2⟩
theorem seq_sq {W : Addr → Prop} {H : Hp} {y : P} {l : List P} {v : V} (h : Rc T W H y v) (e : seqOf y = some l) : ∃ a xs, v = .ref a ∧ RpL T W H l xs ∧ (SqL T.K H a xs ∨ SqT T.K H a xs) := by
  unfold seqOf at e
  split at e
  · cases e
    obtain ⟨a, xs, rfl, h1, h2⟩ := h.lst
    exact ⟨a, xs, rfl, h2, .inl (SqL.of h1)⟩
  · cases e
    obtain ⟨a, xs, rfl, h1, h2⟩ := h.tup
    exact ⟨a, xs, rfl, h2, .inr h1.sq⟩
  · cases e
/-! ### one by one -/
theorem p_len (hX : CxOk T X) : CallR X (.builtin "len") (rP T lenO) := by
  refine CallR.weak (CallR.or call_len (CallR.or call_lenD call_len_dT)) fun vs H Q ⟨α, W, m, ds, hr, r, h⟩ => ?_
  unfold lenO at h
  split at h
  · rename_i d
    obtain ⟨v, r', rfl, rv, rfl⟩ := r
    split at h
    · rename_i x ex
      cases el : lenP x with
      | none => rw [el] at h; exact (h.elim id id).elim
      | some n =>
        rw [el] at h
        have q : Q (.int n) H := h.p (by intro l; simp) .refl hr (by simp only [Rp])
        have g := rg_rg hr rv ex
        unfold lenP at el
        split at el
        · cases el
          obtain ⟨a, xs, rfl, h1, h2⟩ := (g.c (by intro l; simp)).lst
          refine .inl ⟨_, _, rfl, .inl ⟨xs, SqL.of h1, rfl⟩, ?_⟩
          rw [h2.len]; exact q
        · cases el
          obtain ⟨a, xs, rfl, h1, h2⟩ := g.tup
          refine .inl ⟨_, _, rfl, .inr ⟨xs, by rw [hX.K]; exact h1, rfl⟩, ?_⟩
          rw [h2.len]; exact q
        · split at el
          · rename_i s hl
            cases el
            obtain rfl := (g.c (by intro l; simp)).str
            exact .inl ⟨_, _, rfl, ⟨by rw [← line_eq]; exact hl, rfl⟩, q⟩
          · cases el
        · rename_i t l
          cases el
          cases t with
          | false =>
            obtain ⟨a, kvs, rfl, h1, _, h2⟩ := (g.c (by intro l; simp)).dicF
            exact .inr (.inl ⟨a, kvs, rfl, h1, by rw [h2.len]; exact q⟩)
          | true =>
            obtain ⟨a, kvs, rfl, h1, _, h2⟩ := (g.c (by intro l; simp)).dicT
            exact .inr (.inr ⟨a, kvs, rfl, h1, by rw [h2.len]; exact q⟩)
        · cases el
    · exact (h.elim id id).elim
  · exact (h.elim id id).elim
theorem one_of {p : Pr} {f : P → Option P} (h0 : primP p [] = none) (h1 : ∀ y, primP p [y] = f y) (h2 : ∀ y z r, primP p (y :: z :: r) = none) {ys : List P} {x : P} (e : primP p ys = some x) : ∃ y, ys = [y] ∧ f y = some x := by
  match ys with
  | [] => rw [h0] at e; cases e
  | [y] => exact ⟨y, rfl, by rw [← h1]; exact e⟩
  | y :: z :: r => rw [h2] at e; cases e
theorem two_of {p : Pr} {f : P → P → Option P} (h0 : primP p [] = none) (h1 : ∀ y, primP p [y] = none) (h2 : ∀ y z, primP p [y, z] = f y z) (h3 : ∀ y z w r, primP p (y :: z :: w :: r) = none) {ys : List P} {x : P} (e : primP p ys = some x) : ∃ y z, ys = [y, z] ∧ f y z = some x := by
  match ys with
  | [] => rw [h0] at e; cases e
  | [y] => rw [h1] at e; cases e
  | [y, z] => exact ⟨y, z, rfl, by rw [← h2]; exact e⟩
  | y :: z :: w :: r => rw [h3] at e; cases e
theorem p_list (hX : CxOk T X) : CallR X (.type "list") (rP T (pureO .list)) := by
  refine CallR.weak call_list_of fun vs H Q ⟨α, W, m, ds, hr, r, h⟩ => ?_
  obtain ⟨ys, x, r1, e, h⟩ := pure_red hr r h
  obtain ⟨y, rfl, e⟩ := one_of (f := fun y => (seqOf y).map P.lst) rfl (fun _ => rfl) (fun _ _ _ => rfl) e
  obtain ⟨v, rfl, rv⟩ := rcl1 r1
  have e : (seqOf y).map P.lst = some x := e
  cases el : seqOf y with
  | none => rw [el] at e; cases e
  | some l =>
    rw [el] at e
    cases e
    obtain ⟨a, xs, rfl, h2, h3⟩ := seq_sq rv el
    exact ⟨a, xs, rfl, by rw [hX.K]; exact h3, fun p hp => h.F.new hr h2 hp⟩
/-- tuple(text) -/
theorem cr_tupleS (hc : X.calm = true) : CallR X (.type "tuple") (fun vs H Q => ∃ a : Str, vs = [.str a] ∧ a.length ≤ 1000 ∧ ∀ p, H p = none → Q (.ref p) (upd H p (.tup (a.cps.toList.map fun c => V.str ⟨#[c]⟩)))) := by
  intro pins s σ H vs us Q I r h
  obtain ⟨a, rfl, hz, q⟩ := h
  obtain ⟨u, rfl, ru⟩ := r.one
  obtain ⟨t, rfl⟩ := ru
  have al : a.cps.size ≤ 1000 := hz
  refine call_tuple_str (I.ok.hd hc) a t (fun h' tk acc hk hacc => ?_) (by rw [sizeLine_eq]; omega)
  have I1 : Inv X pins σ H { s with heap := h', toks := tk } := I.kept hk
  have rv : Vals (a.cps.toList.map fun c => V.str ⟨#[c]⟩) acc.toList := by
    obtain ⟨h1, h2⟩ := hacc
    have go : ∀ (cs : List Nat) (us : List Value), us.length = cs.length → (∀ (i c : Nat), cs[i]? = some c → ∃ t, us[i]? = some (Value.str ⟨#[c]⟩ t)) → Vals (cs.map fun c => V.str ⟨#[c]⟩) us := by
      intro cs
      induction cs with
      | nil => intro us hl _; rw [List.eq_nil_of_length_eq_zero hl]; exact .nil
      | cons c cs ih =>
        intro us hl hu
        cases us with
        | nil => cases hl
        | cons u us =>
          obtain ⟨t, e⟩ := hu 0 c rfl
          cases e
          exact .cons ⟨t, rfl⟩ (ih us (Nat.succ.inj hl) fun i c' hc' => hu (i + 1) c' (by simpa using hc'))
    refine go _ _ (by simp [h1]) fun i c hi => ?_
    have hlt : i < acc.size := by
      rw [h1]
      have : i < a.cps.toList.length := by
        rcases Nat.lt_or_ge i a.cps.toList.length with z | z
        · exact z
        · rw [List.getElem?_eq_none z] at hi; cases hi
      simpa using this
    obtain ⟨c', u, e1, e2⟩ := h2 i acc[i] (by simp [hlt])
    have e3 : a.cps[i]? = some c := by simpa using hi
    rw [e3] at e1
    cases e1
    exact ⟨u, by rw [Array.getElem?_toList, Array.getElem?_eq_getElem hlt, e2]⟩
  refine ⟨.ref h'.objs.size, _, I1.laid (t' := tk) (o := .tup (a.cps.toList.map fun c => V.str ⟨#[c]⟩)) (fun b ob q => Heap.get?_push_of_some _ q) (Nat.le_refl _) ⟨by rw [List.length_map, sizeLine_eq]; simp; omega, acc.toList, rv, ?_⟩, rfl, q _ (I1.hok.fresh (Nat.le_refl _))⟩
  exact ⟨_, Heap.get?_push_size _ rfl, rfl, _, rfl⟩
theorem rpL_signs {W : Addr → Prop} {H : Hp} (cs : List Nat) : RpL T W H (cs.map fun c => P.str ⟨#[c]⟩) (cs.map fun c => V.str ⟨#[c]⟩) := by
  induction cs with
  | nil => simp only [List.map_nil, RpL]
  | cons c cs ih => simp only [List.map_cons, RpL, Rp]; exact ⟨_, _, rfl, rfl, ih⟩
theorem p_tuple (hX : CxOk T X) : CallR X (.type "tuple") (rP T (pureO .tuple)) := by
  refine CallR.weak (call_tuple_of.or (cr_tupleS hX.calm)) fun vs H Q ⟨α, W, m, ds, hr, r, h⟩ => ?_
  obtain ⟨ys, x, r1, e, h⟩ := pure_red hr r h
  match ys, e with
  | [.str a], e =>
    right
    simp only [primP] at e
    split at e
    · rename_i hz
      cases e
      obtain ⟨v, rfl, rv⟩ := rcl1 r1
      obtain rfl := rv.str
      exact ⟨a, rfl, hz, fun p hp => h.tupD.newT hr (rpL_signs _) hp⟩
    · cases e
  | [.lst l], e =>
    left
    simp only [primP, seqOf, Option.map_some, Option.some.injEq] at e
    subst e
    obtain ⟨v, rfl, rv⟩ := rcl1 r1
    obtain ⟨a, xs, rfl, h1, h2⟩ := rv.lst
    exact ⟨a, xs, rfl, .inl ⟨SqL.of h1, fun p hp => h.tupD.newT hr h2 hp⟩⟩
  | [.tup l], e =>
    left
    simp only [primP, seqOf, Option.map_some, Option.some.injEq] at e
    subst e
    obtain ⟨v, rfl, rv⟩ := rcl1 r1
    obtain ⟨a, xs, rfl, h1, h2⟩ := rv.tup
    exact ⟨a, xs, rfl, .inr ⟨h1.sq, h.p (by intro l; simp) .refl hr (by simp only [Rp]; exact ⟨a, xs, rfl, h1, h2⟩)⟩⟩
  | [], e => cases e
  | [.non], e | [.bl _], e | [.int _], e | [.dic _ _], e | [.set _], e | [.ins _ _], e | [.exc _ _], e => cases e
  | _ :: _ :: _, e => cases e
theorem ints_eq : ∀ {l : List P} {ns : List Int}, asInts l = some ns → l = ns.map P.int
  | [], _, h => by cases h; rfl
  | .int i :: r, ns, h => by
    simp only [asInts] at h
    cases e : asInts r with
    | none => rw [e] at h; cases h
    | some ms => rw [e] at h; cases h; rw [ints_eq e]; rfl
  | .non :: _, _, h | .bl _ :: _, _, h | .str _ :: _, _, h | .tup _ :: _, _, h | .lst _ :: _, _, h | .dic _ _ :: _, _, h | .set _ :: _, _, h | .ins _ _ :: _, _, h | .exc _ _ :: _, _, h => by cases h
theorem rpl_ints {W : Addr → Prop} {H : Hp} : ∀ {ns : List Int} {xs : List V}, RpL T W H (ns.map P.int) xs → xs = ns.map V.int
  | [], _, h => by simpa only [List.map_nil, RpL] using h
  | n :: ns, _, h => by
    simp only [List.map_cons, RpL, Rp] at h
    obtain ⟨v, r, rfl, rfl, h2⟩ := h
    rw [rpl_ints h2]; rfl
theorem ints_rpl {W : Addr → Prop} {H : Hp} : ∀ (ns : List Int), RpL T W H (ns.map P.int) (ns.map V.int)
  | [] => by simp only [List.map_nil, RpL]
  | n :: ns => by
    simp only [List.map_cons, RpL, Rp]
    exact ⟨_, _, rfl, rfl, ints_rpl ns⟩
theorem bools_eq : ∀ {l : List P} {ns : List Bool}, asBls l = some ns → l = ns.map P.bl
  | [], _, h => by cases h; rfl
  | .bl i :: r, ns, h => by
    simp only [asBls] at h
    cases e : asBls r with
    | none => rw [e] at h; cases h
    | some ms => rw [e] at h; cases h; rw [bools_eq e]; rfl
  | .non :: _, _, h | .int _ :: _, _, h | .str _ :: _, _, h | .tup _ :: _, _, h | .lst _ :: _, _, h | .dic _ _ :: _, _, h | .set _ :: _, _, h | .ins _ _ :: _, _, h | .exc _ _ :: _, _, h => by cases h
theorem rpl_bools {W : Addr → Prop} {H : Hp} : ∀ {ns : List Bool} {xs : List V}, RpL T W H (ns.map P.bl) xs → xs = ns.map V.bl
  | [], _, h => by simpa only [List.map_nil, RpL] using h
  | n :: ns, _, h => by
    simp only [List.map_cons, RpL, Rp] at h
    obtain ⟨v, r, rfl, rfl, h2⟩ := h
    rw [rpl_bools h2]; rfl
theorem p_int (hX : CxOk T X) : CallR X (.type "int") (rP T (pureO .int)) := by
  refine CallR.weak call_int1 fun vs H Q ⟨α, W, m, ds, hr, r, h⟩ => ?_
  obtain ⟨ys, x, r1, e, h⟩ := pure_red hr r h
  match ys, e with
  | [.bl b], e =>
    cases e
    obtain ⟨v, rfl, rv⟩ := rcl1 r1
    obtain rfl := rv.bl
    exact .inr ⟨b, rfl, h.p (by intro l; simp) .refl hr (by simp only [Rp])⟩
  | [.int i], e =>
    cases e
    obtain ⟨v, rfl, rv⟩ := rcl1 r1
    obtain rfl := rv.int
    exact .inl ⟨i, rfl, h.p (by intro l; simp) .refl hr (by simp only [Rp])⟩
/-- a list or tuple shown -/
theorem p_repr (hX : CxOk T X) : CallR X (.builtin "repr") (rP T (pureO .repr)) := by
  intro pins s σ H xs us Q I rv ⟨α, W, m, ds, hr, r, h⟩
  obtain ⟨ys, x, r1, e, h⟩ := pure_red hr r h
  match ys, e with
  | [y], e =>
    have e : (if repOk y then some (P.str (toPy y).shown) else none) = some x := e
    split at e
    · rename_i ok
      cases e
      unfold repOk at ok
      simp only [Bool.and_eq_true, decide_eq_true_eq] at ok
      obtain ⟨⟨⟨⟨k1, k2⟩, k3⟩, k4⟩, k5⟩ := ok
      obtain ⟨v, rfl, rv1⟩ := rcl1 r1
      have q : Q (.str (toPy y).shown) H := h.p (by intro l; simp) .refl hr (by simp only [Rp])
      obtain ⟨u, rfl, ru⟩ : ∃ u, us = [u] ∧ RelV v u := by
        cases rv with
        | cons a b => cases b; exact ⟨_, rfl, a⟩
      have dp := Rg.dp k2 (Rg.ofC rv1)
      rw [← hX.K] at dp
      obtain ⟨as, rd⟩ := Dp.reads I _ _ _ dp ru
      have hnd : (toPy y).hasDict = false := PyData.hasDict_of_canLay _ (lay_py _ k2)
      obtain ⟨a, rfl⟩ : ∃ a, u = .ref a := by
        cases y with
        | lst l => simp only [toPy] at rd; cases rd; exact ⟨_, rfl⟩
        | tup l => simp only [toPy] at rd; cases rd; exact ⟨_, rfl⟩
        | _ => cases k1
      have hu : X.A.units + ((toPy y).depth + 1) < cLine := by
        have := hX.hu
        rw [depth_py]
        omega
      exact repr_of_reads' rd k4 (PyData.noDict_hsm hnd) hX.still hu (fun _ _ z => z) (fun h' u tk grow => ⟨.str _, H, I.kept grow, ⟨_, rfl⟩, q⟩) k5
    · cases e
/-- min of a list of tuples -/
theorem flats_of : ∀ {l : List P}, (∀ x ∈ l, flat x = true) → flats l = true
  | [], _ => by simp only [flats]
  | x :: r, h => by
    simp only [flats, Bool.and_eq_true]
    exact ⟨h x (List.mem_cons_self ..), flats_of fun y hy => h y (List.mem_cons_of_mem _ hy)⟩
theorem toPys_get : ∀ {l : List P} {i : Nat}, i < l.length → (toPys l).getD i .none = toPy (l.getD i .non)
  | [], _, h => by cases h
  | x :: r, 0, _ => by simp [toPys]
  | x :: r, i + 1, h => by
    have ih := toPys_get (l := r) (i := i) (Nat.lt_of_succ_lt_succ h)
    simpa [toPys] using ih
theorem toPys_len : ∀ l : List P, (toPys l).length = l.length
  | [] => rfl
  | x :: r => by simp [toPys, toPys_len r]
theorem p_minT (hX : CxOk T X) : CallR X (.builtin "min") (fun vs H Q => ∃ (α : Al) (W : Addr → Prop) (m : Mem) (b : P) (l : List P) (v : V), vs = [v] ∧ HR T α W H m ∧ Rc T W H (.lst (b :: l)) v ∧ ((b :: l).all fun x => isTupP x && (b :: l).all fun y => (ltP x y).isSome) = true ∧ Hg T α W H (.ok (.p (minW b l)) m) (fin T Q)) := by
  intro pins s σ H vs us Q I r h
  obtain ⟨α, W, m, b, l, v, rfl, hr, rv, hc, h⟩ := h
  obtain ⟨a, xs, rfl, h1, h2⟩ := rv.lst
  obtain ⟨its, vv, hl, _⟩ := I.list (SqL.of h1)
  rw [Vals.ref1 r]
  rw [List.all_eq_true] at hc
  have hT : ∀ x ∈ b :: l, isTupP x = true ∧ ∀ y ∈ b :: l, ∃ k, ltP x y = some k := fun x hx => by
    have := hc x hx
    rw [Bool.and_eq_true, List.all_eq_true] at this
    exact ⟨this.1, fun y hy => Option.isSome_iff_exists.mp (this.2 y hy)⟩
  have hf : ∀ x ∈ b :: l, flat x = true := fun x hx => by
    obtain ⟨ht, hs⟩ := hT x hx
    obtain ⟨k, e⟩ := hs x hx
    cases x with
    | tup q => exact (okD_of_lt e).1
    | _ => cases ht
  have dp := RpL.dp _ _ (flats_of hf) h2
  rw [← hX.K] at dp
  obtain ⟨as, rd⟩ := Dp.readsAll I _ _ _ dp vv
  have ln : its.toArray.size = l.length + 1 := by
    rw [List.size_toArray, ← vv.length, h2.len]
    rfl
  have hu : X.A.in1.units + 64 < cLine := by
    have := hX.hu
    show X.A.units + 1 + 64 < cLine
    omega
  refine call_min_walkH (PySem.W.iter_listW (A := X.A.in1) (I.ok.hd hX.calm) hl.isList fun s₂ e W' st hfp hw hk => ?_)
  have gi : ∀ (i : Nat) (u : Value), its.toArray[i]? = some u → i < (b :: l).length ∧ ∃ bs, Reads s.heap u (toPy ((b :: l).getD i .non)) bs := fun i u hi => by
    obtain ⟨bs, r1, r2, _⟩ := PySem.W.readsAll_atA (vs := its.toArray) rd i u hi
    rw [toPys_len] at r2
    rw [toPys_get r2] at r1
    exact ⟨r2, bs, r1⟩
  have mem : ∀ i, i < (b :: l).length → (b :: l).getD i .non ∈ b :: l := fun i hi => by
    rw [List.getD_eq_getElem?_getD, List.getElem?_eq_getElem hi]
    exact List.getElem_mem hi
  refine ⟨_, _, _, _, _, _, _, s.heap, fun i j => (fun x y => ltP x y == some true) ((b :: l).getD i .non) ((b :: l).getD j .non), rfl, W', st, hfp, by omega, hw, hk, ?_, fun v s' hP mv => ?_⟩
  · intro i j vi vj s1 Q' E' hkeep hi hj hq
    obtain ⟨i1, bs, i2⟩ := gi i vi hi
    obtain ⟨j1, cs, j2⟩ := gi j vj hj
    obtain ⟨ht, hs⟩ := hT _ (mem i i1)
    obtain ⟨k, ek⟩ := hs _ (mem j j1)
    refine ltP_at ek ht (PySem.W.reads_keeps hkeep i2) (PySem.W.reads_keeps hkeep j2) hu X.prog X.w E' Q' ?_
    have hq : Q' (.bool (ltP ((b :: l).getD i .non) ((b :: l).getD j .non) == some true)) s1 := hq
    rw [ek] at hq
    cases k <;> exact hq
  · obtain ⟨h', tk, rfl, hk'⟩ := PySem.W.moved_old e rfl mv
    have e1 : its.toArray.size - 1 = l.length := by omega
    have e2 := PySem.W.argBest_fold (fun x y => ltP x y == some true) P.non b l l.length (Nat.le_refl _)
    rw [List.take_length] at e2
    obtain ⟨e3, e2⟩ := e2
    have hP : its.toArray[argBest (fun i j => (fun x y => ltP x y == some true) ((b :: l).getD i .non) ((b :: l).getD j .non)) (its.toArray.size - 1)]? = some v := hP
    rw [e1] at hP
    generalize argBest (fun i j => (fun x y => ltP x y == some true) ((b :: l).getD i .non) ((b :: l).getD j .non)) l.length = q at hP e2 e3
    have hP : its[q]? = some v := by simpa using hP
    have hq : q < (b :: l).length := by rw [List.length_cons]; omega
    have hg : (b :: l)[q]? = some (minW b l) := by
      rw [List.getElem?_eq_getElem hq]
      rw [List.getD_eq_getElem?_getD, List.getElem?_eq_getElem hq] at e2
      rw [show minW b l = _ from e2.symm]
      rfl
    obtain ⟨x, hx, rx⟩ := h2.get' hg
    obtain ⟨u, hu', ru⟩ := vv.get hx
    rw [hP] at hu'
    cases hu'
    exact ⟨x, H, I.kept hk', ru, h α W H .refl hr x rx⟩
theorem p_min (hX : CxOk T X) : CallR X (.builtin "min") (rP T (pureO .min)) := by
  refine CallR.weak ((call_min2 hX.calm).or (p_minT hX)) fun vs H Q ⟨α, W, m, ds, hr, r, h⟩ => ?_
  obtain ⟨ys, x, r1, e, h⟩ := pure_red hr r h
  match ys, e with
  | [.int i, .int j], e =>
    left
    cases e
    obtain ⟨v, u, rfl, rv, ru⟩ := rcl2 r1
    obtain rfl := rv.int
    obtain rfl := ru.int
    exact ⟨i, j, rfl, h.p (by intro l; simp) .refl hr (by simp only [Rp])⟩
  | [.lst (b :: l)], e =>
    right
    simp only [primP] at e
    split at e
    · rename_i hc
      cases e
      obtain ⟨v, rfl, rv⟩ := rcl1 r1
      have hd : Hg T α W H (.ok (.p (minW b l)) m) (fin T Q) := by
        rcases h with h | h
        · exact h
        · exfalso
          have hm : isTupP (minW b l) = true := by
            rw [List.all_eq_true] at hc
            have go : ∀ (l : List P) (b : P), isTupP b = true → (∀ x ∈ l, isTupP x = true) → isTupP (minW b l) = true := by
              intro l
              induction l with
              | nil => intro b hb _; exact hb
              | cons x l ih =>
                intro b hb hl
                refine ih _ ?_ fun y hy => hl y (List.mem_cons_of_mem _ hy)
                dsimp only
                split
                · exact hl x (List.mem_cons_self ..)
                · exact hb
            exact go l b (Bool.and_eq_true_iff.mp (hc b (List.mem_cons_self ..))).1 fun x hx => (Bool.and_eq_true_iff.mp (hc x (List.mem_cons_of_mem _ hx))).1
          cases q : minW b l with
          | tup k => rw [q] at h; exact h
          | _ => rw [q] at hm; cases hm
      exact ⟨α, W, m, b, l, v, rfl, hr, rv, hc, hd⟩
    · cases e
theorem p_max (hX : CxOk T X) : CallR X (.builtin "max") (rP T (pureO .max)) := by
  refine CallR.weak (call_max2 hX.calm) fun vs H Q ⟨α, W, m, ds, hr, r, h⟩ => ?_
  obtain ⟨ys, x, r1, e, h⟩ := pure_red hr r h
  match ys, e with
  | [.int i, .int j], e =>
    cases e
    obtain ⟨v, u, rfl, rv, ru⟩ := rcl2 r1
    obtain rfl := rv.int
    obtain rfl := ru.int
    exact ⟨i, j, rfl, h.p (by intro l; simp) .refl hr (by simp only [Rp])⟩
theorem p_all (hX : CxOk T X) : CallR X (.builtin "all") (rP T (pureO .all)) := by
  refine CallR.weak (cr_all hX.calm) fun vs H Q ⟨α, W, m, ds, hr, r, h⟩ => ?_
  obtain ⟨ys, x, r1, e, h⟩ := pure_red hr r h
  match ys, e with
  | [.lst l], e =>
    cases eb : asBls l with
    | none => simp only [primP, eb] at e; cases e
    | some bs =>
      simp only [primP, eb] at e; cases e
      obtain ⟨v, rfl, rv⟩ := rcl1 r1
      obtain ⟨a, xs, rfl, h1, h2⟩ := rv.lst
      rw [bools_eq eb] at h2
      exact ⟨a, bs, rfl, by rw [← rpl_bools h2]; exact SqL.of h1, h.p (by intro l; simp) .refl hr (by simp only [Rp])⟩
theorem p_any (hX : CxOk T X) : CallR X (.builtin "any") (rP T (pureO .any)) := by
  refine CallR.weak (cr_any hX.calm) fun vs H Q ⟨α, W, m, ds, hr, r, h⟩ => ?_
  obtain ⟨ys, x, r1, e, h⟩ := pure_red hr r h
  match ys, e with
  | [.lst l], e =>
    cases eb : asBls l with
    | none => simp only [primP, eb] at e; cases e
    | some bs =>
      simp only [primP, eb] at e; cases e
      obtain ⟨v, rfl, rv⟩ := rcl1 r1
      obtain ⟨a, xs, rfl, h1, h2⟩ := rv.lst
      rw [bools_eq eb] at h2
      exact ⟨a, bs, rfl, by rw [← rpl_bools h2]; exact SqL.of h1, h.p (by intro l; simp) .refl hr (by simp only [Rp])⟩
theorem p_sum (hX : CxOk T X) : CallR X (.builtin "sum") (rP T (pureO .sum)) := by
  refine CallR.weak (cr_sum hX.calm) fun vs H Q ⟨α, W, m, ds, hr, r, h⟩ => ?_
  obtain ⟨ys, x, r1, e, h⟩ := pure_red hr r h
  match ys, e with
  | [.lst l], e =>
    cases eb : asInts l with
    | none => simp only [primP, eb] at e; cases e
    | some bs =>
      simp only [primP, eb] at e; cases e
      obtain ⟨v, rfl, rv⟩ := rcl1 r1
      obtain ⟨a, xs, rfl, h1, h2⟩ := rv.lst
      rw [ints_eq eb] at h2
      exact ⟨a, bs, rfl, by rw [← rpl_ints h2]; exact SqL.of h1, h.p (by intro l; simp) .refl hr (by simp only [Rp])⟩
/-! ### isinstance -/
def tyN : P → String
  | .non => "NoneType" | .bl _ => "bool" | .int _ => "int" | .str _ => "str" | .tup _ => "tuple" | .lst _ => "list" | .dic _ _ => "dict" | .set _ => "set" | .ins _ _ => "object" | .exc _ _ => "exception"
def Ty.nm : Ty → String
  | .tInt => "int" | .tStr => "str" | .tBool => "bool" | .tTup => "tuple" | .tLst => "list" | .tDic => "dict"
theorem ty_x {W : Addr → Prop} {H : Hp} {x : P} {v : V} (h : Rg T W H x v) (ht : hasTy x = true) : TyX T.K H v (.type (tyN x)) := by
  cases x with
  | non => obtain rfl := (h.c (by intro l; simp)).non; exact .base .non
  | bl b => obtain rfl := (h.c (by intro l; simp)).bl; exact .base (.bl b)
  | int b => obtain rfl := (h.c (by intro l; simp)).int; exact .base (.int b)
  | str b => obtain rfl := (h.c (by intro l; simp)).str; exact .base (.str b)
  | tup l =>
    rcases h with h | ⟨l', a, xs, e, rfl, h1, h2⟩
    · obtain ⟨a, xs, rfl, h1, h2⟩ := h.tup
      exact .base (.tup h1.2)
    · obtain ⟨o, its, n, h3, h4, _⟩ := h1
      exact .kTuple h3 h4
  | lst l => obtain ⟨a, xs, rfl, h1, h2⟩ := (h.c (by intro l; simp)).lst; exact .base (.lst h1)
  | dic t l =>
    cases t with
    | false => obtain ⟨a, xs, rfl, h1, h2⟩ := (h.c (by intro l; simp)).dicF; exact .base (.dK h1)
    | true => obtain ⟨a, xs, rfl, h1, h2⟩ := (h.c (by intro l; simp)).dicT; exact .base (.dT h1)
  | set _ => cases ht
  | ins _ _ => cases ht
  | exc _ _ => cases ht
def isTyN : Ty → String → Bool
  | .tInt, s => s == "int" || s == "bool" | .tStr, s => s == "str" | .tBool, s => s == "bool" | .tTup, s => s == "tuple" | .tLst, s => s == "list" | .tDic, s => s == "dict"
theorem isTy_n (t : Ty) (x : P) : isTy t x = isTyN t (tyN x) := by cases t <;> cases x <;> rfl
theorem kit_tab : (["NoneType", "bool", "int", "str", "tuple", "list", "dict"].all fun s => [Ty.tInt, .tStr, .tBool, .tTup, .tLst, .tDic].all fun t => decide (kitB s t.nm = some (isTyN t s))) = true := by decide +kernel
theorem kit_is {K : PySem.W.Frag} {x : P} (t : Ty) (ht : hasTy x = true) : PySem.W.kitOne K (.type (tyN x)) (.type t.nm) = some (isTy t x) := by
  rw [isTy_n]
  refine kit_ty ?_
  have h := kit_tab
  rw [List.all_eq_true] at h
  have h1 := h (tyN x) (by cases x <;> simp only [tyN] <;> first | (simp; done) | cases ht)
  rw [List.all_eq_true] at h1
  exact of_decide_eq_true (h1 t (by cases t <;> simp))
end Lot
/-! LotN: an object becomes data; a comprehension's list in a name; isinstance. -/
namespace Lot
open PySem PySem.Spec PyProof.Rows L2
variable {T : Tb} {X : Cx}
theorem live_dead {m : Mem} {n q j : Nat} (hl : n < m.length) : live (m.set n .dead) q j = true → q ≠ n ∧ live m q j = true := by
  intro h
  unfold live cell at h ⊢
  rw [getM_set hl] at h
  by_cases e : q = n
  · rw [if_pos e] at h
    simp at h
  · rw [if_neg e] at h
    exact ⟨e, h⟩
theorem cell_val {m : Mem} {n : Nat} {x : P} (h : getM m n = .val x) : cell m n 0 = some x := by unfold cell; rw [h]; rfl
theorem HR.dead {α : Al} {W : Addr → Prop} {H : Hp} {m : Mem} {n : Nat} {a : Addr} {x : P} (hr : HR T α W H m) (hc : getM m n = .val x) (ha : α n 0 = some a) : HR T α (wDn W a) H (m.set n .dead) := by
  have hcell : cell m n 0 = some x := cell_val hc
  have hl := cell_lt hcell
  have ne : ∀ q j b, live m q j = true → q ≠ n → α q j = some b → b ≠ a := fun q j b h1 h2 h3 z => by
    subst z
    exact h2 (hr.inj q j n 0 b h1 (live_cell hcell) h3 ha).1
  have e : Ext α W H α (wDn W a) H := .less fun _ z => z.1
  refine ⟨fun b h => hr.wd b h.1, fun q j h => hr.out q j (by rw [List.length_set] at h; exact h), fun q j y h => ?_, fun q c fs h => ?_, fun q j q' j' b l1 l2 => hr.inj q j q' j' b (live_dead hl l1).2 (live_dead hl l2).2, fun b o h => ?_⟩
  · obtain ⟨h1, h2⟩ := live_dead hl (live_cell h)
    have h' : cell m q j = some y := by
      unfold cell at h ⊢
      rw [getM_set hl, if_neg h1] at h
      exact h
    obtain ⟨b, h3, h4, h5⟩ := hr.cel q j y h'
    exact ⟨b, h3, ⟨h4, ne q j b h2 h1 h3⟩, h5.ext e fun _ z => z⟩
  · rw [getM_set hl] at h
    by_cases z : q = n
    · rw [if_pos z] at h; cases h
    · rw [if_neg z] at h
      obtain ⟨b, h3, h4, h5⟩ := hr.ins q c fs h
      exact ⟨b, h3, ⟨h4, ne q 0 b (live_ins h) z h3⟩, h5.ext e (fun _ z => z) fun _ _ z => z⟩
  · obtain ⟨h1, h2, h3⟩ := hr.gho b o h
    exact ⟨⟨h1, fun z => by subst z; exact h3 n 0 (live_cell hcell) ha⟩, h2, fun q j l => h3 q j (live_dead hl l).2⟩
theorem g_frz {e : Expr} {f : Ev} (he : PE X e (tD T f)) : PE X e (tD T (frzO f)) := PE.weak he fun σ H Q ⟨α, W, ρ, m, hr, hs, h⟩ => ⟨α, W, ρ, m, hr, hs, h.bind.mono fun d m1 α1 W1 H1 e1 hr1 h1 v rv => by
  split at h1
  · rename_i n
    obtain ⟨a, ha, rfl⟩ := rv
    split at h1
    · rename_i l hc
      obtain ⟨b, hb, hw, xs, h3, h4⟩ := hr1.cel n 0 _ (cell_val hc)
      rw [ha] at hb; cases hb
      refine h1 α1 (wDn W1 a) H1 (.less fun _ z => z.1) (hr1.dead hc ha) (.ref a) ?_
      show Rp T _ H1 (.lst l) (.ref a)
      simp only [Rp]
      exact ⟨a, xs, rfl, fun z => z.2 rfl, h3, RpL.ext (α := α1) (α' := α1) (.less fun _ z => z.1) _ _ h4⟩
    · rename_i t l hc
      obtain ⟨b, hb, hw, hA⟩ := hr1.cel n 0 _ (cell_val hc)
      rw [ha] at hb; cases hb
      refine h1 α1 (wDn W1 a) H1 (.less fun _ z => z.1) (hr1.dead hc ha) (.ref a) ?_
      show Rp T _ H1 (.dic t l) (.ref a)
      cases t with
      | false =>
        obtain ⟨kvs, h3, nd, h4⟩ := hA
        simp only [Rp]
        exact ⟨a, kvs, rfl, fun z => z.2 rfl, h3, nd, RpD.ext (α := α1) (α' := α1) (.less fun _ z => z.1) _ _ h4⟩
      | true =>
        obtain ⟨kvs, h3, nd, h4⟩ := hA
        simp only [Rp]
        exact ⟨a, kvs, rfl, fun z => z.2 rfl, h3, nd, RpT.ext (α := α1) (α' := α1) (.less fun _ z => z.1) _ _ h4⟩
    · exact h1.elim
  · exact h1.elim⟩
section
variable {elt tg iter : Expr} {ifs : List Expr} {scope : Scope} {own : List (Str × Nat)} {pos spos py : Pos} {fi : Env → Mem → Out (List P × (Mem → Bool))} {b : P → Env → Option Env} {fifs : Env → Mem → Out Bool} {fe : Ev} {i : Nat} {y : Str}
/-- y = [..] on one line -/
theorem s_setLc (al : Bool) (hX : CxOk T X) (hy : X.N[i]? = some y) (hyl : X.env.scope.names.lookup y = some .local) (hsw : swapsWith (.ListComp elt [⟨tg, iter, ifs, 0⟩] scope pos) (some (.Name y py)) spos.line X.env = pure true)
    (hi : PI X tg iter (tI T fi)) (ok : BlkOk X.N X.env.scope scope own)
    (hg : ∀ gh (s : Shared) (H : Hp) (C : Addr) (cl : List (Str × Addr)) (fp : List Addr), PG (X.blk s H scope (compEnvC scope cl C X.env) fp) tg (tG (T.g gh) (own.map (·.2)) b))
    (ht : ∀ gh (s : Shared) (H : Hp) (C : Addr) (cl : List (Str × Addr)) (fp : List Addr), PTs (X.blk s H scope (compEnvC scope cl C X.env) fp) ifs (tT (T.g gh) fifs))
    (he : ∀ gh (s : Shared) (H : Hp) (C : Addr) (cl : List (Str × Addr)) (fp : List Addr), PE (X.blk s H scope (compEnvC scope cl C X.env) fp) elt (tD (T.g gh) fe)) (hs : ∀ x, foldedSetIterable iter X.env x = pure x) :
    PS X (.Assign [.Name y py] (.ListComp elt [⟨tg, iter, ifs, 0⟩] scope pos) spos) (tS T (setO i (allocO al (lcO (own.map (·.2)) b fi fifs fe)))) :=
  PS.weak (ps_setLc hX.calm hX.nd hy hyl hsw hi ok (fun s H C cl fp => PG.anyG fun gh => hg gh s H C cl fp) (fun s H C cl fp => PTs.anyG fun gh => ht gh s H C cl fp) (fun s H C cl fp => PE.anyG fun gh => he gh s H C cl fp) hs) fun D σ H ⟨α, W, ρ, m, hr, hs, h⟩ =>
    lc_red (tX_al (al := al) ⟨α, W, ρ, m, hr, hs, h.bind.mono fun d m1 α1 W1 H1 e1 hr1 h1 v rv => h1.here hr1 _ ((hs.ext e1).set i rv)⟩)
end
/-! ### isinstance -/
theorem g_isi1 {e : Expr} {fe : Ev} {p pt pos : Pos} {t : Ty} {n : Str} (hX : CxOk T X) (he : PE X e (tD T fe)) (hg : Gl X "isinstance") (hm : X.mg "isinstance" = none) (hn : Gl X n) (hmn : X.mg n = none) (hb : bootBuiltins n = some (.type t.nm)) (hne : n ≠ "__name__") (hdb : (n == ("__debug__" : Str)) = false)
    (h1 : starEach (e :: [.Name n pt]) X.env = (false, eval e X.env) :: starEach [.Name n pt] X.env) (h2 : starEach [.Name n pt] X.env = (false, eval (.Name n pt) X.env) :: starEach [] X.env) (hpl : (backTo pos (starEach [.Name n pt] X.env)).any (·.1) = false) :
    PE X (.Call (.Name "isinstance" p) [e, .Name n pt] [] pos) (tD T fun ρ m => (fe ρ m).bind fun d m1 => isiO [t] d m1) :=
  PE.weak (pe_callB (id := "isinstance") call_isi hg hm (by decide +kernel) (pa_cons he (pa_cons (pe_bltn (v := .ty t.nm) hn hmn hb rfl hne hdb) pa_nil h2) h1) (by decide) (by decide) h1 hpl) fun σ H Q ⟨α, W, ρ, m, hr, hs, h⟩ => ⟨α, W, ρ, m, hr, hs, h.bind.mono fun d m1 α1 W1 H1 e1 hr1 h1 v rv => by
    unfold isiO at h1
    split at h1
    · rename_i x ex
      split at h1
      · rename_i ht
        have g := ty_x (rg_rg hr1 rv ex) ht
        rw [← hX.K] at g
        exact ⟨v, .ty t.nm, _, _, isTy t x, rfl, .ty _, g, kit_is t ht, h1.here hr1 _ (by show Rp T W1 H1 _ _; simp only [Rp, List.any_cons, List.any_nil, Bool.or_false])⟩
      · exact h1.elim
    · exact h1.elim⟩
theorem g_isi2 {e : Expr} {fe : Ev} {p pt pt2 pu pos : Pos} {k : Nat} {t t2 : Ty} {n n2 : Str} (hX : CxOk T X) (he : PE X e (tD T fe)) (hg : Gl X "isinstance") (hm : X.mg "isinstance" = none) (hn : Gl X n) (hmn : X.mg n = none) (hb : bootBuiltins n = some (.type t.nm)) (hne : n ≠ "__name__") (hdb : (n == ("__debug__" : Str)) = false)
    (hn2 : Gl X n2) (hmn2 : X.mg n2 = none) (hb2 : bootBuiltins n2 = some (.type t2.nm)) (hne2 : n2 ≠ "__name__") (hdb2 : (n2 == ("__debug__" : Str)) = false)
    (h1 : starEach (e :: [.Tuple [.Name n pt, .Name n2 pt2] k pu]) X.env = (false, eval e X.env) :: starEach [.Tuple [.Name n pt, .Name n2 pt2] k pu] X.env) (h2 : starEach [.Tuple [.Name n pt, .Name n2 pt2] k pu] X.env = (false, eval (.Tuple [.Name n pt, .Name n2 pt2] k pu) X.env) :: starEach [] X.env)
    (h3 : starEach (.Name n pt :: [.Name n2 pt2]) X.env = (false, eval (.Name n pt) X.env) :: starEach [.Name n2 pt2] X.env) (h4 : starEach [.Name n2 pt2] X.env = (false, eval (.Name n2 pt2) X.env) :: starEach [] X.env) (hpl : (backTo pos (starEach [.Tuple [.Name n pt, .Name n2 pt2] k pu] X.env)).any (·.1) = false) :
    PE X (.Call (.Name "isinstance" p) [e, .Tuple [.Name n pt, .Name n2 pt2] k pu] [] pos) (tD T fun ρ m => (fe ρ m).bind fun d m1 => isiO [t, t2] d m1) :=
  PE.weak (pe_callB (id := "isinstance") call_isiT hg hm (by decide +kernel) (pa_cons he (pa_cons (pe_tup (pa_cons (pe_bltn (v := .ty t.nm) hn hmn hb rfl hne hdb) (pa_cons (pe_bltn (v := .ty t2.nm) hn2 hmn2 hb2 rfl hne2 hdb2) pa_nil h4) h3)) pa_nil h2) h1) (by decide) (by decide) h1 hpl) fun σ H Q ⟨α, W, ρ, m, hr, hs, h⟩ => ⟨α, W, ρ, m, hr, hs, h.bind.mono fun d m1 α1 W1 H1 e1 hr1 h1 v rv => by
    unfold isiO at h1
    split at h1
    · rename_i x ex
      split at h1
      · rename_i ht
        refine ⟨by show 2 ≤ sizeLine; decide, fun tp htp => ?_⟩
        have e2 : Ext α1 W1 H1 α1 W1 (upd H1 tp (.tup [.ty t.nm, .ty t2.nm])) := .new htp
        have hr2 := hr1.new (o := .tup [.ty t.nm, .ty t2.nm]) htp
        have g := ty_x (rg_rg hr2 (rv.ext e2) ex) ht
        rw [← hX.K] at g
        refine ⟨v, tp, [.ty t.nm, .ty t2.nm], _, [.type t.nm, .type t2.nm], isTy t x || isTy t2 x, rfl, upd_same, .cons (.ty _) (.cons (.ty _) .nil), g, ?_, h1 _ _ _ e2 hr2 _ (by show Rp T W1 _ _ _; simp only [Rp, List.any_cons, List.any_nil, Bool.or_false])⟩
        refine kitAny_cons (b := isTy t x) (kit_is t ht) (fun z => kitAny_cons (b := isTy t2 x) (kit_is t2 ht) (fun z2 => by rw [z, z2]; rfl) fun z2 => by rw [z, z2]; rfl) fun z => by rw [z]; rfl
      · exact h1.elim
    · exact h1.elim⟩
end Lot
/-! LotO: what holds of any expression's form. -/
namespace Lot
open PySem PySem.Spec PyProof.Rows L2
variable {T : Tb} {X : Cx}
def noStar : Expr → Bool
  | .Starred .. => false
  | _ => true
def noComp : Expr → Bool
  | .ListComp .. => false
  | .SetComp .. => false
  | .DictComp .. => false
  | _ => true
def noSet : Expr → Bool
  | .Set .. => false
  | _ => true
def noSlice : Expr → Bool
  | .Slice .. => false
  | _ => true
def noCall : Expr → Bool
  | .Call .. => false
  | _ => true
def isTup : Expr → Bool
  | .Tuple .. => true
  | .List .. => true
  | _ => false
/-- truth asked of the value -/
def plainT : Expr → Bool
  | .UnaryOp .Not .. => false
  | .BoolOp .. => false
  | .IfExp .. => false
  | .Compare .. => false
  | _ => true
theorem star1 {e : Expr} {es : List Expr} {env : PySem.Env} (h : noStar e = true) : starEach (e :: es) env = (false, eval e env) :: starEach es env := by
  cases e <;> first | rfl | cases h
theorem star_any {env : PySem.Env} : ∀ {es : List Expr}, es.all noStar = true → (starEach es env).any (·.1) = false
  | [], _ => rfl
  | e :: es, h => by
    rw [List.all_cons, Bool.and_eq_true] at h
    rw [star1 h.1, List.any_cons, star_any h.2]
    rfl
theorem back_any {pos : Pos} : ∀ {xs : List (Bool × Sem Value)}, (backTo pos xs).any (·.1) = xs.any (·.1)
  | [] => rfl
  | (b, t) :: xs => by
    have ih := back_any (pos := pos) (xs := xs)
    unfold backTo at ih ⊢
    rw [List.map_cons, List.any_cons, List.any_cons, ih]
theorem pl_of {es : List Expr} {env : PySem.Env} {pos : Pos} (h : es.all noStar = true) : (backTo pos (starEach es env)).any (·.1) = false := by rw [back_any, star_any h]
theorem sw_no {e : Expr} {t : Option Expr} {l : Nat} {env : PySem.Env} (h : noComp e = true) : swapsWith e t l env = pure false := by
  cases e <;> first | rfl | cases h
theorem sws_no {e : Expr} {t : Expr} {l : Nat} {env : PySem.Env} (h : noComp e = true) : swapsWithSole [t] e l env = pure false := by
  unfold swapsWithSole; exact sw_no h
theorem sst_no {e t : Expr} {env : PySem.Env} (h : (isTup e && isTup t) = false) : swappedStores [t] e env = pure none := by
  cases e <;> first | rfl | skip
  all_goals (cases t <;> first | rfl | cases h)
theorem ase1 {t : Expr} {ts : List Expr} {env : PySem.Env} (h : noStar t = true) : assignEach (t :: ts) env = (false, assign t env) :: assignEach ts env := by
  cases t <;> first | rfl | cases h
theorem ase_map {t : Expr} {ts : List Expr} {env : PySem.Env} (h : noStar t = true) : (assignEach (t :: ts) env).map (·.2) = assign t env :: (assignEach ts env).map (·.2) := by rw [ase1 h]; rfl
theorem ase_len {env : PySem.Env} : ∀ {ts : List Expr}, (assignEach ts env).length = ts.length
  | [] => rfl
  | t :: ts => by
    have ih := ase_len (env := env) (ts := ts)
    cases t <;> (simp only [assignEach, List.length_cons, ih])
theorem ase_no {env : PySem.Env} : ∀ {ts : List Expr}, ts.all noStar = true → (assignEach ts env).findIdx? (·.1) = none
  | [], _ => rfl
  | t :: ts, h => by
    rw [List.all_cons, Bool.and_eq_true] at h
    rw [ase1 h.1, List.findIdx?_cons, ase_no h.2]
    rfl
theorem bim {op : CmpOp} {e : Expr} (h : noSet e = true) : behindInMarks op e = false := by
  cases e <;> first | rfl | cases h
theorem lam {o1 o2 : CmpOp} {b c : Expr} (h : noSet c = true) : lastMarks [o1, o2] [b, c] = false := by
  unfold lastMarks lastMarks; exact bim h
theorem pix {b : Expr} (h : noSlice b = true) : PlainIx b := fun o i => by
  cases b <;> first | rfl | cases h
theorem fsi {e : Expr} {env : PySem.Env} (h : noSet e = true) (x : Value) : foldedSetIterable e env x = pure x := by
  cases e <;> first | rfl | cases h
theorem atb {e : Expr} {n : Str} {env : PySem.Env} (h : noCall e = true) : attributeBase e n env (eval e env) = eval e env := by
  cases e <;> first | rfl | cases h
theorem tru {e : Expr} {env : PySem.Env} (h : plainT e = true) (whole : Sem Value) : isTrue e env whole = (do let v ← whole; standAt e.pos; holding [v] (truthy v)) := by
  cases e <;> first | rfl | cases h | skip
  rename_i op _ _
  cases op <;> first | rfl | cases h
theorem asub {o i : Expr} {pos : Pos} {env : PySem.Env} (h : noSlice i = true) (v : Value) : assign (.Subscript o i pos) env v = (do
      let ov ← holding [v] (eval o env)
      let iv ← holding [v, ov] (eval i env)
      standAt pos
      holding [v, ov, iv] (setItem ov iv v)
      release [v, ov, iv] []) := by
  cases i <;> first | rfl | cases h
end Lot
/-! LotU: exceptions as values, over the hand layer. -/
namespace PySem
namespace W
open PyProof.Rows
section
variable {prog : Program} {w : World} {A : Around} {E : Value → Shared → Prop} {s : Shared} {h₀ : Heap} {L : Addr} {m : Str → Option Value} {K : Frag} {name : Str} {v : Value} {C : Addr}
theorem method_cref {pl : Sem Bool} {Q : Value × List Value → Shared → Prop} (F : Fr h₀ L s.heap m) (X₀ : K.In h₀) (ty : typeIn K (.ref C) = some (.type "type")) (op : nsIn K cStatics "thirdparty.any" = some none)
    (e : findCls K (.ref C) (.type "type") name = some (.val v)) (hh : handedIn v = true) (h : Q (v, []) { s with toks := s.toks + 1 }) : wpAny (model prog w) A (getMethod (.ref C) name pl) Q E s := by
  have X := X₀.keeps F.keep
  have L0 : Looks (model prog w) s.heap (typeOf (.ref C)) (.type "type") := looks_typeIn X ty
  have hg : findIn K (.type "type") "__getattribute__" = some (some (.builtin "type.__getattribute__")) := type_tga
  unfold getMethod specialOf
  refine wpAny_bind (wpAny_bind (L0.here ((looks_findIn X hg).here ?_)))
  dsimp only
  rw [if_pos canon_tga]
  refine wpAny_bind (wpAny_mono (Q := fun v => Q (v, [])) (E := E) ?_ (fun _ _ z => wpAny_pure z) fun _ _ z => z)
  have LO : Looks (model prog w) s.heap (opaqueClassAbove (.ref C)) none := looks_opaque X op
  refine cls_open X LO L0 hg (looks_hook X (r := none) (by rfl)) (by show subIn K _ _ = _; rfl) e
    (wpAny_pure (by show wpAny _ _ (handedOut v) _ _ _; rw [handedOut_of hh]; exact wpAny_pure h))
end
end W
end PySem
namespace Lot
open PySem PySem.Spec PyProof.Rows L2
/-- C0.__init__(self, ..), an own class's that is ValueError's -/
theorem pe_xinit {X : Cx} {x : Str} {C0 : Addr} {e : Expr} {es : List Expr} {ta : TA} {p1 p2 pos : Pos} {pl : Sem Bool} (hg : Gl X x) (hm : X.mg x = some (.ref C0)) (ty : PySem.W.typeIn X.K (.ref C0) = some (.type "type")) (op : PySem.W.nsIn X.K cStatics "thirdparty.any" = some none)
    (vV : PySem.W.findCls X.K (.ref C0) (.type "type") "__init__" = some (.val (.builtin "ValueError.__init__"))) (hdb : (x == ("__debug__" : Str)) = false) (ha : PA X (e :: es) ta)
    (hc : eval (.Call (.Attribute (.Name x p1) "__init__" p2) (e :: es) [] pos) X.env = (do
      let ov ← eval (.Name x p1) X.env
      standAt p2.atName
      let (f, first) ← holding [ov] (getMethod ov "__init__" pl)
      callWith pos f first (backTo pos (starEach (e :: es) X.env)) (backToKw pos (keywordEach [] X.env))))
    (he : starEach (e :: es) X.env = (false, eval e X.env) :: starEach es X.env) (hpl : (backTo pos (starEach es X.env)).any (·.1) = false) :
    PE X (.Call (.Attribute (.Name x p1) "__init__" p2) (e :: es) [] pos) (tVeI X.K ta) := by
  refine ⟨fun pins s σ H Q I h => ?_⟩
  refine PySem.W.methodCall_KW (ld_glob I hg hm ?_ hdb) hc
  obtain ⟨m, fr⟩ := I.fr
  refine PySem.W.method_cref fr I.ok.mod.kin ty op vV (by decide +kernel) ?_
  show wpAny _ _ (callWith pos (Value.builtin "ValueError.__init__") [] (backTo pos (starEach (e :: es) X.env)) []) _ _ _
  refine PyProof.Rows.callWith_method1 (thn (ha.run pos pins _ σ H _ (I.tok _) h) fun us s1 ⟨vs, H1, I1, r1, a, C, ws, ev, hl, T, ea, q⟩ => ?_) he hpl
  subst ev
  cases r1 with
  | @cons _ u0 _ ur ra rw' =>
    obtain rfl : u0 = Value.ref a := ra
    have hlen : ur.length ≤ sizeLine := by
      rw [← Paired.length rw', sizeLine_eq]
      omega
    exact oinit_ok T I1 ea hlen fun s' J => ⟨.non, H1, J, rfl, q⟩
/-- C(e, ..), C's own __init__ keeping sp: the exception as a value -/
def tMkV (C : Addr) (sp : Sp) (ta : TA) : TE := fun σ H Q => ta σ H fun vs H1 => vs.length ≤ 1000 ∧ ∀ a, H1 a = none → sp (.ref a :: vs) (upd H1 a (exo a C none)) (fun v H2 => v = .non ∧ Q (.ref a) H2) (fun _ _ _ => False)
theorem pe_oexV {X : Cx} {x : Str} {C fI : Addr} {k : Nat} {fd : FuncData} {ps : List Str} {sp : Sp} {e : Expr} {es : List Expr} {ta : TA} {p pos : Pos} (T : OexC X.K C) (iC : PySem.W.findIn X.K (.ref C) "__init__" = some (some (.ref fI))) (tI : PySem.W.typeIn X.K (.ref fI) = some (.type "function"))
    (F1 : FnOk X.prog X.w X.K X.mg X.base CX0 k fI fd ps sp) (hr : Room (k + 1) X.A) (hb : Binds X.K fd ps []) (hg : Gl X x) (hm : X.mg x = some (.ref C)) (ha : PA X (e :: es) ta)
    (hdb : (x == ("__debug__" : Str)) = false) (he : starEach (e :: es) X.env = (false, eval e X.env) :: starEach es X.env) (hpl : (backTo pos (starEach es X.env)).any (·.1) = false) :
    PE X (.Call (.Name x p) (e :: es) [] pos) (tMkV C sp ta) := by
  refine ⟨fun pins s σ H Q I h => ?_⟩
  obtain ⟨nm, q, N, bs, bm, sn, sub, ab, col, dd, k0, k1, k2, k3, k5, hC, hbm⟩ := T.cls
  refine wpAny_Call_Name_kw (ld_glob I hg hm ?_ hdb)
  refine PySem.W.callWith_K (h₀ := X.base) I.ok.mod.kin T.kC (thn (ha.run pos pins s σ H _ I h) fun us s1 ⟨vs, H1, I1, r1, hz, q1⟩ => ⟨I1.kIn, ?_⟩) he hpl
  show wpAny _ _ (call (.ref C) us) _ _ _
  obtain ⟨hp, g, dr, tk, os⟩ := s1
  have hsz : hp.objs.size ≤ hp.objs.size + 1 := Nat.le_succ _
  have hn : H1 (hp.objs.size + 1) = none := I1.hok.fresh hsz
  have hq := q1 (hp.objs.size + 1) hn
  have kk : ∀ b o, hp.get? b = some o → ((hp.push (PySem.W.kdv_tup us)).push (PySem.HandSPX.excO C hp.objs.size)).get? b = some o := fun b o e => Heap.get?_push_of_some _ (Heap.get?_push_of_some _ e)
  have hget : ((hp.push (PySem.W.kdv_tup us)).push (PySem.HandSPX.excO C hp.objs.size)).get? (hp.objs.size + 1) = some (PySem.HandSPX.excO C hp.objs.size) := by heap_get
  have I2 : Inv X pins σ (upd H1 (hp.objs.size + 1) (exo (hp.objs.size + 1) C none)) ⟨(hp.push (PySem.W.kdv_tup us)).push (PySem.HandSPX.excO C hp.objs.size), g, dr, tk, os⟩ :=
    I1.laid (t' := tk) (a := hp.objs.size + 1) (o := exo (hp.objs.size + 1) C none) (h' := (hp.push (PySem.W.kdv_tup us)).push (PySem.HandSPX.excO C hp.objs.size)) kk hsz (exo_ok hget)
  have r2 : Vals (V.ref (hp.objs.size + 1) :: vs) (Value.ref (hp.objs.size + 1) :: us) := .cons rfl r1
  have hl : (Value.ref (hp.objs.size + 1) :: us).length + 0 = ps.length := by
    have e := r2.length
    rw [F1.len _ _ _ _ hq] at e
    exact e.symm
  have hus : us.length ≤ sizeLine := by
    rw [← Paired.length r1, sizeLine_eq]
    omega
  refine wpAny_call (PySem.HandSPX.call_own F.excBase_ValueError (fun Y => PySem.HandSPX.refsVE_contains Y bm hbm) (I1.kIn _ _ hC) (PySem.W.looks_findIn I1.kIn iC) (fun self => PySem.W.bind_fn I1.kIn self tI) hus
    (codeAny_mono (F1.run _ X.stack _ _ ⟨Value.ref (hp.objs.size + 1) :: us, []⟩ (Value.ref (hp.objs.size + 1) :: us) _ _ (fun _ _ _ => False) (hr.make C us []) (I2.env0.make C us []) (by have := hb _ (Value.ref (hp.objs.size + 1) :: us) I2.kIn (by simpa using hl); simpa using this) r2 hq) fun r s' hq' => ?_))
  cases r with
  | error er => exact False.elim hq'
  | ok fl =>
    cases fl with
    | ret u =>
      obtain ⟨v, H', J, rv, ev, q2⟩ := I2.after hq'
      subst ev
      exact ⟨rv, .ref (hp.objs.size + 1), H', J, rfl, q2⟩
    | next => exact False.elim hq'
    | brk => exact False.elim hq'
    | cont => exact False.elim hq'
/-- o.f of an exception that stands in the heap -/
def tXv (K : PySem.W.Frag) (f : Str) (te : TE) : TE := fun σ H Q => te σ H fun x H1 => ∃ (a C dd : Addr) (fs : List (Str × V)) (v : V), x = .ref a ∧ XfC K C ∧ PySem.W.findIn K (.ref C) f = some none ∧ H1 a = some (exo a C (some dd)) ∧ H1 dd = some (exd dd fs) ∧ fs.lookup f = some v ∧ Q v H1
theorem pe_xv {X : Cx} {e : Expr} {te : TE} {pos : Pos} {n : Str} (he : PE X e te) (hb : attributeBase e n X.env (eval e X.env) = eval e X.env) : PE X (.Attribute e n pos) (tXv X.K n te) := by
  refine ⟨fun pins s σ H Q I h => ?_⟩
  refine attr_of hb (thn (he.run pins s σ H _ I h) fun u s1 hh => ?_)
  obtain ⟨x, H1, I1, rx, a, C, dd, fs, v, rfl, T, hno, ea, ed, l, q⟩ := hh
  obtain rfl : u = Value.ref a := rx
  obtain ⟨t1, ho⟩ := exo_at I1.hok ea
  obtain ⟨mA, hns, hr⟩ := exd_at I1.hok ed
  obtain ⟨od, hod, hl⟩ := lookIn_ns hns
  obtain ⟨u, hu, ru⟩ := RelO.some_of (v := v) (o := mA n) (by rw [← l]; exact hr n)
  have J : PySem.W.InstAt s1.heap a _ C (some od) := ⟨ho, rfl, rfl, hod⟩
  exact HandSPX.exc_get I1.kIn J T.ga T.gg T.exC (PySem.W.findObj_own T.hdC hno rfl (by rw [hl, hu])) (handed_of ru) ⟨v, H1, I1.tok _, ru, q⟩
/-- what isinstance asks of an exception's class -/
structure XcI (K : PySem.W.Frag) (C : Addr) : Prop where
  hcl : (PySem.W.clsIn K C).isSome = true
  ga : PySem.W.findIn K (.ref C) "__getattribute__" = some (some (.builtin "BaseException.__getattribute__"))
  gg : PySem.W.findIn K (.ref C) "__getattr__" = some none
  sub : PySem.W.subIn K (.ref C) (.type "BaseException") = some true
  ha : PySem.W.findIn K (.ref C) "__class__" = some (some (.builtin "object.__class__"))
  hn : PySem.W.specialIn K (.builtin "object.__class__") "__get__" = some (some (.builtin "getset_descriptor.__get__"))
  htk : PySem.W.takesIn K (.builtin "object.__class__") = some true
  hm : PySem.W.mroIn K C (.type "object") = some true
/-- an exception stands at a: with its dict, or made without one -/
def ExcAt (H : Hp) (C a : Addr) : Prop := (∃ dd fs, H a = some (exo a C (some dd)) ∧ H dd = some (exd dd fs)) ∨ H a = some (ExO (.ref C) a)
def rIsx (K : PySem.W.Frag) : List V → Hp → VK → Prop := fun xs H Q => ∃ (a C : Addr) (c : V) (u : Value) (b : Bool), xs = [.ref a, c] ∧ ClsV c u ∧ ExcAt H C a ∧ XcI K C ∧ PySem.W.kitOne K (.ref C) u = some b ∧ Q (.bl b) H
theorem call_isx {X : Cx} : CallR X (.builtin "isinstance") (rIsx X.K) := by
  intro pins s σ H xs us Q I r h
  obtain ⟨a, C, c, u, b, rfl, k, hE, T, e, q⟩ := h
  obtain ⟨u1, u2, rfl, r1, r2⟩ := vals2 r
  have e2 := k.eq r2
  subst e2
  obtain rfl : u1 = Value.ref a := r1
  have key : ∃ (ox : PySem.Obj) (od : Option PySem.Obj), PySem.W.InstAt s.heap a ox C od := by
    rcases hE with ⟨dd, fs, ea, ed⟩ | ea
    · obtain ⟨t1, ho⟩ := exo_at I.hok ea
      obtain ⟨mA, hns, hr⟩ := exd_at I.hok ed
      obtain ⟨od, hod, hl⟩ := lookIn_ns hns
      exact ⟨_, some od, ho, rfl, rfl, hod⟩
    · obtain ⟨⟨oe, vs, ho, hz, hd, _⟩, _, _⟩ := I.hok a _ ea
      exact ⟨oe, none, ho, hz.1, by unfold PySem.W.notCls; rw [hd] <;> rfl, by rw [hz.2]; trivial⟩
  obtain ⟨ox, od, J⟩ := key
  exact PySem.W.kia_one (PySem.W.kitx_exc T.hcl T.ga T.gg T.sub T.ha T.hn T.htk T.hm) I.kIn J e (fun z => nomatch z) fun tk => ⟨.bl b, H, I.tok tk, rfl, q⟩
/-! ### by readings of the small language -/
variable {T : Tb} {X : Cx}
/-- an exception's class: its name, its fields where it has an __init__ of its own, the classes that it stands under (itself, too) -/
structure Xc where
  name : Str
  own : Bool
  flds : List Str
  ups : List Nat
/-- what an __init__ promises -/
def spX (T : Tb) (c : Nat) (flds : List Str) : Sp := fun vs H Q _ => ∃ a ys, vs = V.ref a :: ys ∧ ys.length = flds.length ∧ H a = some (exo a (T.ca c) none) ∧
  ∀ d H', H d = none → d ≠ a → H' a = some (exo a (T.ca c) (some d)) → H' d = some (exd d (flds.zip ys).reverse) → (∀ b, b ≠ a → b ≠ d → H' b = H b) → Q .non H'
structure XcOk (xs : List Xc) (T : Tb) (X : Cx) (c : Nat) (q : Xc) : Prop where
  mgx : X.mg q.name = some (.ref (T.ca c))
  isi : XcI T.K (T.ca c)
  sub : ∀ j q', xs[j]? = some q' → PySem.W.kitOne T.K (.ref (T.ca c)) (.ref (T.ca j)) = some (q.ups.contains j)
  ve : PySem.W.kitOne T.K (.ref (T.ca c)) (.type "ValueError") = some true
  init : q.own = true → OexC T.K (T.ca c) ∧ XfC T.K (T.ca c) ∧ q.flds.Nodup ∧ (∀ (i : Nat) f, q.flds[i]? = some f → T.fn c i = some f ∧ PySem.W.findIn T.K (.ref (T.ca c)) f = some none) ∧
    ∃ fI fd ps, PySem.W.findIn T.K (.ref (T.ca c)) "__init__" = some (some (.ref fI)) ∧ PySem.W.typeIn T.K (.ref fI) = some (.type "function") ∧ FnOk T.P T.w T.K X.mg X.base CX0 1 fI fd ps (spX T c q.flds) ∧ Binds T.K fd ps []
  plain : q.own = false → PySem.W.excIn T.K (T.ca c) PySem.HandSPX.veTail "ValueError.__new__" = true ∧ PySem.W.keepIn T.K (.ref (T.ca c)) = true
theorem HR.grown {α : Al} {W : Addr → Prop} {H H' : Hp} {m : Mem} (hr : HR T α W H m) (h : ∀ b o, H b = some o → H' b = some o) : Ext α W H α W H' ∧ HR T α W H' m := by
  have e : Ext α W H α W H' := ⟨fun _ _ _ z => z, fun a o hw q => ⟨h a o q, hw⟩⟩
  refine ⟨e, hr.keep e (fun a hw q => ?_) fun a o _ hw q => ⟨h a o q, hw⟩⟩
  cases z : H a with
  | none => exact hr.wd a hw z
  | some o => rw [h a o z] at q; cases q
theorem zip_look : ∀ {fs : List Str} {vs : List V} {i : Nat} {v : V}, fs.Nodup → fs.length = vs.length → vs[i]? = some v → ∃ f, fs[i]? = some f ∧ (fs.zip vs).reverse.lookup f = some v := by
  have app : ∀ (l : List (Str × V)) (p : Str × V) (f : Str), (l ++ [p]).lookup f = match l.lookup f with | some v => some v | none => if f = p.1 then some p.2 else none := by
    intro l
    induction l with
    | nil =>
      intro p f
      rw [List.nil_append, List.lookup_cons]
      by_cases h : f = p.1
      · subst h; simp
      · have hb : (f == p.1) = false := by simpa using h
        rw [hb]; simp [h]
    | cons q l ih =>
      intro p f
      rw [List.cons_append, List.lookup_cons, List.lookup_cons]
      split
      · rfl
      · exact ih p f
  have mem : ∀ (fs : List Str) (vs : List V) (f : Str), f ∉ fs → (fs.zip vs).reverse.lookup f = none := by
    intro fs
    induction fs with
    | nil => intro vs f _; rfl
    | cons g fs ih =>
      intro vs f h
      cases vs with
      | nil => rfl
      | cons v vs =>
        simp only [List.mem_cons, not_or] at h
        rw [List.zip_cons_cons, List.reverse_cons, app, ih vs f h.2]
        simp [h.1]
  intro fs
  induction fs with
  | nil => intro vs i v _ h e; cases vs with | nil => simp at e | cons _ _ => cases h
  | cons g fs ih =>
    intro vs i v nd h e
    cases vs with
    | nil => cases h
    | cons u vs =>
      rw [List.nodup_cons] at nd
      cases i with
      | zero =>
        simp at e
        subst e
        refine ⟨g, rfl, ?_⟩
        rw [List.zip_cons_cons, List.reverse_cons, app, mem fs vs g nd.1]
        simp
      | succ i =>
        obtain ⟨f, h1, h2⟩ := ih nd.2 (by simpa using h) (by simpa using e)
        refine ⟨f, by simpa using h1, ?_⟩
        rw [List.zip_cons_cons, List.reverse_cons, app, h2]
theorem g_mkxO {xs : List Xc} {c : Nat} {q : Xc} {e : Expr} {es : List Expr} {fs : Env → Mem → Out (List P)} {p pos : Pos} (hX : CxOk T X) (C : XcOk xs T X c q) (ho : q.own = true) (hl : q.flds.length ≤ 1000) (hr : Room 2 X.A) (hg : Gl X q.name) (ha : PA X (e :: es) (tP T fs))
    (hdb : (q.name == ("__debug__" : Str)) = false) (he : starEach (e :: es) X.env = (false, eval e X.env) :: starEach es X.env) (hpl : (backTo pos (starEach es X.env)).any (·.1) = false) :
    PE X (.Call (.Name q.name p) (e :: es) [] pos) (tD T fun ρ m => (fs ρ m).bind fun ys m1 => mkxO c (some q.flds.length) ys m1) := by
  obtain ⟨h1, h2, nd, h3, fI, fd, ps, h4, h5, F, hb⟩ := C.init ho
  rw [← hX.K] at h1 h4 h5 hb
  rw [← hX.K, ← hX.P, ← hX.w] at F
  refine PE.weak (pe_oexV h1 h4 h5 F hr hb hg C.mgx ha hdb he hpl) fun σ H Q ⟨α, W, ρ, m, hr, hs, h⟩ => ⟨α, W, ρ, m, hr, hs, h.bind.mono fun ys m1 α1 W1 H1 e1 hr1 h1 vs rvs => ?_⟩
  unfold mkxO at h1
  dsimp only at h1
  split at h1
  · rename_i hn
    have lv := rvs.len
    refine ⟨by rw [lv, hn]; exact hl, fun a hna => ⟨a, vs, rfl, by rw [lv, hn], upd_same, fun d H' hd hda ha' hd' hb' => ⟨rfl, ?_⟩⟩⟩
    have hd1 : H1 d = none := by rw [upd_ne hda] at hd; exact hd
    obtain ⟨e2, hr2⟩ := hr1.grown (H' := H') fun b o hbo => by
      rw [hb' b (ne_of_none hbo hna) (ne_of_none hbo hd1), upd_ne (ne_of_none hbo hna)]
      exact hbo
    refine h1 α1 W1 H' e2 hr2 (.ref a) ?_
    show Rp T W1 H' (.exc c ys) (.ref a)
    simp only [Rp]
    refine ⟨a, rfl, hr1.free hna, .inl ⟨d, vs, _, hr1.free hd1, ha', hd', fun i v hv => ?_, RpL.ext e2 _ _ rvs⟩⟩
    obtain ⟨f, g1, g2⟩ := zip_look nd (by rw [lv, hn]) hv
    exact ⟨f, (h3 i f g1).1, g2⟩
  · exact h1.elim
theorem g_mkxN {xs : List Xc} {c : Nat} {q : Xc} {e : Expr} {p pos : Pos} {f1 : Ev} (hX : CxOk T X) (C : XcOk xs T X c q) (ho : q.own = false) (hg : Gl X q.name) (ha : PE X e (tD T f1))
    (hdb : (q.name == ("__debug__" : Str)) = false) (he : starEach [e] X.env = (false, eval e X.env) :: starEach [] X.env) :
    PE X (.Call (.Name q.name p) [e] [] pos) (tD T fun ρ m => ((f1 ρ m).bind fun d m1 => (asP d m1).bind fun x m1 => (Out.ok [] m1).bind fun ds m2 => .ok (x :: ds) m2).bind fun ys m1 => mkxO c none ys m1) := by
  obtain ⟨h1, h2⟩ := C.plain ho
  rw [← hX.K] at h1 h2
  refine PE.weak (pe_exc1 PySem.F.excBase_ValueError h1 C.mgx h2 hg ha he hdb) fun σ H Q ⟨α, W, ρ, m, hr, hs, h⟩ => ⟨α, W, ρ, m, hr, hs, ?_⟩
  simp only [Out.bind_assoc] at h
  refine h.bind.mono fun d m1 α1 W1 H1 e1 hr1 h1 v rv a hna => ?_
  cases d with
  | p x =>
    have h1 : Hg T α1 W1 H1 (.ok (.p (.exc c [])) m1) (fin T Q) := h1
    obtain ⟨e2, hr2⟩ := hr1.grown (H' := upd H1 a (ExO (.ref (T.ca c)) a)) fun b o hbo => by rw [upd_ne (ne_of_none hbo hna)]; exact hbo
    refine h1 α1 W1 _ e2 hr2 (.ref a) ?_
    show Rp T W1 _ (.exc c []) (.ref a)
    simp only [Rp]
    exact ⟨a, rfl, hr1.free hna, .inr ⟨trivial, upd_same⟩⟩
  | _ => exact h1.elim
theorem exc_rp {W : Addr → Prop} {H : Hp} {c : Nat} {fs : List P} {v : V} (h : Rp T W H (.exc c fs) v) : ∃ a, v = .ref a ∧ ExcAt H (T.ca c) a := by
  simp only [Rp] at h
  obtain ⟨a, rfl, _, h2⟩ := h
  refine ⟨a, rfl, ?_⟩
  rcases h2 with ⟨d, xs, r, _, h4, h5, _, _⟩ | ⟨_, h3⟩
  · exact .inl ⟨d, r, h4, h5⟩
  · exact .inr h3
/-- isinstance(x, C) of an exception, C an own class -/
theorem g_isx {xs : List Xc} {j : Nat} {qj : Xc} {js : List Nat} {e : Expr} {fe : Ev} {p pt pos : Pos} (hX : CxOk T X) (C : ∀ c q, xs[c]? = some q → XcOk xs T X c q) (hj : xs[j]? = some qj) (hjs : ∀ c q, xs[c]? = some q → js.contains c = q.ups.contains j) (he : PE X e (tD T fe)) (hg : Gl X "isinstance") (hm : X.mg "isinstance" = none) (hn : Gl X qj.name) (hdb : (qj.name == ("__debug__" : Str)) = false)
    (h1 : starEach (e :: [.Name qj.name pt]) X.env = (false, eval e X.env) :: starEach [.Name qj.name pt] X.env) (h2 : starEach [.Name qj.name pt] X.env = (false, eval (.Name qj.name pt) X.env) :: starEach [] X.env) (hpl : (backTo pos (starEach [.Name qj.name pt] X.env)).any (·.1) = false) :
    PE X (.Call (.Name "isinstance" p) [e, .Name qj.name pt] [] pos) (tD T fun ρ m => (fe ρ m).bind fun d m1 => isxO xs.length js d m1) :=
  PE.weak (pe_callB (id := "isinstance") call_isx hg hm (by decide +kernel) (pa_cons he (pa_cons (pe_glob (v := .ref (T.ca j)) hn (C j qj hj).mgx rfl hdb) pa_nil h2) h1) (by decide) (by decide) h1 hpl) fun σ H Q ⟨α, W, ρ, m, hr, hs, h⟩ => ⟨α, W, ρ, m, hr, hs, h.bind.mono fun d m1 α1 W1 H1 e1 hr1 h1 v rv => by
    unfold isxO at h1
    split at h1
    · rename_i c fs
      split at h1
      · rename_i hc
        obtain ⟨a, rfl, hE⟩ := exc_rp rv
        obtain ⟨q, hq⟩ : ∃ q, xs[c]? = some q := ⟨xs[c], List.getElem?_eq_getElem hc⟩
        rw [hX.K]
        exact ⟨a, T.ca c, .ref (T.ca j), _, js.contains c, rfl, .own _, hE, (C c q hq).isi, by rw [hjs c q hq]; exact (C c q hq).sub j qj hj, h1.here hr1 _ (by show Rp T W1 H1 _ _; simp only [Rp])⟩
      · exact h1.elim
    · exact h1.elim⟩
/-- .. C ValueError -/
theorem g_isv {xs : List Xc} {js : List Nat} {e : Expr} {fe : Ev} {p pt pos : Pos} (hX : CxOk T X) (C : ∀ c q, xs[c]? = some q → XcOk xs T X c q) (hjs : ∀ c q, xs[c]? = some q → js.contains c = true) (he : PE X e (tD T fe)) (hg : Gl X "isinstance") (hm : X.mg "isinstance" = none) (hn : Gl X "ValueError") (hmn : X.mg "ValueError" = none)
    (h1 : starEach (e :: [.Name "ValueError" pt]) X.env = (false, eval e X.env) :: starEach [.Name "ValueError" pt] X.env) (h2 : starEach [.Name "ValueError" pt] X.env = (false, eval (.Name "ValueError" pt) X.env) :: starEach [] X.env) (hpl : (backTo pos (starEach [.Name "ValueError" pt] X.env)).any (·.1) = false) :
    PE X (.Call (.Name "isinstance" p) [e, .Name "ValueError" pt] [] pos) (tD T fun ρ m => (fe ρ m).bind fun d m1 => isxO xs.length js d m1) :=
  PE.weak (pe_callB (id := "isinstance") call_isx hg hm (by decide +kernel) (pa_cons he (pa_cons (pe_bltn (v := .ty "ValueError") hn hmn (by decide +kernel) rfl (by decide) (by decide)) pa_nil h2) h1) (by decide) (by decide) h1 hpl) fun σ H Q ⟨α, W, ρ, m, hr, hs, h⟩ => ⟨α, W, ρ, m, hr, hs, h.bind.mono fun d m1 α1 W1 H1 e1 hr1 h1 v rv => by
    unfold isxO at h1
    split at h1
    · rename_i c fs
      split at h1
      · rename_i hc
        obtain ⟨a, rfl, hE⟩ := exc_rp rv
        obtain ⟨q, hq⟩ : ∃ q, xs[c]? = some q := ⟨xs[c], List.getElem?_eq_getElem hc⟩
        rw [hX.K]
        exact ⟨a, T.ca c, .ty "ValueError", _, js.contains c, rfl, .ty _, hE, (C c q hq).isi, by rw [hjs c q hq]; exact (C c q hq).ve, h1.here hr1 _ (by show Rp T W1 H1 _ _; simp only [Rp])⟩
      · exact h1.elim
    · exact h1.elim⟩
/-- a field of an exception -/
theorem g_fldx {xs : List Xc} {cks : List (Nat × Nat)} {f : Str} {e : Expr} {fe : Ev} {pos : Pos} (hX : CxOk T X) (C : ∀ c q, xs[c]? = some q → XcOk xs T X c q) (hck : ∀ c k, cks.lookup c = some k → ∃ q, xs[c]? = some q ∧ q.own = true ∧ q.flds[k]? = some f) (he : PE X e (tD T fe)) (hb : attributeBase e f X.env (eval e X.env) = eval e X.env) :
    PE X (.Attribute e f pos) (tD T fun ρ m => (fe ρ m).bind fun d m1 => fldxO cks d m1) :=
  PE.weak (pe_xv he hb) fun σ H Q ⟨α, W, ρ, m, hr, hs, h⟩ => ⟨α, W, ρ, m, hr, hs, h.bind.mono fun d m1 α1 W1 H1 e1 hr1 h1 v rv => by
    unfold fldxO at h1
    split at h1
    · rename_i c fs
      split at h1
      · rename_i k hk
        obtain ⟨q, hq, ho, hf⟩ := hck c k hk
        obtain ⟨_, g2, _, g3, _⟩ := (C c q hq).init ho
        obtain ⟨g4, g5⟩ := g3 k f hf
        have rv : Rp T W1 H1 (.exc c fs) v := rv
        simp only [Rp] at rv
        obtain ⟨a, rfl, _, h2⟩ := rv
        rw [hX.K]
        cases ex : fs[k]? with
        | none => rw [ex] at h1; exact h1.elim
        | some x =>
          rw [ex] at h1
          rcases h2 with ⟨dd, ys, r, _, q4, q5, q6, q7⟩ | ⟨rfl, _⟩
          · obtain ⟨u, q8, q9⟩ := q7.get' ex
            obtain ⟨f', q10, q11⟩ := q6 k u q8
            rw [g4] at q10
            cases q10
            exact ⟨a, T.ca c, dd, r, u, rfl, g2, g5, q4, q5, q11, h1.here hr1 u q9⟩
          · simp at ex
      · exact h1.elim
    · exact h1.elim⟩
theorem mc_of {o : Expr} {m : Str} {apos pos : Pos} {args : List Expr} {env : PySem.Env} (hb : attributeBase o m env (eval o env) = eval o env) (hl : (apos.endLine == pos.line) = true) (hs : args.all noStar = true) (hn : args.length < 30) :
    eval (.Call (.Attribute o m apos) args [] pos) env = (do
      let ov ← eval o env
      standAt apos.atName
      let (f, first) ← holding [ov] (getMethod ov m (plainOf o env))
      callWith pos f first (backTo pos (starEach args env)) (backToKw pos (keywordEach [] env))) := by
  have hf : methodCallForm (args.length + ([] : List Keyword).length) (backTo pos (starEach args env)) (backToKw pos (keywordEach [] env)) = true := by
    unfold methodCallForm
    have h1 : (backTo pos (starEach args env)).all (!·.1) = true := by
      have := pl_of (env := env) (pos := pos) hs
      rw [List.all_eq_true]
      intro x hx
      rw [List.any_eq_false] at this
      simpa using this x hx
    rw [h1]
    simp only [keywordEach, backToKw, List.map_nil, List.all_nil, List.isEmpty_nil, Bool.true_and, if_true, List.length_nil]
    exact decide_eq_true (by omega)
  show (do
    let ov ← attributeBase o m env (eval o env)
    standAt apos.atName
    methodCall o m apos pos env ov (args.length + ([] : List Keyword).length) (backTo pos (starEach args env)) (backToKw pos (keywordEach [] env))) = _
  rw [hb]
  congr 1
  funext ov
  congr 1
  funext _
  exact mcall_line hf hl
end Lot
/-! LotY: built-in methods of lists and dicts. -/
namespace Lot
open PySem PySem.Spec PyProof.Rows L2
variable {T : Tb} {X : Cx}
/-- what a built-in method promises of the small language's values -/
def rM (T : Tb) (b : Bm) : V → List V → Hp → VK → Prop := fun x vs H Q => ∃ α W m d ds, HR T α W H m ∧ RD T α W H d x ∧ RDL T α W H ds vs ∧ Hg T α W H (bmD b d ds m) (fin T Q)
theorem MtR.weak {id : String} {r r' : V → List V → Hp → VK → Prop} (h : MtR X id r) (w : ∀ x vs H Q, r' x vs H Q → r x vs H Q) : MtR X id r' :=
  fun pins s σ H x xs v us Q I r1 r2 q => h pins s σ H x xs v us Q I r1 r2 (w _ _ _ _ q)
theorem few_of {es : List Expr} {env : PySem.Env} {pos : Pos} (hs : es.all noStar = true) (hn : es.length < 30) :
    ((backTo pos (starEach es env)).all (fun x => !x.1) && (backToKw pos (keywordEach [] env)).all (fun x => x.1.isSome) && decide (es.length + ([] : List Keyword).length + (if ([] : List Keyword).isEmpty then 0 else 1) < 30)) = true := by
  have h1 : (backTo pos (starEach es env)).all (!·.1) = true := by
    have := pl_of (env := env) (pos := pos) hs
    rw [List.all_eq_true]
    intro x hx
    rw [List.any_eq_false] at this
    simpa using this x hx
  rw [h1]
  simp only [keywordEach, backToKw, List.map_nil, List.all_nil, List.isEmpty_nil, Bool.true_and, if_true, List.length_nil]
  exact decide_eq_true (by omega)
theorem g_bm {b : Bm} {Ty id : String} {name : Str} {o e : Expr} {es : List Expr} {fo : Ev} {fs : Env → Mem → Out (List D)} {apos pos : Pos} (pa : PlainAttrs Ty) (slot : Slot Ty name id) (hty : typeOf (.builtin id) = pure (.type "method_descriptor")) (hm : MtR X id (rM T b))
    (ht : ∀ α W H m d v, HR T α W H m → RD T α W H d v → bmT b d m = true → tyV X.K Ty v H) (ho : PE X o (tD T fo)) (ha : PA X (e :: es) (tL T fs)) (hb : noCall o = true) (hs : (e :: es).all noStar = true) (hn : (e :: es).length < 30) (hl : (apos.endLine == pos.line) = true) :
    PE X (.Call (.Attribute o name apos) (e :: es) [] pos) (tD T fun ρ m => (fo ρ m).bind fun d m1 => if bmT b d m1 then (fs ρ m1).bind fun ds m2 => bmD b d ds m2 else .bad) := by
  have hs' := hs
  rw [List.all_cons, Bool.and_eq_true] at hs'
  refine PE.weak (pe_bm pa slot hty hm ho ha (atb hb) (few_of hs hn) hl (star1 hs'.1) (pl_of hs'.2)) fun σ H Q ⟨α, W, ρ, m, hr, hs, h⟩ => ⟨α, W, ρ, m, hr, hs, h.bind.mono fun d m1 α1 W1 H1 e1 hr1 h1 v rv => ?_⟩
  split at h1
  · rename_i hT
    exact ⟨ht _ _ _ _ _ _ hr1 rv hT, α1, W1, ρ, m1, hr1, hs.ext e1, h1.bind.mono fun ds m2 α2 W2 H2 e2 hr2 h2 vs rvs => ⟨α2, W2, m2, d, ds, hr2, rv.ext e2, rvs, h2⟩⟩
  · exact h1.elim
theorem bm_ty {b : Bm} {α : Al} {W : Addr → Prop} {H : Hp} {m : Mem} {d : D} {v : V} (hr : HR T α W H m) (r : RD T α W H d v) (h : bmT b d m = true) :
    (bmTy b = 0 → tyV X.K "list" v H) ∧ (bmTy b = 1 → tyV X.K "dict" v H) ∧ (bmTy b = 2 → tyV X.K "str" v H) := by
  unfold bmT at h
  split at h
  · rename_i l e
    obtain ⟨a, xs, rfl, h1, _⟩ := (rd_rc hr r e).lst
    rw [beq_iff_eq] at h
    exact ⟨fun _ => .inl ⟨rfl, xs, SqL.of h1⟩, fun z => absurd (h.symm.trans z) (by decide), fun z => absurd (h.symm.trans z) (by decide)⟩
  · rename_i t l e
    rw [beq_iff_eq] at h
    refine ⟨fun z => absurd (h.symm.trans z) (by decide), fun _ => ?_, fun z => absurd (h.symm.trans z) (by decide)⟩
    cases t with
    | false => obtain ⟨a, kvs, rfl, h1, _⟩ := (rd_rc hr r e).dicF; exact .inr (.inr (.inl ⟨rfl, .inl ⟨kvs, h1⟩⟩))
    | true => obtain ⟨a, kvs, rfl, h1, _⟩ := (rd_rc hr r e).dicT; exact .inr (.inr (.inl ⟨rfl, .inr ⟨kvs, h1⟩⟩))
  · rename_i z e
    rw [beq_iff_eq] at h
    refine ⟨fun z => absurd (h.symm.trans z) (by decide), fun z => absurd (h.symm.trans z) (by decide), fun _ => ?_⟩
    rcases rd_rc hr r e with h1 | ⟨a, _, h1⟩
    · simp only [Rp] at h1
      subst h1
      rfl
    · exact (show False from h1).elim
  · cases h
/-- a list in the memory gets other items -/
theorem Hg.setL {α : Al} {W : Addr → Prop} {H : Hp} {m : Mem} {n k : Nat} {l l' : List P} {a : Addr} {xs' : List V} {Q : VK} (hr : HR T α W H m) (hc : cell m n k = some (.lst l)) (ha : α n k = some a) (r : RpL T W H l' xs') (h : Hg T α W H (.ok (.p .non) (setCell m n k (.lst l'))) (fin T Q)) : Q .non (upd H a (.lst xs')) := by
  obtain ⟨b, hb, hw, _⟩ := hr.cel n k _ hc
  rw [ha] at hb; cases hb
  have e : Ext α W H α W (upd H a (.lst xs')) := ⟨fun _ _ _ h => h, fun b o' h q => ⟨by rw [upd_ne (fun z => h (by rw [z]; exact hw))]; exact q, h⟩⟩
  obtain ⟨e1, hr1⟩ := hr.write (y := .lst l') hc ha (o := .lst xs') ⟨_, upd_same, RpL.ext e _ _ r⟩
  exact h _ _ _ e1 hr1 .non (by simp only [RD, Rp])
theorem m_append : MtR X "list.append" (rM T .append) := by
  refine MtR.weak mt_append fun x vs H Q ⟨α, W, m, d, ds, hr, rd', rv, h⟩ => ?_
  have h : Hg T α W H (appendO d ds m) (fin T Q) := h
  unfold appendO at h
  split at h
  · rename_i n k y _
    split at h
    · rename_i l hc
      split at h
      · rename_i hl
        obtain ⟨a, ha, rfl⟩ := rd'
        obtain ⟨u, r, rfl, ru, rfl⟩ := rv
        obtain ⟨b, hb, hw, xs, h1, h2⟩ := hr.cel n k _ hc
        rw [ha] at hb; cases hb
        exact ⟨a, xs, u, rfl, rfl, h1, by rw [h2.len, ← line_eq]; exact hl, h.setL hr hc ha (h2.app (by simp only [RpL]; exact ⟨u, [], rfl, ru, rfl⟩))⟩
      · exact h.elim
    · exact h.elim
  · exact h.elim
theorem m_insert : MtR X "list.insert" (rM T .insert) := by
  refine MtR.weak mt_insert fun x vs H Q ⟨α, W, m, d, ds, hr, rd', rv, h⟩ => ?_
  have h : Hg T α W H (insertO d ds m) (fin T Q) := h
  unfold insertO at h
  split at h
  · rename_i n k i y _
    split at h
    · rename_i l hc
      split at h
      · rename_i hl
        obtain ⟨a, ha, rfl⟩ := rd'
        obtain ⟨u1, r1, rfl, ru1, u2, r2, rfl, ru2, rfl⟩ := rv
        have e1 : u1 = .int i := by simpa only [RD, Rp] using ru1
        subst e1
        obtain ⟨b, hb, hw, xs, h1, h2⟩ := hr.cel n k _ hc
        rw [ha] at hb; cases hb
        exact ⟨a, xs, i, u2, rfl, rfl, h1, by rw [h2.len, ← line_eq]; exact hl.1, hl.2.1, hl.2.2, h.setL hr hc ha (((h2.take _).app (by simp only [RpL]; exact ⟨u2, [], rfl, ru2, rfl⟩)).app (h2.drop _))⟩
      · exact h.elim
    · exact h.elim
  · exact h.elim
theorem m_extend : MtR X "list.extend" (rM T .extend) := by
  refine MtR.weak mt_extend fun x vs H Q ⟨α, W, m, d, ds, hr, rd', rv, h⟩ => ?_
  have h : Hg T α W H (extendO d ds m) (fin T Q) := h
  unfold extendO at h
  split at h
  · rename_i n k e _
    split at h
    · rename_i l z hc hz
      split at h
      · rename_i hl
        obtain ⟨a, ha, rfl⟩ := rd'
        obtain ⟨u, r, rfl, ru, rfl⟩ := rv
        obtain ⟨b, hb, hw, xs, h1, h2⟩ := hr.cel n k _ hc
        rw [ha] at hb; cases hb
        obtain ⟨a2, zs, rfl, h3, h4⟩ := (rd_rc hr ru hz).lst
        exact ⟨a, a2, xs, zs, rfl, rfl, h1, h3, by rw [h2.len, h4.len, ← line_eq]; exact hl, h.setL hr hc ha (h2.app h4)⟩
      · exact h.elim
    · exact h.elim
  · exact h.elim
theorem m_get1 (hX : CxOk T X) : MtR X "dict.get" (rM T .get1) := by
  intro pins s σ H x xs v us Q I rx rxs ⟨α, W, m, d, ds, hr, rd', rv, h⟩
  have h : Hg T α W H (getO1 d ds m) (fin T Q) := h
  unfold getO1 at h
  split at h
  · rename_i t l y hd _
    split at h
    · rename_i hk
      obtain ⟨u, r, rfl, ru, rfl⟩ := rv
      obtain ⟨a, o, rfl, hg, hh⟩ := get_dic (rd_rc hr rd' hd) hk ru
      cases rx
      obtain ⟨u1, rfl, r1⟩ := rxs.one
      refine d_get1 (by have := hX.hu; omega) I hg r1 fun w' s' I' r' => ⟨_, _, I', r', h _ _ _ Ext.refl hr _ ?_⟩
      cases hf : findK t l y <;> cases o <;> rw [hf] at hh <;> first | exact hh.elim | skip
      · simp only [Option.getD, RD, Rp]
      · exact hh
    · exact h.elim
  · exact h.elim
theorem m_get2 (hX : CxOk T X) : MtR X "dict.get" (rM T .get2) := by
  intro pins s σ H x xs v us Q I rx rxs ⟨α, W, m, d, ds, hr, rd', rv, h⟩
  have h : Hg T α W H (getO2 d ds m) (fin T Q) := h
  unfold getO2 at h
  split at h
  · rename_i t l y z hd _
    split at h
    · rename_i hk
      obtain ⟨u, r, rfl, ru, z', r', rfl, rz, rfl⟩ := rv
      obtain ⟨a, o, rfl, hg, hh⟩ := get_dic (rd_rc hr rd' hd) hk ru
      cases rx
      obtain ⟨u1, u2, rfl, r1, r2⟩ := rxs.two
      refine d_get2 (by have := hX.hu; omega) I hg r1 r2 fun w' s' I' r' => ⟨_, _, I', r', h _ _ _ Ext.refl hr _ ?_⟩
      cases hf : findK t l y <;> cases o <;> rw [hf] at hh <;> first | exact hh.elim | skip
      · exact rz
      · exact hh
    · exact h.elim
  · exact h.elim
theorem strs_eq : ∀ {l : List P} {ns : List Str}, asStrs l = some ns → l = ns.map P.str
  | [], ns, h => by cases h; rfl
  | .str b :: r, ns, h => by
    simp only [asStrs] at h
    cases e : asStrs r with
    | none => rw [e] at h; cases h
    | some k => rw [e] at h; cases h; rw [strs_eq e]; rfl
theorem rpl_strs {W : Addr → Prop} {H : Hp} : ∀ {ns : List Str} {xs : List V}, RpL T W H (ns.map P.str) xs → xs = ns.map V.str
  | [], xs, h => by simpa only [List.map_nil, RpL] using h
  | n :: ns, xs, h => by
    simp only [List.map_cons, RpL, Rp] at h
    obtain ⟨u, r, rfl, rfl, h2⟩ := h
    first | (obtain ⟨h3, h4⟩ := h2; subst h4; rw [rpl_strs h3]; rfl) | (rw [rpl_strs h2]; rfl)
theorem m_join (hX : CxOk T X) : MtR X "str.join" (rM T .join) := by
  refine MtR.weak mt_join fun x vs H Q ⟨α, W, m, d, ds, hr, rd', rv, h⟩ => ?_
  have h : Hg T α W H (joinO d ds m) (fin T Q) := h
  unfold joinO at h
  split at h
  · rename_i a e _
    split at h
    · rename_i l hl
      unfold joinT at h
      split at h
      · rename_i ys hys
        split at h
        · rename_i hz
          have ex : x = .str a := by simpa only [RD, Rp] using rd'
          subst ex
          obtain ⟨u, r, rfl, ru, rfl⟩ := rv
          obtain ⟨p, xs, rfl, h3, h4⟩ := (rd_rc hr ru hl).lst
          rw [strs_eq hys] at h4
          refine ⟨a, p, ys, rfl, rfl, .inl (by rw [← rpl_strs h4]; exact SqL.of h3), hz, ?_⟩
          rw [show Txt.join a ys = Str.join a ys from StrLaws.glued_eq_join a ys]
          exact h _ _ _ Ext.refl hr _ (by simp only [RD, Rp])
        · exact h.elim
      · exact h.elim
    · exact h.elim
  · exact h.elim
theorem atP_red {W : Addr → Prop} {H : Hp} {y : P} {u : V} (hy : Rp T W H y u) (sy : sc y = true) : ∀ {l : List P} {xs : List V} {j : Nat}, RpL T W H l xs → l.all sc = true → atP y l = some j →
    ∃ z, xs[j]? = some z ∧ eqV z u = true ∧ ∀ (m : Nat) (z' : V), m < j → xs[m]? = some z' → eqV z' u = false
  | [], _, _, _, _, h => by cases h
  | d :: ds, _, j, h, s, e => by
    simp only [RpL] at h
    obtain ⟨v, r, rfl, h1, h2⟩ := h
    rw [List.all_cons, Bool.and_eq_true] at s
    have q := eqV_sc h1 hy s.1 sy
    simp only [atP] at e
    by_cases c : eqP d y = true
    · rw [if_pos c] at e
      cases e
      exact ⟨v, rfl, q.trans c, fun m z' hm => absurd hm (Nat.not_lt_zero _)⟩
    · rw [if_neg c] at e
      cases e2 : atP y ds with
      | none => rw [e2] at e; cases e
      | some i =>
        rw [e2] at e
        cases e
        obtain ⟨z, a1, a2, a3⟩ := atP_red hy sy h2 s.2 e2
        refine ⟨z, a1, a2, fun m z' hm hz => ?_⟩
        cases m with
        | zero => cases hz; rw [q]; simpa using c
        | succ n => exact a3 n z' (Nat.lt_of_succ_lt_succ hm) hz
theorem m_index : MtR X "list.index" (rM T .index) := by
  refine MtR.weak mt_index fun x vs H Q ⟨α, W, m, d, ds, hr, rd', rv, h⟩ => ?_
  have h : Hg T α W H (indexO d ds m) (fin T Q) := h
  unfold indexO at h
  split at h
  · rename_i l y hl _
    unfold indexT at h
    split at h
    · rename_i hs
      rw [Bool.and_eq_true] at hs
      split at h
      · rename_i j hj
        obtain ⟨u, r, rfl, ru, rfl⟩ := rv
        obtain ⟨a, xs, rfl, h3, h4⟩ := (rd_rc hr rd' hl).lst
        obtain ⟨z, a1, a2, a3⟩ := atP_red ru hs.1 h4 hs.2 hj
        exact ⟨a, xs, u, j, z, rfl, rfl, SqL.of h3, sc_flatV ru hs.1, all_flatV h4 hs.2, a1, a2, a3, h _ _ _ Ext.refl hr _ (by simp only [RD, Rp])⟩
      · exact h.elim
    · exact h.elim
  · exact h.elim
theorem RpL.erase {W : Addr → Prop} {H : Hp} : ∀ {l : List P} {xs : List V} (j : Nat), RpL T W H l xs → RpL T W H (l.eraseIdx j) (xs.eraseIdx j)
  | [], xs, j, h => by
    simp only [RpL] at h
    subst h
    simp [RpL]
  | d :: ds, xs, j, h => by
    simp only [RpL] at h
    obtain ⟨v, r, rfl, h1, h2⟩ := h
    cases j with
    | zero => exact h2
    | succ j =>
      simp only [List.eraseIdx_cons_succ, RpL]
      exact ⟨v, _, rfl, h1, h2.erase j⟩
theorem m_popAt : MtR X "list.pop" (rM T .popAt) := by
  refine MtR.weak mt_popAt fun x vs H Q ⟨α, W, m, d, ds, hr, rd', rv, h⟩ => ?_
  have h : Hg T α W H (popAtO d ds m) (fin T Q) := h
  unfold popAtO at h
  split at h
  · rename_i n k i _
    split at h
    · rename_i l hc
      split at h
      · rename_i j hj
        split at h
        · rename_i y hy
          split at h
          · rename_i hb
            rw [Bool.and_eq_true, decide_eq_true_eq, decide_eq_true_eq] at hb
            obtain ⟨a, ha, rfl⟩ := rd'
            obtain ⟨u, r, rfl, ru, rfl⟩ := rv
            have e1 : u = .int i := by simpa only [RD, Rp] using ru
            subst e1
            obtain ⟨b, hb', hw, xs, h1, h2⟩ := hr.cel n k _ hc
            rw [ha] at hb'; cases hb'
            obtain ⟨v, hv, rv⟩ := h2.get' hy
            have e : Ext α W H α W (upd H a (.lst (xs.eraseIdx j))) := ⟨fun _ _ _ h => h, fun b o' h q => ⟨by rw [upd_ne (fun z => h (by rw [z]; exact hw))]; exact q, h⟩⟩
            obtain ⟨e1, hr1⟩ := hr.write (y := .lst (l.eraseIdx j)) hc ha (o := .lst (xs.eraseIdx j)) ⟨_, upd_same, RpL.ext e _ _ (h2.erase j)⟩
            refine ⟨a, xs, i, j, v, rfl, rfl, h1, hb.1, hb.2, ?_, hv, h _ _ _ e1 hr1 v (by show Rp T _ _ y v; exact Rp.ext e1 _ _ rv)⟩
            rw [h2.len]
            unfold ixN at hj
            unfold seqIndex?
            dsimp only
            split at hj
            · rename_i c0
              rw [if_neg (show ¬ i < 0 by omega)]
              split at hj
              · rename_i c1
                cases hj
                rw [if_pos (by rw [Bool.and_eq_true, decide_eq_true_eq, decide_eq_true_eq]; exact ⟨c0, c1⟩)]
              · cases hj
            · rename_i c0
              rw [if_pos (show i < 0 by omega)]
              split at hj
              · rename_i c1
                cases hj
                rw [if_pos (by rw [Bool.and_eq_true, decide_eq_true_eq, decide_eq_true_eq]; omega)]
              · cases hj
          · exact h.elim
        · exact h.elim
      · exact h.elim
    · exact h.elim
  · exact h.elim
/-- t.index(x), t a tuple of the top's texts -/
theorem g_gidx (hX : CxOk T X) {l : List P} {o e : Expr} {fe : Ev} {apos pos : Pos} (ho : PE X o (tD T fun _ m => .ok (.gt l) m)) (he : PE X e (tD T fe)) (hb : noCall o = true) (hs : noStar e = true) (hl : (apos.endLine == pos.line) = true) :
    PE X (.Call (.Attribute o "index" apos) [e] [] pos) (tD T fun ρ m => (fe ρ m).bind fun y m1 => gindexO l y m1) := by
  have ha := g_cons he g_nil (star1 (env := X.env) (es := []) hs)
  refine PE.weak (pe_bm (T := "tuple") (r := fun x xs H Q => ∃ p, ∃ ys : List Str, ∃ z j, x = .ref p ∧ xs = [.str z] ∧ SqT X.K H p (ys.map V.str) ∧ ys[j]? = some z ∧ (∀ m, m < j → ys[m]? ≠ some z) ∧ Q (.int (j : Nat)) H) PySem.F.plainAttrs_tuple PySem.F.slot_tuple_index PySem.F.type_tuple_index mt_tup_index ho ha (atb hb) (few_of (by simp [hs]) (by simp)) hl (star1 hs) (pl_of (by simp))) fun σ H Q ⟨α, W, ρ, m, hr, hs, h⟩ => ?_
  refine ⟨α, W, ρ, m, hr, hs, fun α1 W1 H1 e1 hr1 v rv => ?_⟩
  obtain ⟨a, xs, rfl, kt, rl⟩ := rv
  have hty : tyV X.K "tuple" (.ref a) H1 := by
    obtain ⟨o, its, n, k1, k2, k3, _⟩ := kt
    exact .inr (.inl ⟨rfl, o, by rw [hX.K]; exact k1, k2, k3⟩)
  refine ⟨hty, α1, W1, ρ, m, hr1, hs.ext e1, ?_⟩
  have h2 : Hg T α1 W1 H1 (((fe ρ m).bind fun d m1 => (Out.ok [] m1).bind fun ds m2 => .ok (d :: ds) m2).bind fun ds m1 => match ds with | [y] => gindexO l y m1 | _ => .bad) (fin T Q) := by
    rw [Out.bind_assoc]; exact Hg.from e1 h
  refine h2.bind.mono fun ds m2 α2 W2 H2 e2 hr2 h3 vs rvs => ?_
  split at h3
  · rename_i y
    unfold gindexO at h3
    split at h3
    · rename_i s
      split at h3
      · rename_i ns hns
        split at h3
        · rename_i j hj
          obtain ⟨u, r, rfl, ru, rfl⟩ := rvs
          have eu : u = .str s := by simpa only [RD, Rp] using ru
          subst eu
          rw [strs_eq hns] at rl
          have ex := rpl_strs rl
          subst ex
          obtain ⟨j0, j1, j2⟩ := List.idxOf?_eq_some_iff.mp hj
          refine ⟨a, ns, s, j, rfl, rfl, by rw [hX.K]; exact kt.sq, ?_, ?_, h3.here hr2 _ (by simp only [RD, Rp])⟩
          · rw [List.getElem?_eq_getElem j0, j1]
          · intro q hq e
            have q0 : q < ns.length := by omega
            rw [List.getElem?_eq_getElem q0] at e
            exact j2 q hq (Option.some.inj e)
        · exact h3.elim
      · exact h3.elim
    · exact h3.elim
  · exact h3.elim
/-- the methods' names -/
def bmB (b : Bm) (nm : Str) : Bool := match b with
  | .append => nm == ("append" : Str)
  | .insert => nm == ("insert" : Str)
  | .extend => nm == ("extend" : Str)
  | .get1 => nm == ("get" : Str)
  | .get2 => nm == ("get" : Str)
  | .join => nm == ("join" : Str)
  | .index => nm == ("index" : Str)
  | .popAt => nm == ("pop" : Str)
  | _ => false
theorem g_bmB (hX : CxOk T X) {b : Bm} {name : Str} {o e : Expr} {es : List Expr} {fo : Ev} {fs : Env → Mem → Out (List D)} {apos pos : Pos} (h : bmB b name = true) (ho : PE X o (tD T fo)) (ha : PA X (e :: es) (tL T fs)) (hb : noCall o = true) (hs : (e :: es).all noStar = true) (hn : (e :: es).length < 30) (hl : (apos.endLine == pos.line) = true) :
    PE X (.Call (.Attribute o name apos) (e :: es) [] pos) (tD T fun ρ m => (fo ρ m).bind fun d m1 => if bmT b d m1 then (fs ρ m1).bind fun ds m2 => bmD b d ds m2 else .bad) := by
  unfold bmB at h
  split at h
  · cases (beq_iff_eq.mp h)
    exact g_bm F.plainAttrs_list F.slot_list_append F.type_list_append m_append (fun α W H m d v hr r q => (bm_ty (X := X) hr r q).1 rfl) ho ha hb hs hn hl
  · cases (beq_iff_eq.mp h)
    exact g_bm F.plainAttrs_list F.slot_list_insert F.type_list_insert m_insert (fun α W H m d v hr r q => (bm_ty (X := X) hr r q).1 rfl) ho ha hb hs hn hl
  · cases (beq_iff_eq.mp h)
    exact g_bm F.plainAttrs_list F.slot_list_extend F.type_list_extend m_extend (fun α W H m d v hr r q => (bm_ty (X := X) hr r q).1 rfl) ho ha hb hs hn hl
  · cases (beq_iff_eq.mp h)
    exact g_bm F.plainAttrs_dict F.slot_dict_get F.type_dict_get (m_get1 hX) (fun α W H m d v hr r q => (bm_ty (X := X) hr r q).2.1 rfl) ho ha hb hs hn hl
  · cases (beq_iff_eq.mp h)
    exact g_bm F.plainAttrs_dict F.slot_dict_get F.type_dict_get (m_get2 hX) (fun α W H m d v hr r q => (bm_ty (X := X) hr r q).2.1 rfl) ho ha hb hs hn hl
  · cases (beq_iff_eq.mp h)
    exact g_bm F.plainAttrs_str F.slot_str_join F.type_str_join (m_join hX) (fun α W H m d v hr r q => (bm_ty (X := X) hr r q).2.2 rfl) ho ha hb hs hn hl
  · cases (beq_iff_eq.mp h)
    exact g_bm F.plainAttrs_list F.slot_list_index F.type_list_index m_index (fun α W H m d v hr r q => (bm_ty (X := X) hr r q).1 rfl) ho ha hb hs hn hl
  · cases (beq_iff_eq.mp h)
    exact g_bm F.plainAttrs_list F.slot_list_pop F.type_list_pop m_popAt (fun α W H m d v hr r q => (bm_ty (X := X) hr r q).1 rfl) ho ha hb hs hn hl
  · cases h
end Lot
/-! LotZ: sorted. -/
namespace Lot
open PySem PySem.Spec PyProof.Rows L2
variable {T : Tb} {X : Cx}
/-- a list of ints in order is the only one of its items -/
theorem ints_uniq {l l' : List Int} (h : l.Perm l') (a : l.Pairwise (· ≤ ·)) (b : l'.Pairwise (· ≤ ·)) : l = l' :=
  List.Perm.eq_of_pairwise (fun x y _ _ h1 h2 => Int.le_antisymm h1 h2) a b h
theorem ms_ints (ns : List Int) : (ns.mergeSort leI).Pairwise (· ≤ ·) := by
  have h := List.pairwise_mergeSort (le := leI) (fun a b c h1 h2 => by simp only [leI, decide_eq_true_eq] at *; omega) (fun a b => by simp only [leI, Bool.or_eq_true, decide_eq_true_eq]; omega) ns
  exact h.imp fun z => by simpa only [leI, decide_eq_true_eq] using z
/-- sorted(xs), ints -/
theorem p_sortedI (hX : CxOk T X) : CallR X (.builtin "sorted") (fun vs H Q => ∃ α W m ds l ns, HR T α W H m ∧ RDL T α W H ds vs ∧ rds ds m = some [.lst l] ∧ asInts l = some ns ∧ HgF T α W H (.ok (.p (.lst ((ns.mergeSort leI).map .int))) m) Q) := by
  refine CallR.weak cr_sortedI fun vs H Q ⟨α, W, m, ds, l, ns, hr, r, e, ei, h⟩ => ?_
  obtain ⟨v, rfl, rv⟩ := rcl1 (rds_rc hr r e)
  obtain ⟨a, xs, rfl, h1, h2⟩ := rv.lst
  rw [ints_eq ei] at h2
  refine ⟨a, ns, rfl, by rw [← rpl_ints h2]; exact SqL.of h1, fun ns' p hp hs hf => ?_⟩
  rw [ints_uniq (hp.trans (List.mergeSort_perm ns leI).symm) hs (ms_ints ns)]
  exact h.new hr (ints_rpl _) hf
/-! texts -/
theorem leS_iff {a b : Str} : leS a b = true ↔ a.cps.toList ≤ b.cps.toList := by
  simp only [leS, Bool.not_eq_true', decide_eq_false_iff_not]
  exact List.not_lt
theorem leS_trans {a b c : Str} (h : leS a b = true) (h' : leS b c = true) : leS a c = true := leS_iff.mpr (List.le_trans (leS_iff.mp h) (leS_iff.mp h'))
theorem leS_total (a b : Str) : (leS a b || leS b a) = true := by
  rw [Bool.or_eq_true, leS_iff, leS_iff]
  exact List.le_total _ _
theorem leS_anti {a b : Str} (h : leS a b = true) (h' : leS b a = true) : a = b := by
  have e := List.le_antisymm (leS_iff.mp h) (leS_iff.mp h')
  cases a; cases b
  simpa [Array.toList_inj] using e
theorem rising_pw : ∀ {p : Str} {r : List Str}, risingS p r = true → (p :: r).Pairwise (fun a b => leS a b = true)
  | p, [], _ => List.pairwise_singleton _ _
  | p, x :: r, h => by
    simp only [risingS, Bool.and_eq_true, Bool.not_eq_true'] at h
    have ih := rising_pw h.2
    have e : leS p x = true := by simp only [leS]; rw [← ltCps_eq, h.1]; rfl
    refine List.pairwise_cons.mpr ⟨fun y hy => ?_, ih⟩
    rcases List.mem_cons.mp hy with q | q
    · rw [q]; exact e
    · exact leS_trans e ((List.pairwise_cons.mp ih).1 y q)
theorem sortedS_pw {r : List Str} (h : sortedS r = true) : r.Pairwise (fun a b => leS a b = true) := by
  cases r with
  | nil => exact List.Pairwise.nil
  | cons x r => exact rising_pw h
theorem ms_strs (ns : List Str) : (ns.mergeSort leS).Pairwise (fun a b => leS a b = true) :=
  List.pairwise_mergeSort (le := leS) (fun a b c h1 h2 => leS_trans h1 h2) leS_total ns
theorem strs_uniq {l l' : List Str} (h : l.Perm l') (a : l.Pairwise (fun a b => leS a b = true)) (b : l'.Pairwise (fun a b => leS a b = true)) : l = l' :=
  List.Perm.eq_of_pairwise (fun x y _ _ h1 h2 => leS_anti h1 h2) a b h
theorem strs_rpl {W : Addr → Prop} {H : Hp} : ∀ (ns : List Str), RpL T W H (ns.map P.str) (ns.map V.str)
  | [] => by simp only [List.map_nil, RpL]
  | n :: ns => by simp only [List.map_cons, RpL, Rp]; exact ⟨_, _, rfl, rfl, strs_rpl ns⟩
/-- sorted(xs), fewer than 64 texts -/
theorem p_sortedS (hX : CxOk T X) : CallR X (.builtin "sorted") (fun vs H Q => ∃ α W m ds l ns, HR T α W H m ∧ RDL T α W H ds vs ∧ rds ds m = some [.lst l] ∧ asStrs l = some ns ∧ ns.length < 64 ∧ HgF T α W H (.ok (.p (.lst ((ns.mergeSort leS).map .str))) m) Q) := by
  refine CallR.weak cr_sortedS fun vs H Q ⟨α, W, m, ds, l, ns, hr, r, e, ei, h64, h⟩ => ?_
  obtain ⟨v, rfl, rv⟩ := rcl1 (rds_rc hr r e)
  obtain ⟨a, xs, rfl, h1, h2⟩ := rv.lst
  rw [strs_eq ei] at h2
  refine ⟨a, ns, rfl, by rw [← rpl_strs h2]; exact SqL.of h1, h64, fun ns' p hp hs hf => ?_⟩
  rw [strs_uniq (hp.trans (List.mergeSort_perm ns leS).symm) (sortedS_pw hs) (ms_strs ns)]
  exact h.new hr (strs_rpl _) hf
/-- sorted(xs): ints, any number; fewer than 64 texts -/
theorem p_sorted (hX : CxOk T X) : CallR X (.builtin "sorted") (rP T (pureO .sorted)) := by
  refine CallR.weak ((p_sortedI hX).or (p_sortedS hX)) fun vs H Q ⟨α, W, m, ds, hr, r, h⟩ => ?_
  unfold pureO at h
  cases e : rds ds m with
  | none => rw [e] at h; exact (h.elim id id).elim
  | some ys =>
    rw [e] at h
    match ys, e, h with
    | [.lst l], e, h =>
      cases e2 : sortP l with
      | none => simp only [primP, e2] at h; exact (h.elim id id).elim
      | some k =>
        simp only [primP, e2] at h
        unfold sortP at e2
        split at e2
        · cases e2
        · split at e2
          · rename_i ns ei
            cases e2
            exact .inl ⟨α, W, m, ds, l, _, hr, r, e, by assumption, h.F⟩
          · rename_i ss _ ei
            split at e2
            · rename_i h64
              cases e2
              exact .inr ⟨α, W, m, ds, l, ss, hr, r, e, ei, h64, h.F⟩
            · cases e2
          · cases e2
    | [], e, h => exact (h.elim id id).elim
    | [.non], e, h | [.bl _], e, h | [.int _], e, h | [.str _], e, h | [.tup _], e, h | [.dic _ _], e, h | [.set _], e, h | [.ins _ _], e, h | [.exc _ _], e, h => exact (h.elim id id).elim
    | _ :: _ :: _, e, h => exact (h.elim id id).elim
/-! dict(xs), a list of pairs -/
theorem rp_kV {W : Addr → Prop} {H : Hp} {a : P} {k : Key} {u : V} (h : ky a = some k) (r : Rp T W H a u) : u = kV k := by
  have h3 : Rp T W H a (kV k) := rp_ky h
  cases a <;> first | cases h | skip
  all_goals (simp only [Rp] at r; subst r; rfl)
theorem merge_red {K : PySem.W.Frag} {W : Addr → Prop} {H : Hp} : ∀ {l : List P} {xs : List V} {acc : List P} {kvs : List (Key × V)}, RpL T W H l xs → l.all (isPair false) = true → RpD T W H acc kvs → (kvs.map (·.1)).Nodup →
    ∃ (ps : List Addr) (more : List (Key × V)), xs = ps.map V.ref ∧ Paired (fun p kv => SqT K H p [kV kv.1, kv.2]) ps more ∧ RpD T W H (l.foldl (fun acc z => putK false acc (keyOf z) (valOf z)) acc) (mergeK kvs more) ∧ ((mergeK kvs more).map (·.1)).Nodup
  | [], _, acc, kvs, h, _, ra, nd => by
    simp only [RpL] at h
    subst h
    exact ⟨[], [], rfl, .nil, ra, nd⟩
  | d :: ds, _, acc, kvs, h, s, ra, nd => by
    simp only [RpL] at h
    obtain ⟨v, r, rfl, h1, h2⟩ := h
    rw [List.all_cons, Bool.and_eq_true] at s
    obtain ⟨s1, s2⟩ := s
    unfold isPair at s1
    split at s1
    · rename_i k y
      simp only [kOk, Bool.false_eq_true, if_false] at s1
      obtain ⟨κ, e⟩ := Option.isSome_iff_exists.mp s1
      obtain ⟨a, zs, rfl, ht, hz⟩ := Rc.tup (T := T) (W := W) (H := H) (l := [k, y]) (.inl h1)
      simp only [RpL] at hz
      obtain ⟨u, _, rfl, ru, u2, _, rfl, ru2, rfl⟩ := hz
      have eu := rp_kV e ru
      subst eu
      obtain ⟨ps, more, e1, e2, e3, e4⟩ := merge_red (K := K) h2 s2 (putD e ru2 ra) (putK_keys kvs κ u2 nd)
      exact ⟨a :: ps, (κ, u2) :: more, by rw [e1]; rfl, .cons ht.sq e2, e3, e4⟩
    · cases s1
theorem p_dict (hX : CxOk T X) : CallR X (.type "dict") (rP T dictO) := by
  refine CallR.weak (call_dictP hX.calm) fun vs H Q ⟨α, W, m, ds, hr, r, h⟩ => ?_
  unfold dictO at h
  split at h
  · rename_i l e
    split at h
    · rename_i hc
      rw [Bool.and_eq_true] at hc
      obtain ⟨v, rfl, rv⟩ := rcl1 (rds_rc hr r e)
      obtain ⟨a, xs, rfl, h1, h2⟩ := rv.lst
      obtain ⟨ps, more, e1, e2, e3, e4⟩ := merge_red (K := X.K) (acc := []) (kvs := []) h2 hc.1 (by simp only [RpD]) (by simp)
      subst e1
      refine ⟨a, ps, more, rfl, SqL.of h1, e2, fun p hp => ?_⟩
      have h : Hg T α W H (.ok (.ref m.length 0) (m ++ [.val (.dic false (l.foldl (fun acc z => putK false acc (keyOf z) (valOf z)) []))])) (fin T Q) := h.elim id fun z => z.elim
      have x : Ext α W H α (wUp W p) (upd H p (.dK (mergeK [] more))) := .hid hp
      exact h (aUp α m.length 0 p) (wUp W p) _ (x.up (x.unset (hr.hid hp) (Nat.le_refl _))) ((hr.hid hp).put (.inr rfl) ⟨_, upd_same, e4, RpD.ext x _ _ e3⟩ (hr.noAl hp) (hr.noGh hp)) (.ref p) ⟨p, aUp_same, rfl⟩
    · exact (h.elim id id).elim
  · exact (h.elim id id).elim
end Lot
/-! LotP: the look whether a core term speaks of an expression; what holds of it then. -/
namespace Lot
open PySem PySem.Spec PyProof.Rows L2

/-- what a global name stands for -/
inductive GK where
  | blt | fn (i : Nat) | int (i : Int) | str (s : Str) | xc (j : Nat) | tup (l : List Str)
/-- the program by core terms, its global names, a def's names -/
structure Sg where
  g : Pg
  G : List (Str × GK)
  xs : List Xc
structure Loc1 where
  N : List Str
  sc : Scope
  cs : List (Str × NameKind)
def glb (S : Sg) (L : Loc1) (x : Str) : Option GK := match L.sc.names.lookup x with
  | some .globalImplicit => S.G.lookup x
  | _ => none
def isBlt (S : Sg) (L : Loc1) (x : Str) : Bool := match glb S L x with
  | some .blt => true
  | _ => false
def isFn (S : Sg) (L : Loc1) (x : Str) (f : Nat) : Bool := match glb S L x with
  | some (.fn i) => i == f
  | _ => false
def isXc (S : Sg) (L : Loc1) (x : Str) (c : Nat) : Bool := match glb S L x with
  | some (.xc i) => i == c
  | _ => false
def visB (L : Loc1) (x : Str) : Bool := match L.sc.names.lookup x with
  | some .local => true
  | some .cell => true
  | some .free => true
  | _ => false
def locB (L : Loc1) (x : Str) : Bool := match L.sc.names.lookup x with
  | some .local => true
  | some .cell => (match L.cs.lookup x with
    | some .cell => true
    | _ => false)
  | _ => false
def lclB (L : Loc1) (x : Str) : Bool := match L.sc.names.lookup x with
  | some .local => true
  | _ => false
def slotB (L : Loc1) (i : Nat) (x : Str) : Bool := match L.N[i]? with
  | some y => y == x && !(x == ("__debug__" : Str)) && !(x == ("__classdict__" : Str))
  | none => false
def bopB : BOp → Operator → Bool
  | .add, .Add => true | .sub, .Sub => true | .mul, .Mult => true | .fdiv, .FloorDiv => true | .mod, .Mod => true | .pow, .Pow => true
  | _, _ => false
def copB : COp → CmpOp → Bool
  | .eq, .Eq => true | .ne, .NotEq => true | .lt, .Lt => true | .le, .LtE => true | .gt, .Gt => true | .ge, .GtE => true | .is, .Is => true | .isnot, .IsNot => true | .inn, .In => true | .notin, .NotIn => true
  | _, _ => false
def litB : P → Const → Bool
  | .non, .none => true
  | .bl a, .bool b => a == b
  | .int a, .int b => a == b
  | .str a, .str b => a == b
  | _, _ => false
def prName : Pr → String
  | .len => "len" | .sorted => "sorted" | .tuple => "tuple" | .list => "list" | .dict => "dict" | .all => "all" | .any => "any" | .sum => "sum" | .int => "int" | .repr => "repr" | .min => "min" | .max => "max"
  | _ => ""
/-- built-ins that are served -/
def prOk : Pr → Bool
  | .len => true | .sorted => true | .tuple => true | .list => true | .dict => true | .all => true | .any => true | .sum => true | .int => true | .repr => true | .min => true | .max => true
  | _ => false
/-- a term of a list that is new -/
def isX : CE → Bool
  | .lst _ => true
  | .slice .. => true
  | .bin .. => true
  | .comp .. => true
  | .prim .list _ => true
  | .prim .sorted _ => true
  | _ => false
/-- a term whose truth is served -/
def tOk : CE → Bool
  | .ife .. => false
  | .alloc _ => false
  | .frz _ => false
  | _ => true
def Tg.sl : Tg → List Nat
  | .nm i => [i]
  | .tp l => l
/-- targets -/
def nmsB (L : Loc1) : List Nat → List Expr → Bool
  | [], [] => true
  | i :: is, .Name x _ :: es => slotB L i x && locB L x && nmsB L is es
  | _, _ => false
def tgB (L : Loc1) : Tg → Expr → Bool
  | .nm i, .Name x _ => slotB L i x && locB L x
  | .tp is, .Tuple es _ _ => nmsB L is es && is.length == es.length
  | _, _ => false
def relL (L : Loc1) (scope : Scope) : Loc1 := ⟨L.N, relS scope L.sc, scope.names⟩
def ownL (L : Loc1) (is : List Nat) : List (Str × Nat) := is.map fun i => ((L.N[i]?).getD ⟨#[]⟩, i)
def isNob : CE → Bool
  | .nob => true
  | _ => false
/-- an optional part -/
def optB (nb : Bool) (l : Option Expr) (f : Expr → Bool) : Bool := match l with
  | none => nb
  | some e => !nb && f e
/-- for which classes of exceptions isinstance says True -/
def isxB (S : Sg) (L : Loc1) (js : List Nat) (z : Str) : Bool := match glb S L z with
  | some .blt => z == ("ValueError" : Str) && ((List.range S.xs.length).all fun c => js.contains c)
  | some (.xc j) => (match S.xs[j]? with
    | some q => z == q.name && ((List.range S.xs.length).all fun c => match S.xs[c]? with | some r => js.contains c == r.ups.contains j | none => false)
    | none => false)
  | _ => false
section
variable (S : Sg)
mutual
def chkE : CE → Loc1 → Expr → Bool
  | .var i, L, e => match e with
    | .Name x _ => slotB L i x && visB L x
    | _ => false
  | .lit p, _, e => match e with
    | .Constant c _ _ => litB p c
    | _ => false
  | .gint _ i, L, e => match e with
    | .Name x _ => (match glb S L x with | some (.int j) => i == j && !(x == ("__debug__" : Str)) | _ => false)
    | _ => false
  | .gstr _ s, L, e => match e with
    | .Name x _ => (match glb S L x with | some (.str t) => s == t && !(x == ("__debug__" : Str)) | _ => false)
    | _ => false
  | .gtup _ l, L, e => match e with
    | .Name x _ => (match glb S L x with | some (.tup r) => decide (asStrs l = some r) && !(x == ("__debug__" : Str)) | _ => false)
    | _ => false
  | .tup es, L, e => match e with
    | .Tuple xs _ _ => chkEs es L xs
    | _ => false
  | .lst es, L, e => match e with
    | .List xs _ => chkEs es L xs
    | _ => false
  | .alloc c, L, e => isX c && chkE c L e
  | .frz c, L, e => chkE c L e
  | .bin op a b, L, e => match e with
    | .BinOp x o y _ => bopB op o && chkE a L x && chkE b L y
    | _ => false
  | .neg a, L, e => match e with
    | .UnaryOp .USub x _ => chkE a L x
    | _ => false
  | .not a, L, e => match e with
    | .UnaryOp .Not x _ => tOk a && chkE a L x
    | _ => false
  | .cmp op a b, L, e => match e with
    | .Compare x [o] [y] _ => copB op o && noSet y && chkE a L x && chkE b L y
    | _ => false
  | .chain op1 op2 a b c, L, e => match e with
    | .Compare x [o1, o2] [y, z] _ => copB op1 o1 && copB op2 o2 && noSet z && chkE a L x && chkE b L y && chkE c L z
    | _ => false
  | .and es, L, e => match e with
    | .BoolOp .And (x :: xs) _ => chkB es L (x :: xs)
    | _ => false
  | .or es, L, e => match e with
    | .BoolOp .Or (x :: xs) _ => chkB es L (x :: xs)
    | _ => false
  | .ife c a b, L, e => match e with
    | .IfExp z x y _ => tOk c && chkE c L z && chkE a L x && chkE b L y
    | _ => false
  | .call f es, L, e => match e with
    | .Call (.Name x _) (y :: ys) [] _ => isFn S L x f && !(x == ("__debug__" : Str)) && chkEs es L (y :: ys)
    | _ => false
  | .prim (.isi [t]) (.cons a .nil), L, e => match e with
    | .Call (.Name x _) [y, .Name n _] [] _ => x == ("isinstance" : Str) && isBlt S L x && noStar y && isBlt S L n && n == Str.ofString t.nm && chkE a L y
    | _ => false
  | .prim (.isi [t, t2]) (.cons a .nil), L, e => match e with
    | .Call (.Name x _) [y, .Tuple [.Name n _, .Name n2 _] _ _] [] _ => x == ("isinstance" : Str) && isBlt S L x && noStar y && isBlt S L n && n == Str.ofString t.nm && isBlt S L n2 && n2 == Str.ofString t2.nm && chkE a L y
    | _ => false
  | .prim p es, L, e => match e with
    | .Call (.Name x _) (y :: ys) [] _ => prOk p && x == Str.ofString (prName p) && isBlt S L x && chkEs es L (y :: ys)
    | _ => false
  | .mkx c (some n) es, L, e => match e with
    | .Call (.Name x _) (y :: ys) [] _ => isXc S L x c && (match S.xs[c]? with | some q => q.own && x == q.name && n == q.flds.length && decide (n ≤ 1000) | none => false) && !(x == ("__debug__" : Str)) && chkEs es L (y :: ys)
    | _ => false
  | .mkx c none (.cons a .nil), L, e => match e with
    | .Call (.Name x _) [y] [] _ => isXc S L x c && (match S.xs[c]? with | some q => !q.own && x == q.name | none => false) && !(x == ("__debug__" : Str)) && noStar y && chkE a L y
    | _ => false
  | .isx n js a, L, e => match e with
    | .Call (.Name x _) [y, .Name z _] [] _ => x == ("isinstance" : Str) && isBlt S L x && noStar y && n == S.xs.length && !(z == ("__debug__" : Str)) && chkE a L y && isxB S L js z
    | _ => false
  | .fldx f cks a, L, e => match e with
    | .Attribute y f' _ => f' == f && noCall y && (cks.all fun ck => match S.xs[ck.1]? with | some q => q.own && (match q.flds[ck.2]? with | some g => g == f | none => false) | none => false) && chkE a L y
    | _ => false
  | .bmeth b o es, L, e => match e with
    | .Call (.Attribute x nm apos) (y :: ys) [] pos => bmB b nm && noCall x && (apos.endLine == pos.line) && decide ((y :: ys).length < 30) && chkE o L x && chkEs es L (y :: ys)
    | _ => false
  | .gidx n l a, L, e => match e with
    | .Call (.Attribute (.Name x p) nm apos) [y] [] pos => nm == ("index" : Str) && x == n && (apos.endLine == pos.line) && noStar y && (match glb S L x with | some (.tup r) => decide (asStrs l = some r) && !(x == ("__debug__" : Str)) | _ => false) && chkE a L y
    | _ => false
  | .ix o i, L, e => match e with
    | .Subscript x y _ => noSlice y && chkE o L x && chkE i L y
    | _ => false
  | .slice o lo hi, L, e => match e with
    | .Subscript x (.Slice l h none _) _ => chkE o L x && optB (isNob lo) l (fun e => chkE lo L e) && optB (isNob hi) h (fun e => chkE hi L e)
    | _ => false
  | .dcomp c1 c2 t tg it ifs, L, e => match e with
    | .DictComp x y [⟨u, i, fs, 0⟩] scope _ => !t && blkC L.N L.sc scope (ownL L tg.vars) && noSet i && chkI it L u i && tgB (relL L scope) tg u && chkIfs ifs (relL L scope) fs && chkE c1 (relL L scope) x && chkE c2 (relL L scope) y
    | _ => false
  | .comp elt tg it ifs, L, e => match e with
    | .ListComp x [⟨t, i, fs, 0⟩] scope _ => blkC L.N L.sc scope (ownL L tg.vars) && noSet i && chkI it L t i && tgB (relL L scope) tg t && chkIfs ifs (relL L scope) fs && chkE elt (relL L scope) x
    | _ => false
  | _, _, _ => false
def chkEs : CEs → Loc1 → List Expr → Bool
  | .nil, _, es => es.isEmpty
  | .cons c cs, L, es => match es with
    | e :: es => noStar e && chkE c L e && chkEs cs L es
    | [] => false
/-- parts of and, or -/
def chkB : CEs → Loc1 → List Expr → Bool
  | .nil, _, _ => false
  | .cons c .nil, L, es => match es with
    | [e] => tOk c && chkE c L e
    | _ => false
  | .cons c cs, L, es => match es with
    | e :: e2 :: es => tOk c && chkE c L e && chkB cs L (e2 :: es)
    | _ => false
def chkIfs : CEs → Loc1 → List Expr → Bool
  | .nil, _, es => es.isEmpty
  | .cons c .nil, L, es => match es with
    | [e] => tOk c && chkE c L e
    | _ => false
  | _, _, _ => false
def chkI : CI → Loc1 → Expr → Expr → Bool
  | .rng1 a, L, _, e => match e with
    | .Call (.Name x _) [y] [] _ => x == ("range" : Str) && isBlt S L x && noStar y && chkE a L y
    | _ => false
  | .rng a b, L, _, e => match e with
    | .Call (.Name x _) [y, z] [] _ => x == ("range" : Str) && isBlt S L x && noStar y && noStar z && chkE a L y && chkE b L z
    | _ => false
  | .enum a, L, t, e => match e with
    | .Call (.Name x _) [y] [] _ => x == ("enumerate" : Str) && isBlt S L x && noStar y && chkE a L y && (match t with | .Tuple .. => true | _ => false)
    | _ => false
  | .zip a b s, L, t, e => match e with
    | .Call (.Name x _) [y, z] [] _ => !s && x == ("zip" : Str) && isBlt S L x && noStar y && noStar z && chkE a L y && chkE b L z && (match t with | .Tuple .. => true | _ => false)
    | _ => false
  | .seq a, L, _, e => chkE a L e
  | _, _, _, _ => false
end
end
/-! ### what a look tells -/
/-- a global name's meaning -/
def GkOk (T : Tb) (X : Cx) (x : Str) : GK → Prop
  | .blt => X.mg x = none
  | .fn i => X.mg x = some (.ref (T.fa i))
  | .int i => ∃ u, X.mg x = some u ∧ RelV (.int i) u
  | .str s => ∃ u, X.mg x = some u ∧ RelV (.str s) u
  | .xc _ => True
  | .tup l => ∃ a, X.mg x = some (.ref a) ∧ KTup T.K a (l.map V.str)
structure Ctx (S : Sg) (d k : Nat) (T : Tb) (X : Cx) (L : Loc1) : Prop where
  ok : CxOk T X
  N : X.N = L.N
  sc : X.env.scope = L.sc
  kd : L.sc.kind = .function
  cs : ∀ x, L.cs.lookup x = some .cell → X.fn x = true
  fns : ∀ f q, S.g.fns[f]? = some q → FnAt T X k (T.fa f) (S.g.call d f)
  room : Room k X.A
  gl : ∀ x q, S.G.lookup x = some q → GkOk T X x q
  k3 : 3 ≤ k
  xc : ∀ c q, S.xs[c]? = some q → XcOk S.xs T X c q
section
variable {S : Sg} {d k : Nat} {T : Tb} {X : Cx} {L : Loc1}
theorem glb_eq {x : Str} {q : GK} (C : Ctx S d k T X L) (h : glb S L x = some q) : Gl X x ∧ GkOk T X x q := by
  unfold glb at h
  split at h
  · rename_i e
    refine ⟨?_, C.gl x q h⟩
    show X.env.scope.names.lookup x = _
    rw [C.sc]; exact e
  · cases h
theorem blt_eq {x : Str} (C : Ctx S d k T X L) (h : isBlt S L x = true) : Gl X x ∧ X.mg x = none := by
  unfold isBlt at h
  split at h
  · rename_i e; exact glb_eq C e
  · cases h
theorem fn_eq {x : Str} {f : Nat} (C : Ctx S d k T X L) (h : isFn S L x f = true) : Gl X x ∧ X.mg x = some (.ref (T.fa f)) := by
  unfold isFn at h
  split at h
  · rename_i i e
    have : i = f := by simpa using h
    subst this
    exact glb_eq C e
  · cases h
theorem xc_eq {x : Str} {c : Nat} (C : Ctx S d k T X L) (h : isXc S L x c = true) : Gl X x := by
  unfold isXc at h
  split at h
  · rename_i i e
    exact (glb_eq C e).1
  · cases h
theorem slot_eq {i : Nat} {x : Str} (C : Ctx S d k T X L) (h : slotB L i x = true) : X.N[i]? = some x ∧ (x == ("__debug__" : Str)) = false ∧ (x == ("__classdict__" : Str)) = false := by
  unfold slotB at h
  split at h
  · rename_i y e
    simp only [Bool.and_eq_true, Bool.not_eq_true', beq_iff_eq] at h
    obtain ⟨⟨rfl, h1⟩, h2⟩ := h
    exact ⟨by rw [C.N]; exact e, h1, h2⟩
  · cases h
theorem vis_eq {x : Str} (C : Ctx S d k T X L) (h : visB L x = true) : Vis X.env.scope x := by
  unfold visB at h
  unfold Vis
  rw [C.sc]
  split at h <;> first | cases h | skip
  · rename_i e; exact .inl e
  · rename_i e; exact .inr (.inl e)
  · rename_i e; exact .inr (.inr e)
theorem loc_eq {x : Str} (C : Ctx S d k T X L) (h : locB L x = true) : L2.Loc X.env.scope x ∧ (X.fn x = true ∨ X.env.scope.names.lookup x = some .local) := by
  unfold locB at h
  unfold L2.Loc
  rw [C.sc]
  split at h
  · rename_i e; exact ⟨.inl e, .inr e⟩
  · rename_i e
    split at h
    · rename_i e2; exact ⟨.inr e, .inl (C.cs _ e2)⟩
    · cases h
  · cases h
theorem lcl_eq {x : Str} (C : Ctx S d k T X L) (h : lclB L x = true) : X.env.scope.names.lookup x = some .local := by
  unfold lclB at h
  rw [C.sc]
  split at h
  · rename_i e; exact e
  · cases h
theorem Ctx.g {gh : Addr → Option HO} (C : Ctx S d k T X L) : Ctx S d k (T.g gh) X L := ⟨⟨C.ok.P, C.ok.w, C.ok.K, C.ok.calm, C.ok.nd, C.ok.hu, C.ok.still⟩, C.N, C.sc, C.kd, C.cs, C.fns, C.room, (fun x q h => by
  have := C.gl x q h
  cases q <;> exact this), C.k3, fun c q h => let z := C.xc c q h; ⟨z.mgx, z.isi, z.sub, z.ve, z.init, z.plain⟩⟩
theorem Ctx.blk {scope : Scope} {own : List (Str × Nat)} (C : Ctx S d k T X L) (hb : blkC L.N L.sc scope own = true) (s : Shared) (H : Hp) (D : Addr) (cl : List (Str × Addr)) (fp : List Addr) :
    Ctx S d k T (X.blk s H scope (compEnvC scope cl D X.env) fp) (relL L scope) := by
  refine ⟨⟨C.ok.P, C.ok.w, C.ok.K, C.ok.calm, C.ok.nd, C.ok.hu, C.ok.still⟩, C.N, ?_, (blkOk_by hb).kind, fun x h => ?_, C.fns, C.room, fun x q h => ?_, C.k3, fun c q h => let z := C.xc c q h; ⟨z.mgx, z.isi, z.sub, z.ve, z.init, z.plain⟩⟩
  · show relabel scope X.env = relS scope L.sc
    rw [← C.sc]
    rfl
  · show (scope.names.lookup x == some .cell) = true
    have h : scope.names.lookup x = some .cell := h
    rw [h]; rfl
  · have := C.gl x q h
    cases q <;> exact this
end
end Lot
/-! LotQ: a term that passes the look tells what the expression does. -/
namespace Lot
open PySem PySem.Spec PyProof.Rows L2
section
variable (S : Sg) (d k : Nat)
/-- of a term: as a value; as a new list; as a test -/
def SE (c : CE) : Prop := ∀ (T : Tb) (X : Cx) (L : Loc1) (e : Expr), Ctx S d k T X L → chkE S c L e = true →
  PE X e (tD T fun ρ m => evE (S.g.call d) S.g.mt c ρ m) ∧ (isX c = true → PE X e (tX T fun ρ m => evE (S.g.call d) S.g.mt c ρ m)) ∧ (tOk c = true → PT X e (tT T (tO fun ρ m => evE (S.g.call d) S.g.mt c ρ m)))
def SEs (cs : CEs) : Prop := ∀ (T : Tb) (X : Cx) (L : Loc1) (es : List Expr), Ctx S d k T X L → chkEs S cs L es = true →
  PA X es (tL T fun ρ m => evEs (S.g.call d) S.g.mt cs ρ m) ∧ PA X es (tP T fun ρ m => evPs (S.g.call d) S.g.mt cs ρ m) ∧ es.all noStar = true
def SB (cs : CEs) : Prop := ∀ (T : Tb) (X : Cx) (L : Loc1) (es : List Expr) (pos : Pos), Ctx S d k T X L → chkB S cs L es = true →
  (PE X (.BoolOp .And es pos) (tD T fun ρ m => evAnd (S.g.call d) S.g.mt cs ρ m) ∧ PWt X T (.BoolOp .And es pos) fun ρ m => evAnd (S.g.call d) S.g.mt cs ρ m) ∧
  (PE X (.BoolOp .Or es pos) (tD T fun ρ m => evOr (S.g.call d) S.g.mt cs ρ m) ∧ PWt X T (.BoolOp .Or es pos) fun ρ m => evOr (S.g.call d) S.g.mt cs ρ m)
def SIf (cs : CEs) : Prop := ∀ (T : Tb) (X : Cx) (L : Loc1) (es : List Expr), Ctx S d k T X L → chkIfs S cs L es = true → PTs X es (tT T fun ρ m => evIfs (S.g.call d) S.g.mt cs ρ m)
def SI (c : CI) : Prop := ∀ (T : Tb) (X : Cx) (L : Loc1) (t e : Expr), Ctx S d k T X L → chkI S c L t e = true → PI X t e (tI T fun ρ m => evI (S.g.call d) S.g.mt c ρ m)
end
section
variable {S : Sg} {d k : Nat} {T : Tb} {X : Cx} {L : Loc1}
theorem out3 {e : Expr} {c : CE} {f : Ev} (C : Ctx S d k T X L) (hp : plainT e = true) (h : PE X e (tD T f)) (hx : isX c = false) : PE X e (tD T f) ∧ (isX c = true → PE X e (tX T f)) ∧ (tOk c = true → PT X e (tT T (tO f))) :=
  ⟨h, (fun z => by rw [hx] at z; cases z), fun _ => g_truth C.ok h (tru hp)⟩
theorem out3x {e : Expr} {c : CE} {f : Ev} (C : Ctx S d k T X L) (hp : plainT e = true) (h : PE X e (tX T f)) : PE X e (tD T f) ∧ (isX c = true → PE X e (tX T f)) ∧ (tOk c = true → PT X e (tT T (tO f))) :=
  ⟨PE.ofX h, fun _ => h, fun _ => g_truth C.ok (PE.ofX h) (tru hp)⟩
theorem se_var (i : Nat) : SE S d k (.var i) := fun T X L e C h => by
  unfold chkE at h
  split at h
  · rename_i x p
    simp only [Bool.and_eq_true] at h
    obtain ⟨h1, h2, h3⟩ := slot_eq C h.1
    exact out3 C rfl (g_var h1 (vis_eq C h.2) h2 h3) rfl
  · cases h
theorem rd_p {x : P} {v : V} (h : ∀ W H, Rp T W H x v) (α : Al) (W : Addr → Prop) (H : Hp) : RD T α W H (.p x) v := h W H
theorem se_lit (p : P) : SE S d k (.lit p) := fun T X L e C h => by
  unfold chkE at h
  split at h
  · rename_i c j pos
    refine out3 C rfl ?_ rfl
    unfold litB at h
    split at h <;> first | cases h | skip
    · exact tC_d pe_non (rd_p fun W H => by simp only [Rp])
    · have := eq_of_beq h
      subst this
      exact tC_d pe_bl (rd_p fun W H => by simp only [Rp])
    · have := eq_of_beq h
      subst this
      exact tC_d pe_int (rd_p fun W H => by simp only [Rp])
    · have := eq_of_beq h
      subst this
      exact tC_d pe_str (rd_p fun W H => by simp only [Rp])
  · cases h
theorem se_gint (n : Str) (i : Int) : SE S d k (.gint n i) := fun T X L e C h => by
  unfold chkE at h
  split at h
  · rename_i x p
    split at h
    · rename_i j eg
      simp only [Bool.and_eq_true, beq_iff_eq, Bool.not_eq_true'] at h
      obtain ⟨rfl, h2⟩ := h
      obtain ⟨g1, u, g2, g3⟩ := glb_eq C eg
      exact out3 C rfl (tC_d (pe_glob g1 g2 g3 h2) (rd_p fun W H => by simp only [Rp])) rfl
    · cases h
  · cases h
theorem se_gstr (n : Str) (i : Str) : SE S d k (.gstr n i) := fun T X L e C h => by
  unfold chkE at h
  split at h
  · rename_i x p
    split at h
    · rename_i j eg
      simp only [Bool.and_eq_true, beq_iff_eq, Bool.not_eq_true'] at h
      obtain ⟨rfl, h2⟩ := h
      obtain ⟨g1, u, g2, g3⟩ := glb_eq C eg
      exact out3 C rfl (tC_d (pe_glob g1 g2 g3 h2) (rd_p fun W H => by simp only [Rp])) rfl
    · cases h
  · cases h
theorem se_gtup (n : Str) (l : List P) : SE S d k (.gtup n l) := fun T X L e C h => by
  unfold chkE at h
  split at h
  · rename_i x p
    split at h
    · rename_i j eg
      simp only [Bool.and_eq_true, decide_eq_true_eq, Bool.not_eq_true'] at h
      obtain ⟨h1, h2⟩ := h
      obtain ⟨g1, a, g2, g3⟩ := glb_eq C eg
      rw [strs_eq h1]
      exact out3 C rfl (tC_d (pe_glob g1 g2 (v := .ref a) rfl h2) (fun α W H => ⟨a, _, rfl, g3, strs_rpl _⟩)) rfl
    · cases h
  · cases h
theorem se_tup {cs : CEs} (hs : SEs S d k cs) : SE S d k (.tup cs) := fun T X L e C h => by
  unfold chkE at h
  split at h
  · exact out3 C rfl (g_tup (hs T X L _ C h).2.1) rfl
  · cases h
theorem se_lst {cs : CEs} (hs : SEs S d k cs) : SE S d k (.lst cs) := fun T X L e C h => by
  unfold chkE at h
  split at h
  · exact out3x C rfl (g_lst (hs T X L _ C h).2.1)
  · cases h
theorem se_alloc {c : CE} (hc : SE S d k c) : SE S d k (.alloc c) := fun T X L e C h => by
  unfold chkE at h
  rw [Bool.and_eq_true] at h
  exact ⟨PE.allocX ((hc T X L e C h.2).2.1 h.1), (fun z => by cases z), fun z => by cases z⟩
theorem se_frz {c : CE} (hc : SE S d k c) : SE S d k (.frz c) := fun T X L e C h => by
  unfold chkE at h
  exact ⟨g_frz (hc T X L e C h).1, (fun z => by cases z), fun z => by cases z⟩
theorem bop_eq {op : BOp} {o : Operator} (C : Ctx S d k T X L) (h : bopB op o = true) : OpR X (binaryOp o) (rB T (binP op)) := by
  cases op <;> cases o <;> first | cases h | skip
  · exact opB_add C.ok
  · exact opB_sub
  · exact opB_mul C.ok
  · exact opB_fdiv
  · exact opB_mod
  · exact opB_pow
theorem cop_eq {op : COp} {o : CmpOp} (C : Ctx S d k T X L) (h : copB op o = true) : OpR X (compareOp o) (rC T op) := by
  cases op <;> cases o <;> first | cases h | skip
  · exact opC_eq C.ok
  · exact opC_ne C.ok
  · exact opC_lt C.ok
  · exact opC_le
  · exact opC_gt
  · exact opC_ge
  · exact opC_is
  · exact opC_isnot
  · exact opC_in C.ok
  · exact opC_notin C.ok
theorem se_bin {op : BOp} {a b : CE} (ha : SE S d k a) (hb : SE S d k b) : SE S d k (.bin op a b) := fun T X L e C h => by
  unfold chkE at h
  split at h
  · simp only [Bool.and_eq_true] at h
    obtain ⟨⟨h1, h2⟩, h3⟩ := h
    exact out3x C rfl (g_bin (bop_eq C h1) (ha T X L _ C h2).1 (hb T X L _ C h3).1)
  · cases h
theorem se_neg {a : CE} (ha : SE S d k a) : SE S d k (.neg a) := fun T X L e C h => by
  unfold chkE at h
  split at h
  · exact out3 C rfl (g_neg (ha T X L _ C h).1) rfl
  · cases h
theorem se_not {a : CE} (ha : SE S d k a) : SE S d k (.not a) := fun T X L e C h => by
  unfold chkE at h
  split at h
  · rw [Bool.and_eq_true] at h
    obtain ⟨h1, _, h3⟩ := ha T X L _ C h.2
    exact ⟨g_not (h3 h.1) C.ok h1, (fun z => by cases z), fun _ => g_notT (h3 h.1)⟩
  · cases h
theorem se_cmp {op : COp} {a b : CE} (ha : SE S d k a) (hb : SE S d k b) : SE S d k (.cmp op a b) := fun T X L e C h => by
  unfold chkE at h
  split at h
  · simp only [Bool.and_eq_true] at h
    obtain ⟨⟨⟨h1, h2⟩, h3⟩, h4⟩ := h
    exact ⟨g_cmp (cop_eq C h1) (bim h2) (ha T X L _ C h3).1 (hb T X L _ C h4).1, (fun z => by cases z), fun _ => g_cmpT (cop_eq C h1) (bim h2) (ha T X L _ C h3).1 (hb T X L _ C h4).1⟩
  · cases h
theorem se_chain {op op2 : COp} {a b c : CE} (ha : SE S d k a) (hb : SE S d k b) (hc : SE S d k c) : SE S d k (.chain op op2 a b c) := fun T X L e C h => by
  unfold chkE at h
  split at h
  · simp only [Bool.and_eq_true] at h
    obtain ⟨⟨⟨⟨⟨h1, h2⟩, h3⟩, h4⟩, h5⟩, h6⟩ := h
    exact ⟨g_chain (cop_eq C h1) (cop_eq C h2) (lam h3) (ha T X L _ C h4).1 (hb T X L _ C h5).1 (hc T X L _ C h6).1, (fun z => by cases z), fun _ => g_chainT (cop_eq C h1) (cop_eq C h2) (lam h3) (ha T X L _ C h4).1 (hb T X L _ C h5).1 (hc T X L _ C h6).1⟩
  · cases h
theorem se_and {cs : CEs} (hs : SB S d k cs) : SE S d k (.and cs) := fun T X L e C h => by
  unfold chkE at h
  split at h
  · rename_i x xs pos
    have := (hs T X L _ pos C h).1
    exact ⟨this.1, (fun z => by cases z), fun _ => this.2.pt⟩
  · cases h
theorem se_or {cs : CEs} (hs : SB S d k cs) : SE S d k (.or cs) := fun T X L e C h => by
  unfold chkE at h
  split at h
  · rename_i x xs pos
    have := (hs T X L _ pos C h).2
    exact ⟨this.1, (fun z => by cases z), fun _ => this.2.pt⟩
  · cases h
theorem se_ife {c a b : CE} (hc : SE S d k c) (ha : SE S d k a) (hb : SE S d k b) : SE S d k (.ife c a b) := fun T X L e C h => by
  unfold chkE at h
  split at h
  · simp only [Bool.and_eq_true] at h
    obtain ⟨⟨⟨h1, h2⟩, h3⟩, h4⟩ := h
    exact ⟨g_ife ((hc T X L _ C h2).2.2 h1) (ha T X L _ C h3).1 (hb T X L _ C h4).1, (fun z => by cases z), fun z => by cases z⟩
  · cases h
theorem call_bad {f : Nat} (h : S.g.fns[f]? = none) (ds : List D) (m : Mem) : S.g.call d f ds m = .bad := by
  cases d with
  | zero => rfl
  | succ d => unfold Pg.call; rw [h]
theorem se_call {f : Nat} {cs : CEs} (hs : SEs S d k cs) : SE S d k (.call f cs) := fun T X L e C h => by
  unfold chkE at h
  split at h
  · simp only [Bool.and_eq_true, Bool.not_eq_true'] at h
    obtain ⟨⟨h1, h2⟩, h3⟩ := h
    obtain ⟨g1, g2⟩ := fn_eq C h1
    obtain ⟨a1, _, a3⟩ := hs T X L _ C h3
    rw [List.all_cons, Bool.and_eq_true] at a3
    cases q : S.g.fns[f]? with
    | none =>
      refine out3 C rfl ?_ rfl
      refine ⟨fun pins s σ H Q I ⟨α, W, ρ, m, hr, hs', h⟩ => ?_⟩
      exfalso
      have h : Hg T α W H ((evEs (S.g.call d) S.g.mt cs ρ m).bind fun ds m1 => S.g.call d f ds m1) (fin T Q) := h
      cases q2 : evEs (S.g.call d) S.g.mt cs ρ m with
      | ok ds m1 =>
        rw [q2] at h
        dsimp only [Out.bind_ok] at h
        rw [call_bad q] at h
        exact h
      | exn _ _ _ => rw [q2] at h; exact h
      | bad => rw [q2] at h; exact h
    | some fn => exact out3 C rfl (g_call (C.fns f fn q) C.ok.still C.room g1 g2 a1 h2 (star1 a3.1) (pl_of a3.2)) rfl
  · cases h
theorem isi_ev {ts : List Ty} {a : CE} : (fun ρ m => evE (S.g.call d) S.g.mt (.prim (.isi ts) (.cons a .nil)) ρ m) = fun ρ m => (evE (S.g.call d) S.g.mt a ρ m).bind fun x m1 => isiO ts x m1 := by
  funext ρ m
  show ((evE (S.g.call d) S.g.mt a ρ m).bind fun x m1 => (Out.ok [] m1).bind fun ds m2 => Out.ok (x :: ds) m2).bind (fun ds m1 => primD (.isi ts) ds m1) = _
  rw [Out.bind_assoc]
  rfl
theorem ty_boot (t : Ty) : bootBuiltins (Str.ofString t.nm) = some (.type t.nm) := by cases t <;> decide +kernel
theorem ty_nm (t : Ty) : (Str.ofString t.nm) ≠ ("__name__" : Str) ∧ ((Str.ofString t.nm) == ("__debug__" : Str)) = false := by cases t <;> decide +kernel
theorem se_isi1 {t : Ty} {a : CE} (ha : SE S d k a) : SE S d k (.prim (.isi [t]) (.cons a .nil)) := fun T X L e C h => by
  unfold chkE at h
  split at h
  · simp only [Bool.and_eq_true, beq_iff_eq] at h
    obtain ⟨⟨⟨⟨⟨rfl, h2⟩, h3⟩, h4⟩, rfl⟩, h6⟩ := h
    obtain ⟨g1, g2⟩ := blt_eq C h2
    obtain ⟨g3, g4⟩ := blt_eq C h4
    rw [isi_ev]
    exact out3 C rfl (g_isi1 C.ok (ha T X L _ C h6).1 g1 g2 g3 g4 (ty_boot t) (ty_nm t).1 (ty_nm t).2 (star1 h3) (star1 rfl) (pl_of rfl)) rfl
  · cases h
theorem se_isi2 {t t2 : Ty} {a : CE} (ha : SE S d k a) : SE S d k (.prim (.isi [t, t2]) (.cons a .nil)) := fun T X L e C h => by
  unfold chkE at h
  split at h
  · simp only [Bool.and_eq_true, beq_iff_eq] at h
    obtain ⟨⟨⟨⟨⟨⟨⟨rfl, h2⟩, h3⟩, h4⟩, rfl⟩, h6⟩, rfl⟩, h8⟩ := h
    obtain ⟨g1, g2⟩ := blt_eq C h2
    obtain ⟨g3, g4⟩ := blt_eq C h4
    obtain ⟨g5, g6⟩ := blt_eq C h6
    rw [isi_ev]
    exact out3 C rfl (g_isi2 C.ok (ha T X L _ C h8).1 g1 g2 g3 g4 (ty_boot t) (ty_nm t).1 (ty_nm t).2 g5 g6 (ty_boot t2) (ty_nm t2).1 (ty_nm t2).2 (star1 h3) (star1 rfl) (star1 rfl) (star1 rfl) (pl_of rfl)) rfl
  · cases h
theorem se_prim {p : Pr} {cs : CEs} (hs : SEs S d k cs) (T : Tb) (X : Cx) (L : Loc1) (e : Expr) (C : Ctx S d k T X L) (h : (match e with
    | .Call (.Name x _) (y :: ys) [] _ => prOk p && x == Str.ofString (prName p) && isBlt S L x && chkEs S cs L (y :: ys)
    | _ => false) = true) : PE X e (tD T fun ρ m => evE (S.g.call d) S.g.mt (.prim p cs) ρ m) ∧ (isX (.prim p cs) = true → PE X e (tX T fun ρ m => evE (S.g.call d) S.g.mt (.prim p cs) ρ m)) ∧ (tOk (.prim p cs) = true → PT X e (tT T (tO fun ρ m => evE (S.g.call d) S.g.mt (.prim p cs) ρ m))) := by
  split at h
  · simp only [Bool.and_eq_true, beq_iff_eq] at h
    obtain ⟨⟨⟨h1, rfl⟩, h3⟩, h4⟩ := h
    obtain ⟨g1, g2⟩ := blt_eq C h3
    obtain ⟨a1, _, a3⟩ := hs T X L _ C h4
    rw [List.all_cons, Bool.and_eq_true] at a3
    refine out3x C rfl ?_
    cases p <;> first | cases h1 | skip
    · exact g_prim (p_len C.ok) g1 g2 (by decide +kernel) a1 (by decide +kernel) (by decide +kernel) (star1 a3.1) (pl_of a3.2)
    · exact g_prim (p_sorted C.ok) g1 g2 (by decide +kernel) a1 (by decide +kernel) (by decide +kernel) (star1 a3.1) (pl_of a3.2)
    · exact g_primT (p_tuple C.ok) g1 g2 (by decide +kernel) a1 (by decide +kernel) (by decide +kernel) (star1 a3.1) (pl_of a3.2)
    · exact g_primT (p_list C.ok) g1 g2 (by decide +kernel) a1 (by decide +kernel) (by decide +kernel) (star1 a3.1) (pl_of a3.2)
    · exact g_primT (p_dict C.ok) g1 g2 (by decide +kernel) a1 (by decide +kernel) (by decide +kernel) (star1 a3.1) (pl_of a3.2)
    · exact g_prim (p_all C.ok) g1 g2 (by decide +kernel) a1 (by decide +kernel) (by decide +kernel) (star1 a3.1) (pl_of a3.2)
    · exact g_prim (p_any C.ok) g1 g2 (by decide +kernel) a1 (by decide +kernel) (by decide +kernel) (star1 a3.1) (pl_of a3.2)
    · exact g_prim (p_sum C.ok) g1 g2 (by decide +kernel) a1 (by decide +kernel) (by decide +kernel) (star1 a3.1) (pl_of a3.2)
    · exact g_primT (p_int C.ok) g1 g2 (by decide +kernel) a1 (by decide +kernel) (by decide +kernel) (star1 a3.1) (pl_of a3.2)
    · exact g_prim (p_repr C.ok) g1 g2 (by decide +kernel) a1 (by decide +kernel) (by decide +kernel) (star1 a3.1) (pl_of a3.2)
    · exact g_prim (p_min C.ok) g1 g2 (by decide +kernel) a1 (by decide +kernel) (by decide +kernel) (star1 a3.1) (pl_of a3.2)
    · exact g_prim (p_max C.ok) g1 g2 (by decide +kernel) a1 (by decide +kernel) (by decide +kernel) (star1 a3.1) (pl_of a3.2)
  · cases h
theorem se_bmeth {b : Bm} {o : CE} {cs : CEs} (ho : SE S d k o) (hs : SEs S d k cs) : SE S d k (.bmeth b o cs) := fun T X L e C h => by
  unfold chkE at h
  split at h
  · simp only [Bool.and_eq_true, decide_eq_true_eq] at h
    obtain ⟨⟨⟨⟨⟨h1, h2⟩, h3⟩, h4⟩, h5⟩, h6⟩ := h
    obtain ⟨a1, _, a3⟩ := hs T X L _ C h6
    exact out3 C rfl (g_bmB C.ok h1 (ho T X L _ C h5).1 a1 h2 a3 h4 h3) rfl
  · cases h
theorem se_gidx {n : Str} {l : List P} {a : CE} (ha : SE S d k a) : SE S d k (.gidx n l a) := fun T X L e C h => by
  unfold chkE at h
  split at h
  · rename_i x p nm apos y pos
    simp only [Bool.and_eq_true, beq_iff_eq] at h
    obtain ⟨⟨⟨⟨⟨h1, h2⟩, h3⟩, h4⟩, h5⟩, h6⟩ := h
    subst h1
    have ho := (se_gtup (S := S) (d := d) (k := k) n l T X L (.Name x p) C (by unfold chkE; exact h5)).1
    exact out3 C rfl (g_gidx C.ok ho (ha T X L _ C h6).1 rfl h4 (beq_iff_eq.mpr h3)) rfl
  · cases h
theorem se_ix {o i : CE} (ho : SE S d k o) (hi : SE S d k i) : SE S d k (.ix o i) := fun T X L e C h => by
  unfold chkE at h
  split at h
  · simp only [Bool.and_eq_true] at h
    obtain ⟨⟨h1, h2⟩, h3⟩ := h
    exact out3 C rfl (g_ix C.ok (pix h1) (ho T X L _ C h2).1 (hi T X L _ C h3).1) rfl
  · cases h
theorem so_of {c : CE} (hc : SE S d k c) (e : Option Expr) (C : Ctx S d k T X L) (h : optB (isNob c) e (fun e => chkE S c L e) = true) : PO X e (tB1 T fun ρ m => bnd c (evE (S.g.call d) S.g.mt c ρ m)) := by
  cases e with
  | none =>
    have h : isNob c = true := h
    cases c <;> first | exact g_bnd0 (f := fun _ m => .ok (.p .non) m) | cases h
  | some e =>
    have h : (!isNob c && chkE S c L e) = true := h
    rw [Bool.and_eq_true] at h
    exact g_bnd (fun z => by rw [z] at h; cases h.1) (hc T X L _ C h.2).1
theorem se_slice {o l u : CE} (ho : SE S d k o) (hl : SE S d k l) (hu : SE S d k u) : SE S d k (.slice o l u) := fun T X L e C h => by
  unfold chkE at h
  split at h
  · simp only [Bool.and_eq_true] at h
    obtain ⟨⟨h1, h2⟩, h3⟩ := h
    exact out3x C rfl (g_slice C.ok (ho T X L _ C h1).1 (so_of hl _ C h2) (so_of hu _ C h3))
  · cases h
theorem se_mkxO {c n : Nat} {cs : CEs} (hs : SEs S d k cs) : SE S d k (.mkx c (some n) cs) := fun T X L e C h => by
  unfold chkE at h
  split at h
  · simp only [Bool.and_eq_true, Bool.not_eq_true'] at h
    obtain ⟨⟨⟨h1, h2⟩, h3⟩, h4⟩ := h
    split at h2
    · rename_i q hq
      simp only [Bool.and_eq_true, beq_iff_eq, decide_eq_true_eq] at h2
      obtain ⟨⟨⟨h5, rfl⟩, rfl⟩, h6⟩ := h2
      obtain ⟨_, a2, a3⟩ := hs T X L _ C h4
      rw [List.all_cons, Bool.and_eq_true] at a3
      exact out3 C rfl (g_mkxO C.ok (C.xc c q hq) h5 h6 (C.room.mono (Nat.le_trans (by decide) C.k3)) (xc_eq C h1) a2 h3 (star1 a3.1) (pl_of a3.2)) rfl
    · cases h2
  · cases h
theorem se_mkxN {c : Nat} {a : CE} (ha : SE S d k a) : SE S d k (.mkx c none (.cons a .nil)) := fun T X L e C h => by
  unfold chkE at h
  split at h
  · simp only [Bool.and_eq_true, Bool.not_eq_true'] at h
    obtain ⟨⟨⟨⟨h1, h2⟩, h3⟩, h4⟩, h5⟩ := h
    split at h2
    · rename_i q hq
      simp only [Bool.and_eq_true, beq_iff_eq, Bool.not_eq_true'] at h2
      obtain ⟨h6, rfl⟩ := h2
      exact out3 C rfl (g_mkxN C.ok (C.xc c q hq) h6 (xc_eq C h1) (ha T X L _ C h5).1 h3 (star1 h4)) rfl
    · cases h2
  · cases h
theorem se_isx {n : Nat} {js : List Nat} {a : CE} (ha : SE S d k a) : SE S d k (.isx n js a) := fun T X L e C h => by
  unfold chkE at h
  split at h
  · simp only [Bool.and_eq_true, beq_iff_eq, Bool.not_eq_true'] at h
    obtain ⟨⟨⟨⟨⟨⟨rfl, h2⟩, h3⟩, rfl⟩, h5⟩, h6⟩, h7⟩ := h
    obtain ⟨g1, g2⟩ := blt_eq C h2
    refine out3 C rfl ?_ rfl
    unfold isxB at h7
    split at h7
    · rename_i eg
      simp only [Bool.and_eq_true, beq_iff_eq] at h7
      obtain ⟨rfl, h8⟩ := h7
      rw [List.all_eq_true] at h8
      obtain ⟨g3, g4⟩ := glb_eq C eg
      exact g_isv C.ok C.xc (fun c q hq => h8 c (List.mem_range.mpr (List.getElem?_eq_some_iff.mp hq).1)) (ha T X L _ C h6).1 g1 g2 g3 g4 (star1 h3) (star1 rfl) (pl_of rfl)
    · rename_i j eg
      split at h7
      · rename_i qj hj
        simp only [Bool.and_eq_true, beq_iff_eq] at h7
        obtain ⟨rfl, h8⟩ := h7
        rw [List.all_eq_true] at h8
        refine g_isx C.ok C.xc hj (fun c q hq => ?_) (ha T X L _ C h6).1 g1 g2 (glb_eq C eg).1 h5 (star1 h3) (star1 rfl) (pl_of rfl)
        have := h8 c (List.mem_range.mpr (List.getElem?_eq_some_iff.mp hq).1)
        rw [hq] at this
        exact beq_iff_eq.mp this
      · cases h7
    · cases h7
  · cases h
theorem se_fldx {f : Str} {cks : List (Nat × Nat)} {a : CE} (ha : SE S d k a) : SE S d k (.fldx f cks a) := fun T X L e C h => by
  unfold chkE at h
  split at h
  · simp only [Bool.and_eq_true, beq_iff_eq] at h
    obtain ⟨⟨⟨rfl, h2⟩, h3⟩, h4⟩ := h
    rw [List.all_eq_true] at h3
    refine out3 C rfl (g_fldx C.ok C.xc (fun c k hk => ?_) (ha T X L _ C h4).1 (atb h2)) rfl
    have mem : ∀ (l : List (Nat × Nat)), l.lookup c = some k → (c, k) ∈ l := by
      intro l
      induction l with
      | nil => intro h; simp at h
      | cons p l ih =>
        intro h
        obtain ⟨a, b⟩ := p
        rw [List.lookup_cons] at h
        by_cases e : c = a
        · subst e
          rw [beq_self_eq_true] at h
          cases h
          exact List.mem_cons_self
        · have : (c == a) = false := by simpa using e
          rw [this] at h
          exact List.mem_cons_of_mem _ (ih h)
    have z := h3 (c, k) (mem cks hk)
    dsimp only at z
    split at z
    · rename_i q hq
      rw [Bool.and_eq_true] at z
      refine ⟨q, hq, z.1, ?_⟩
      have z2 := z.2
      split at z2
      · rename_i g hg
        rw [hg, eq_of_beq z2]
      · cases z2
    · cases z
  · cases h
theorem nms_of (C : Ctx S d k T X L) : ∀ (is : List Nat) (es : List Expr), nmsB L is es = true → PGs X es (tGs T is) ∧ PGs X es (tGsD T is) ∧ es.all noStar = true ∧ is.length = es.length
  | [], [], _ => ⟨g_nms_nil, g_nmsD_nil, rfl, rfl⟩
  | i :: is, .Name x p :: es, h => by
    simp only [nmsB, Bool.and_eq_true] at h
    obtain ⟨⟨h1, h2⟩, h3⟩ := h
    obtain ⟨a1, a2, a3, a4⟩ := nms_of C is es h3
    obtain ⟨b1, _, _⟩ := slot_eq C h1
    obtain ⟨c1, c2⟩ := loc_eq C h2
    exact ⟨g_nms_cons C.ok.nd b1 c1 c2 a1 (ase_map rfl), g_nmsD_cons C.ok.nd b1 c1 c2 a2 (ase_map rfl), by rw [List.all_cons, a3]; rfl, by simp [a4]⟩
theorem tg_of (C : Ctx S d k T X L) {tg : Tg} {e : Expr} (h : tgB L tg e = true) : PG X e (tG T tg.vars (bindTg tg)) := by
  unfold tgB at h
  split at h
  · simp only [Bool.and_eq_true] at h
    obtain ⟨h1, h2⟩ := h
    obtain ⟨b1, _, _⟩ := slot_eq C h1
    obtain ⟨c1, c2⟩ := loc_eq C h2
    exact g_nm C.ok.nd b1 c1 c2
  · simp only [Bool.and_eq_true, beq_iff_eq] at h
    obtain ⟨a1, _, a3, a4⟩ := nms_of C _ _ h.1
    exact g_tp C.ok a1 (by rw [ase_len]; exact a4.symm) (ase_no a3)
  · cases h
theorem own_vars (L : Loc1) (is : List Nat) : (ownL L is).map (·.2) = is := by
  unfold ownL
  rw [List.map_map]
  exact List.map_id' is
theorem se_comp {elt : CE} {tg : Tg} {it : CI} {ifs : CEs} (hi : SI S d k it) (hf : SIf S d k ifs) (he : SE S d k elt) : SE S d k (.comp elt tg it ifs) := fun T X L e C h => by
  unfold chkE at h
  split at h
  · rename_i x t i fs scope pos
    simp only [Bool.and_eq_true] at h
    obtain ⟨⟨⟨⟨⟨h1, h2⟩, h3⟩, h4⟩, h5⟩, h6⟩ := h
    refine out3x C rfl ?_
    have h := g_lc (T := T) (own := ownL L tg.vars) (pos := pos) C.ok (hi T X L _ _ C h3) (by rw [C.N, C.sc]; exact blkOk_by h1) (fun gh s H D cl fp => by rw [own_vars]; exact tg_of (C.blk h1 s H D cl fp).g h4) (fun gh s H D cl fp => hf _ _ _ _ (C.blk h1 s H D cl fp).g h5) (fun gh s H D cl fp => (he _ _ _ _ (C.blk h1 s H D cl fp).g h6).1) (fsi h2)
    rw [own_vars] at h
    exact h
  · cases h
theorem se_dcomp {c1 c2 : CE} {t : Bool} {tg : Tg} {it : CI} {ifs : CEs} (hi : SI S d k it) (hf : SIf S d k ifs) (hk : SE S d k c1) (hv : SE S d k c2) : SE S d k (.dcomp c1 c2 t tg it ifs) := fun T X L e C h => by
  unfold chkE at h
  split at h
  · rename_i x y u i fs scope pos
    simp only [Bool.and_eq_true, Bool.not_eq_true'] at h
    obtain ⟨⟨⟨⟨⟨⟨⟨h0, h1⟩, h2⟩, h3⟩, h4⟩, h5⟩, h6⟩, h7⟩ := h
    subst h0
    have h := g_dc (T := T) (own := ownL L tg.vars) (pos := pos) C.ok (hi T X L _ _ C h3) (by rw [C.N, C.sc]; exact blkOk_by h1) (fun gh s H D cl fp => by rw [own_vars]; exact tg_of (C.blk h1 s H D cl fp).g h4) (fun gh s H D cl fp => hf _ _ _ _ (C.blk h1 s H D cl fp).g h5)
      (fun gh s H D cl fp => (hk _ _ _ _ (C.blk h1 s H D cl fp).g h6).1) (fun gh s H D cl fp => (hv _ _ _ _ (C.blk h1 s H D cl fp).g h7).1) (fsi h2)
    rw [own_vars] at h
    exact out3 C rfl h rfl
  · cases h
/-! ### lists of terms -/
theorem ses_nil : SEs S d k .nil := fun T X L es C h => by
  unfold chkEs at h
  cases es with
  | nil => exact ⟨g_nil, g_nilP, rfl⟩
  | cons _ _ => cases h
theorem ses_cons {c : CE} {cs : CEs} (hc : SE S d k c) (hs : SEs S d k cs) : SEs S d k (.cons c cs) := fun T X L es C h => by
  unfold chkEs at h
  cases es with
  | nil => cases h
  | cons e es =>
    simp only [Bool.and_eq_true] at h
    obtain ⟨⟨h1, h2⟩, h3⟩ := h
    obtain ⟨a1, a2, a3⟩ := hs T X L es C h3
    exact ⟨g_cons (hc T X L e C h2).1 a1 (star1 h1), g_consP (hc T X L e C h2).1 a2 (star1 h1), by rw [List.all_cons, h1, a3]; rfl⟩
theorem sb_nil : SB S d k .nil := fun T X L es pos C h => by
  unfold chkB at h
  cases h
theorem sb_one {c : CE} (hc : SE S d k c) : SB S d k (.cons c .nil) := fun T X L es pos C h => by
  unfold chkB at h
  split at h
  · rw [Bool.and_eq_true] at h
    obtain ⟨a1, _, a3⟩ := hc T X L _ C h.2
    exact ⟨⟨pe_one a1, pw_and1 (a3 h.1)⟩, ⟨pe_one a1, pw_or1 (a3 h.1)⟩⟩
  · cases h
theorem sb_cons {c c2 : CE} {cs : CEs} (hc : SE S d k c) (hs : SB S d k (.cons c2 cs)) : SB S d k (.cons c (.cons c2 cs)) := fun T X L es pos C h => by
  unfold chkB at h
  split at h
  · simp only [Bool.and_eq_true] at h
    obtain ⟨⟨h1, h2⟩, h3⟩ := h
    obtain ⟨a1, _, a3⟩ := hc T X L _ C h2
    obtain ⟨⟨b1, b2⟩, ⟨b3, b4⟩⟩ := hs T X L _ pos C h3
    exact ⟨⟨g_and C.ok a1 b1, g_andT (a3 h1) b2⟩, ⟨g_or C.ok a1 b3, g_orT (a3 h1) b4⟩⟩
  · cases h
theorem sif_nil : SIf S d k .nil := fun T X L es C h => by
  unfold chkIfs at h
  cases es with
  | nil => exact g_ifs0
  | cons _ _ => cases h
theorem sif_one {c : CE} (hc : SE S d k c) : SIf S d k (.cons c .nil) := fun T X L es C h => by
  unfold chkIfs at h
  split at h
  · rw [Bool.and_eq_true] at h
    exact g_ifs1 ((hc T X L _ C h.2).2.2 h.1)
  · cases h
theorem sif_two {c c2 : CE} {cs : CEs} : SIf S d k (.cons c (.cons c2 cs)) := fun T X L es C h => by
  unfold chkIfs at h
  cases h
/-! ### walks -/
theorem si_seq {a : CE} (ha : SE S d k a) : SI S d k (.seq a) := fun T X L t e C h => by
  unfold chkI at h
  exact g_seq C.ok (ha T X L _ C h).1
theorem si_rng1 {a : CE} (ha : SE S d k a) : SI S d k (.rng1 a) := fun T X L t e C h => by
  unfold chkI at h
  split at h
  · simp only [Bool.and_eq_true, beq_iff_eq] at h
    obtain ⟨⟨⟨rfl, h2⟩, h3⟩, h4⟩ := h
    obtain ⟨g1, g2⟩ := blt_eq C h2
    exact g_rng1 g1 g2 (ha T X L _ C h4).1 (star1 h3)
  · cases h
theorem si_rng {a b : CE} (ha : SE S d k a) (hb : SE S d k b) : SI S d k (.rng a b) := fun T X L t e C h => by
  unfold chkI at h
  split at h
  · simp only [Bool.and_eq_true, beq_iff_eq] at h
    obtain ⟨⟨⟨⟨⟨rfl, h2⟩, h3⟩, h4⟩, h5⟩, h6⟩ := h
    obtain ⟨g1, g2⟩ := blt_eq C h2
    exact g_rng g1 g2 (ha T X L _ C h5).1 (hb T X L _ C h6).1 (star1 h3) (star1 h4)
  · cases h
theorem si_enum {a : CE} (ha : SE S d k a) : SI S d k (.enum a) := fun T X L t e C h => by
  unfold chkI at h
  split at h
  · simp only [Bool.and_eq_true, beq_iff_eq] at h
    obtain ⟨⟨⟨⟨rfl, h2⟩, h3⟩, h4⟩, h5⟩ := h
    obtain ⟨g1, g2⟩ := blt_eq C h2
    cases t with
    | Tuple elts kk tpos => exact g_enum C.ok g1 g2 (ha T X L _ C h4).1 (star1 h3)
    | _ => cases h5
  · cases h
theorem si_zip {a b : CE} {s : Bool} (ha : SE S d k a) (hb : SE S d k b) : SI S d k (.zip a b s) := fun T X L t e C h => by
  unfold chkI at h
  split at h
  · simp only [Bool.and_eq_true, beq_iff_eq, Bool.not_eq_true'] at h
    obtain ⟨⟨⟨⟨⟨⟨⟨rfl, rfl⟩, h2⟩, h3⟩, h4⟩, h5⟩, h6⟩, h7⟩ := h
    obtain ⟨g1, g2⟩ := blt_eq C h2
    cases t with
    | Tuple elts kk tpos => exact g_zip C.ok g1 g2 (ha T X L _ C h5).1 (hb T X L _ C h6).1 (star1 h3) (star1 h4) (pl_of (by simp [h4]))
    | _ => cases h7
  · cases h
end
end Lot
/-! LotR: every term; statements. -/
namespace Lot
open PySem PySem.Spec PyProof.Rows L2
section
variable (S : Sg) (d k : Nat)
theorem se_no {c : CE} (h : ∀ L e, chkE S c L e = false) : SE S d k c := fun T X L e C q => by rw [h] at q; cases q
mutual
theorem sndE : ∀ c : CE, SE S d k c
  | .var i => se_var i
  | .lit p => se_lit p
  | .gint n i => se_gint n i
  | .gstr n s => se_gstr n s
  | .gtup n l => se_gtup n l
  | .gfn .. => se_no S d k fun _ _ => by unfold chkE; rfl
  | .tup es => se_tup (sndEs es)
  | .lst es => se_lst (sndEs es)
  | .ndict .. => se_no S d k fun _ _ => by unfold chkE; rfl
  | .ddict .. => se_no S d k fun _ _ => by unfold chkE; rfl
  | .alloc c => se_alloc (sndE c)
  | .frz c => se_frz (sndE c)
  | .bin op a b => se_bin (sndE a) (sndE b)
  | .neg a => se_neg (sndE a)
  | .not a => se_not (sndE a)
  | .cmp op a b => se_cmp (sndE a) (sndE b)
  | .chain _ _ a b c => se_chain (sndE a) (sndE b) (sndE c)
  | .and es => se_and (sndB es)
  | .or es => se_or (sndB es)
  | .ife c a b => se_ife (sndE c) (sndE a) (sndE b)
  | .call f es => se_call (sndEs es)
  | .callv .. => se_no S d k fun _ _ => by unfold chkE; rfl
  | .new .. => se_no S d k fun _ _ => by unfold chkE; rfl
  | .meth .. => se_no S d k fun _ _ => by unfold chkE; rfl
  | .fld .. => se_no S d k fun _ _ => by unfold chkE; rfl
  | .prim (.isi [t]) (.cons a .nil) => se_isi1 (sndE a)
  | .prim (.isi [t, t2]) (.cons a .nil) => se_isi2 (sndE a)
  | .prim (.isi []) es => fun T X L e C h => by
    unfold chkE at h
    exact se_prim (sndEs es) T X L e C h
  | .prim (.isi (_ :: _ :: _ :: _)) es => fun T X L e C h => by
    unfold chkE at h
    exact se_prim (sndEs es) T X L e C h
  | .prim (.isi [_]) .nil => fun T X L e C h => by
    unfold chkE at h
    exact se_prim (sndEs .nil) T X L e C h
  | .prim (.isi [_]) (.cons a (.cons b es)) => fun T X L e C h => by
    unfold chkE at h
    exact se_prim (sndEs (.cons a (.cons b es))) T X L e C h
  | .prim (.isi [_, _]) .nil => fun T X L e C h => by
    unfold chkE at h
    exact se_prim (sndEs .nil) T X L e C h
  | .prim (.isi [_, _]) (.cons a (.cons b es)) => fun T X L e C h => by
    unfold chkE at h
    exact se_prim (sndEs (.cons a (.cons b es))) T X L e C h
  | .prim .len es => fun T X L e C h => by unfold chkE at h; exact se_prim (sndEs es) T X L e C h
  | .prim .sorted es => fun T X L e C h => by unfold chkE at h; exact se_prim (sndEs es) T X L e C h
  | .prim .tuple es => fun T X L e C h => by unfold chkE at h; exact se_prim (sndEs es) T X L e C h
  | .prim .list es => fun T X L e C h => by unfold chkE at h; exact se_prim (sndEs es) T X L e C h
  | .prim .set es => fun T X L e C h => by unfold chkE at h; exact se_prim (sndEs es) T X L e C h
  | .prim .dict es => fun T X L e C h => by unfold chkE at h; exact se_prim (sndEs es) T X L e C h
  | .prim .all es => fun T X L e C h => by unfold chkE at h; exact se_prim (sndEs es) T X L e C h
  | .prim .any es => fun T X L e C h => by unfold chkE at h; exact se_prim (sndEs es) T X L e C h
  | .prim .sum es => fun T X L e C h => by unfold chkE at h; exact se_prim (sndEs es) T X L e C h
  | .prim .int es => fun T X L e C h => by unfold chkE at h; exact se_prim (sndEs es) T X L e C h
  | .prim .bool es => fun T X L e C h => by unfold chkE at h; exact se_prim (sndEs es) T X L e C h
  | .prim .repr es => fun T X L e C h => by unfold chkE at h; exact se_prim (sndEs es) T X L e C h
  | .prim .min es => fun T X L e C h => by unfold chkE at h; exact se_prim (sndEs es) T X L e C h
  | .prim .max es => fun T X L e C h => by unfold chkE at h; exact se_prim (sndEs es) T X L e C h
  | .prim .lenset es => fun T X L e C h => by unfold chkE at h; exact se_prim (sndEs es) T X L e C h
  | .prim .sortset es => fun T X L e C h => by unfold chkE at h; exact se_prim (sndEs es) T X L e C h
  | .mkx c (some n) es => se_mkxO (sndEs es)
  | .mkx c none .nil => se_no S d k fun _ _ => by unfold chkE; rfl
  | .mkx c none (.cons a .nil) => se_mkxN (sndE a)
  | .mkx c none (.cons a (.cons b es)) => se_no S d k fun _ _ => by unfold chkE; rfl
  | .isx n js a => se_isx (sndE a)
  | .fldx f cks a => se_fldx (sndE a)
  | .bmeth b o es => se_bmeth (sndE o) (sndEs es)
  | .gidx n l a => se_gidx (sndE a)
  | .nob => se_no S d k fun _ _ => by unfold chkE; rfl
  | .ix o i => se_ix (sndE o) (sndE i)
  | .gix .. => se_no S d k fun _ _ => by unfold chkE; rfl
  | .gin .. => se_no S d k fun _ _ => by unfold chkE; rfl
  | .slice o l u => se_slice (sndE o) (sndE l) (sndE u)
  | .rev .. => se_no S d k fun _ _ => by unfold chkE; rfl
  | .comp elt tg it ifs => se_comp (sndI it) (sndIf ifs) (sndE elt)
  | .comp2 .. => se_no S d k fun _ _ => by unfold chkE; rfl
  | .dcomp c1 c2 t tg it ifs => se_dcomp (sndI it) (sndIf ifs) (sndE c1) (sndE c2)
theorem sndEs : ∀ cs : CEs, SEs S d k cs
  | .nil => ses_nil
  | .cons c cs => ses_cons (sndE c) (sndEs cs)
theorem sndB : ∀ cs : CEs, SB S d k cs
  | .nil => sb_nil
  | .cons c .nil => sb_one (sndE c)
  | .cons c (.cons c2 cs) => sb_cons (sndE c) (sndB (.cons c2 cs))
theorem sndIf : ∀ cs : CEs, SIf S d k cs
  | .nil => sif_nil
  | .cons c .nil => sif_one (sndE c)
  | .cons c (.cons c2 cs) => sif_two
theorem sndI : ∀ c : CI, SI S d k c
  | .seq e => si_seq (sndE e)
  | .rng a b => si_rng (sndE a) (sndE b)
  | .rng1 a => si_rng1 (sndE a)
  | .enum a => si_enum (sndE a)
  | .zip a b s => si_zip (sndE a) (sndE b)
  | .revd _ => fun T X L t e C h => by unfold chkI at h; cases h
  | .items _ => fun T X L t e C h => by unfold chkI at h; cases h
end
end
end Lot
/-! LotS: the look at statements; what holds then. -/
namespace Lot
open PySem PySem.Spec PyProof.Rows L2
/-- in what order a pair of values is stored -/
def swsB (env : PySem.Env) (ts vs : List Expr) : Option (Option (List Str)) :=
  if !(ts.length == 2 || ts.length == 3) || vs.length != ts.length || env.blockKind != .function then some none else
  if (vs.any fun | .Starred .. => true | _ => false) then some none else
  if (ts.filterMap fun
    | .Name id pos => if env.kindOf id == some .local && pos.line == (ts.head?.map (·.pos.line)).getD 0 then some id else none
    | _ => none).length != ts.length || (ts.filterMap fun
    | .Name id pos => if env.kindOf id == some .local && pos.line == (ts.head?.map (·.pos.line)).getD 0 then some id else none
    | _ => none).eraseDups.length != (ts.filterMap fun
    | .Name id pos => if env.kindOf id == some .local && pos.line == (ts.head?.map (·.pos.line)).getD 0 then some id else none
    | _ => none).length then some none else
  if vs.all (foldedForSure 8) then some none else
  if vs.all (constantsAlone 8) then none else
  some (some (ts.filterMap fun
    | .Name id pos => if env.kindOf id == some .local && pos.line == (ts.head?.map (·.pos.line)).getD 0 then some id else none
    | _ => none))
theorem sws_ok {env : PySem.Env} {ts vs : List Expr} {k k2 : Nat} {p p2 : Pos} {r : Option (List Str)} (h : swsB env ts vs = some r) : swappedStores [.Tuple ts k p] (.Tuple vs k2 p2) env = pure r := by
  unfold swsB at h
  unfold swappedStores
  dsimp only
  split at h
  · rename_i c; cases h; exact if_pos c
  · rename_i c
    refine (if_neg c).trans ?_
    split at h
    · rename_i c; cases h; exact if_pos c
    · rename_i c
      refine (if_neg c).trans ?_
      split at h
      · rename_i c; cases h; exact if_pos c
      · rename_i c
        refine (if_neg c).trans ?_
        split at h
        · rename_i c; cases h; exact if_pos c
        · rename_i c
          refine (if_neg c).trans ?_
          split at h
          · cases h
          · rename_i c; cases h; exact if_neg c
def envS (sc : Scope) : PySem.Env := { scope := sc, locals := 0, globals := 0, cells := [], qual := "", func := none, code := .none, frame := none, builtins := 0 }
theorem swsB_sc (env : PySem.Env) (ts vs : List Expr) : swsB env ts vs = swsB (envS env.scope) ts vs := rfl
/-! ### the look -/
/-- a comprehension's list that is stored on its own line -/
def sameB (L : Loc1) (x : Str) (py pos : Pos) (scope : Scope) : Bool := lclB L x && py.line == pos.line && !(scope.names.any fun (n, k) => n == x && (k == .local || k == .cell))
def isIntC : CE → Bool
  | _ => true
def augB : BOp → Operator → Bool
  | .add, .Add => true
  | .sub, .Sub => true
  | _, _ => false
section
variable (S : Sg)
def parB (L : Loc1) (is : List Nat) (ts es : List Expr) : Bool := match swsB (envS L.sc) ts es with
  | some none => nmsB L is ts
  | some (some ns) => (match is, ts, ns with
    | [i, j], [.Name x _, .Name y _], [x', y'] => slotB L i x && slotB L j y && lclB L x && lclB L y && i != j && x == x' && y == y'
    | [i, j, l], [.Name x _, .Name y _, .Name z _], [x', y', z'] => slotB L i x && slotB L j y && slotB L l z && lclB L x && lclB L y && lclB L z && i != j && i != l && j != l && x == x' && y == y' && z == z'
    | _, _, _ => false)
  | none => false
/-- a store of a comprehension in its own frame -/
def chkC (L : Loc1) (i : Nat) (c : CE) (y : Str) (py : Pos) (e : Expr) : Bool := match c, e with
  | .comp elt tg it ifs, .ListComp x [⟨t, it', fs, 0⟩] scope pos => slotB L i y && sameB L y py pos scope && blkC L.N L.sc scope (ownL L tg.vars) && noSet it' && chkI S it L t it' && tgB (relL L scope) tg t && chkIfs S ifs (relL L scope) fs && chkE S elt (relL L scope) x
  | .alloc (.comp elt tg it ifs), .ListComp x [⟨t, it', fs, 0⟩] scope pos => slotB L i y && sameB L y py pos scope && blkC L.N L.sc scope (ownL L tg.vars) && noSet it' && chkI S it L t it' && tgB (relL L scope) tg t && chkIfs S ifs (relL L scope) fs && chkE S elt (relL L scope) x
  | _, _ => false
/-- a name that a comprehension captures -/
def cellB (L : Loc1) (x : Str) : Bool := match L.sc.names.lookup x with
  | some .cell => true
  | _ => false
mutual
def chkS : CS → Loc1 → Stmt → Bool
  | .expr c, L, st => match st with
    | .Expr e _ => noComp e && chkE S c L e
    | _ => false
  | .set i c, L, st => match st with
    | .Assign [.Name x _] e _ => (noComp e || cellB L x) && slotB L i x && locB L x && chkE S c L e
    | _ => false
  | .setc i c, L, st => match st with
    | .Assign [.Name x p] e _ => chkC S L i c x p e
    | _ => false
  | .unp is c, L, st => match st with
    | .Assign [.Tuple ts _ _] e _ => noComp e && !isTup e && nmsB L is ts && chkE S c L e
    | _ => false
  | .par is cs, L, st => match st with
    | .Assign [.Tuple ts _ _] (.Tuple es _ _) _ => parB L is ts es && chkEs S cs L es
    | _ => false
  | .setix o i c, L, st => match st with
    | .Assign [.Subscript x y _] e _ => noComp e && noSlice y && chkE S c L e && chkE S o L x && chkE S i L y
    | _ => false
  | .aug i op c, L, st => match st with
    | .AugAssign (.Name x _) o e _ => augB op o && slotB L i x && locB L x && chkE S c L e
    | _ => false
  | .ift c a b, L, st => match st with
    | .If x p q _ => tOk c && chkE S c L x && chkSs a L p && chkSs b L q
    | _ => false
  | .for tg it body, L, st => match st with
    | .For t i p [] _ => noSet i && chkI S it L t i && tgB L tg t && chkSs body L p
    | _ => false
  | .while c body, L, st => match st with
    | .While x p [] _ => tOk c && chkE S c L x && chkSs body L p
    | _ => false
  | .ret c, L, st => match st with
    | .Return (some e) _ => chkE S c L e
    | _ => false
  | .retn, _, st => match st with
    | .Return none _ => true
    | _ => false
  | .brk, _, st => match st with
    | .Break _ => true
    | _ => false
  | .cont, _, st => match st with
    | .Continue _ => true
    | _ => false
  | .pass, _, st => match st with
    | .Pass _ => true
    | _ => false
  | _, _, _ => false
def chkSs : CSs → Loc1 → List Stmt → Bool
  | .nil, _, sts => sts.isEmpty
  | .cons c cs, L, sts => match sts with
    | st :: sts => chkS c L st && chkSs cs L sts
    | [] => false
end
end
section
variable (S : Sg) (d k : Nat)
def SS (c : CS) : Prop := ∀ (T : Tb) (X : Cx) (L : Loc1) (st : Stmt), Ctx S d k T X L → PassesOwn (model X.prog X.w) X.A X.env X.xe → chkS S c L st = true → PS X st (tS T fun ρ m => evS (S.g.call d) S.g.mt c ρ m)
def SSs (c : CSs) : Prop := ∀ (T : Tb) (X : Cx) (L : Loc1) (st : List Stmt), Ctx S d k T X L → PassesOwn (model X.prog X.w) X.A X.env X.xe → chkSs S c L st = true → PSs X st (tS T fun ρ m => evSs (S.g.call d) S.g.mt c ρ m)
end
section
variable {S : Sg} {d k : Nat} {T : Tb} {X : Cx} {L : Loc1}
theorem ss_expr (c : CE) : SS S d k (.expr c) := fun T X L st C hp h => by
  unfold chkS at h
  split at h
  · rw [Bool.and_eq_true] at h
    exact s_expr (sndE S d k c T X L _ C h.2).1 (sw_no h.1)
  · cases h
theorem sw_cell {T : Tb} {X : Cx} {L : Loc1} {x : Str} {p : Pos} {e : Expr} {l : Nat} (C : Ctx S d k T X L) (h : cellB L x = true) : swapsWith e (some (.Name x p)) l X.env = pure false := by
  have hk : X.env.kindOf x = some .cell := by
    show X.env.scope.names.lookup x = _
    rw [C.sc]
    unfold cellB at h
    split at h
    · assumption
    · cases h
  cases e <;> first | rfl | (unfold swapsWith; simp [hk, show (NameKind.cell == NameKind.local) = false from rfl])
theorem ss_set (i : Nat) (c : CE) : SS S d k (.set i c) := fun T X L st C hp h => by
  unfold chkS at h
  split at h
  · simp only [Bool.and_eq_true] at h
    obtain ⟨⟨⟨h1, h2⟩, h3⟩, h4⟩ := h
    obtain ⟨b1, _, _⟩ := slot_eq C h2
    obtain ⟨c1, c2⟩ := loc_eq C h3
    exact s_set C.ok.nd b1 c1 (sndE S d k c T X L _ C h4).1 ((Bool.or_eq_true _ _ ▸ h1).elim sw_no fun z => sw_cell C z) c2
  · cases h
theorem ss_unp (is : List Nat) (c : CE) : SS S d k (.unp is c) := fun T X L st C hp h => by
  unfold chkS at h
  split at h
  · simp only [Bool.and_eq_true, Bool.not_eq_true'] at h
    obtain ⟨⟨⟨h1, h2⟩, h3⟩, h4⟩ := h
    obtain ⟨a1, _, a3, a4⟩ := nms_of C _ _ h3
    exact s_unp C.ok (sndE S d k c T X L _ C h4).1 a1 (by rw [ase_len]; exact a4.symm) (ase_no a3) (sws_no h1) (sst_no (by rw [h2]; rfl)) (ase_map rfl)
  · cases h
theorem blk_fn (C : Ctx S d k T X L) : X.env.scope = L.sc := C.sc
theorem ss_par (is : List Nat) (cs : CEs) : SS S d k (.par is cs) := fun T X L st C hp h => by
  unfold chkS at h
  split at h
  · rename_i ts kt pt es ke pe pos
    rw [Bool.and_eq_true] at h
    obtain ⟨h1, h2⟩ := h
    obtain ⟨a1, _, a3⟩ := sndEs S d k cs T X L _ C h2
    unfold parB at h1
    split at h1
    · rename_i hs
      rw [← C.sc, ← swsB_sc] at hs
      obtain ⟨_, b2, b3, b4⟩ := nms_of C _ _ h1
      exact s_parT C.ok a1 b2 (by rw [ase_len]; exact b4.symm) (ase_no b3) (sws_no rfl) (sws_ok hs) (ase_map rfl)
    · rename_i ns hs
      rw [← C.sc, ← swsB_sc] at hs
      split at h1
      · rename_i i j x px y py x' y'
        simp only [Bool.and_eq_true, beq_iff_eq, bne_iff_ne, ne_eq] at h1
        obtain ⟨⟨⟨⟨⟨⟨q1, q2⟩, q3⟩, q4⟩, q5⟩, rfl⟩, rfl⟩ := h1
        match es, h2, a1, hs with
        | [a, b], h2, a1, hs => exact s_par C.ok (slot_eq C q1).1 (slot_eq C q2).1 q5 (lcl_eq C q3) (lcl_eq C q4) a1 (sws_ok hs) (sws_no rfl)
        | [], _, _, hs => simp [swsB] at hs
        | [_], _, _, hs => simp [swsB] at hs
        | _ :: _ :: _ :: _, _, _, hs => simp [swsB] at hs
      · rename_i i j l x px y py z pz x' y' z'
        simp only [Bool.and_eq_true, beq_iff_eq, bne_iff_ne, ne_eq] at h1
        obtain ⟨⟨⟨⟨⟨⟨⟨⟨⟨⟨⟨q1, q2⟩, q3⟩, q4⟩, q5⟩, q6⟩, q7⟩, q8⟩, q9⟩, rfl⟩, rfl⟩, rfl⟩ := h1
        match es, h2, a1, hs with
        | [a, b, c], h2, a1, hs => exact s_par3 C.ok (slot_eq C q1).1 (slot_eq C q2).1 (slot_eq C q3).1 q7 q8 q9 (lcl_eq C q4) (lcl_eq C q5) (lcl_eq C q6) a1 (sws_ok hs) (sws_no rfl)
        | [], _, _, hs => simp [swsB] at hs
        | [_], _, _, hs => simp [swsB] at hs
        | [_, _], _, _, hs => simp [swsB] at hs
        | _ :: _ :: _ :: _ :: _, _, _, hs => simp [swsB] at hs
      · cases h1
    · cases h1
  · cases h
theorem ss_setix (o i c : CE) : SS S d k (.setix o i c) := fun T X L st C hp h => by
  unfold chkS at h
  split at h
  · simp only [Bool.and_eq_true] at h
    obtain ⟨⟨⟨⟨h1, h2⟩, h3⟩, h4⟩, h5⟩ := h
    exact s_setix C.ok (sndE S d k c T X L _ C h3).1 (sndE S d k o T X L _ C h4).1 (sndE S d k i T X L _ C h5).1 (asub h2) (sws_no h1) (sst_no (by simp [isTup])) (ase_map rfl)
  · cases h
theorem ss_aug (i : Nat) (op : BOp) (c : CE) : SS S d k (.aug i op c) := fun T X L st C hp h => by
  unfold chkS at h
  split at h
  · simp only [Bool.and_eq_true] at h
    obtain ⟨⟨⟨h1, h2⟩, h3⟩, h4⟩ := h
    obtain ⟨b1, _, _⟩ := slot_eq C h2
    obtain ⟨c1, c2⟩ := loc_eq C h3
    unfold augB at h1
    split at h1
    · exact s_aug C.ok.nd b1 c1 (sndE S d k c T X L _ C h4).1 ip_add (fun a b r e => by cases e; rfl) c2
    · exact s_aug C.ok.nd b1 c1 (sndE S d k c T X L _ C h4).1 ip_sub (fun a b r e => by cases e; rfl) c2
    · cases h1
  · cases h
theorem ss_ret (c : CE) : SS S d k (.ret c) := fun T X L st C hp h => by
  unfold chkS at h
  split at h
  · exact s_ret (sndE S d k c T X L _ C h).1
  · cases h
theorem ss_retn : SS S d k .retn := fun T X L st C hp h => by
  unfold chkS at h
  split at h
  · exact s_retn
  · cases h
theorem ss_brk : SS S d k .brk := fun T X L st C hp h => by
  unfold chkS at h
  split at h
  · exact s_brk
  · cases h
theorem ss_cont : SS S d k .cont := fun T X L st C hp h => by
  unfold chkS at h
  split at h
  · exact s_cont
  · cases h
theorem ss_pass : SS S d k .pass := fun T X L st C hp h => by
  unfold chkS at h
  split at h
  · exact s_pass
  · cases h
theorem same_sw (C : Ctx S d k T X L) {y : Str} {py pos : Pos} {elt : Expr} {gs : List Comprehension} {scope : Scope} {l : Nat} (h : sameB L y py pos scope = true) : X.env.scope.names.lookup y = some .local ∧ swapsWith (.ListComp elt gs scope pos) (some (.Name y py)) l X.env = pure true := by
  unfold sameB at h
  simp only [Bool.and_eq_true, Bool.not_eq_true'] at h
  obtain ⟨⟨h1, h2⟩, h3⟩ := h
  exact ⟨lcl_eq C h1, sw_true (by rw [C.sc]; exact C.kd) (lcl_eq C h1) h2 h3⟩
theorem ss_comp (al : Bool) {elt : CE} {tg : Tg} {it : CI} {ifs : CEs} {i : Nat} {y : Str} {py spos pos : Pos} {x t it' : Expr} {fs : List Expr} {scope : Scope} (C : Ctx S d k T X L)
    (h : (slotB L i y && sameB L y py pos scope && blkC L.N L.sc scope (ownL L tg.vars) && noSet it' && chkI S it L t it' && tgB (relL L scope) tg t && chkIfs S ifs (relL L scope) fs && chkE S elt (relL L scope) x) = true) :
    PS X (.Assign [.Name y py] (.ListComp x [⟨t, it', fs, 0⟩] scope pos) spos) (tS T (setO i (allocO al (lcO tg.vars (bindTg tg) (fun ρ m => evI (S.g.call d) S.g.mt it ρ m) (fun ρ m => evIfs (S.g.call d) S.g.mt ifs ρ m) fun ρ m => evE (S.g.call d) S.g.mt elt ρ m)))) := by
  simp only [Bool.and_eq_true] at h
  obtain ⟨⟨⟨⟨⟨⟨⟨h0, h0'⟩, h1⟩, h2⟩, h3⟩, h4⟩, h5⟩, h6⟩ := h
  obtain ⟨l1, l2⟩ := same_sw (elt := x) (gs := [⟨t, it', fs, 0⟩]) (l := spos.line) C h0'
  have h := s_setLc (T := T) (own := ownL L tg.vars) al C.ok (slot_eq C h0).1 l1 l2 (sndI S d k it T X L _ _ C h3) (by rw [C.N, C.sc]; exact blkOk_by h1) (fun gh s H D cl fp => by rw [own_vars]; exact tg_of (C.blk h1 s H D cl fp).g h4) (fun gh s H D cl fp => sndIf S d k ifs _ _ _ _ (C.blk h1 s H D cl fp).g h5) (fun gh s H D cl fp => (sndE S d k elt _ _ _ _ (C.blk h1 s H D cl fp).g h6).1) (fsi h2)
  rw [own_vars] at h
  exact h
theorem ss_setc (i : Nat) (c : CE) : SS S d k (.setc i c) := fun T X L st C hp h => by
  unfold chkS at h
  split at h
  · unfold chkC at h
    split at h
    · exact ss_comp false C h
    · exact ss_comp true C h
    · cases h
  · cases h
theorem ss_ift {c : CE} {a b : CSs} (ha : SSs S d k a) (hb : SSs S d k b) : SS S d k (.ift c a b) := fun T X L st C hp h => by
  unfold chkS at h
  split at h
  · simp only [Bool.and_eq_true] at h
    obtain ⟨⟨⟨h1, h2⟩, h3⟩, h4⟩ := h
    exact s_if ((sndE S d k c T X L _ C h2).2.2 h1) (ha T X L _ C hp h3) (hb T X L _ C hp h4)
  · cases h
theorem ss_for {tg : Tg} {it : CI} {a : CSs} (ha : SSs S d k a) : SS S d k (.for tg it a) := fun T X L st C hp h => by
  unfold chkS at h
  split at h
  · simp only [Bool.and_eq_true] at h
    obtain ⟨⟨⟨h1, h2⟩, h3⟩, h4⟩ := h
    exact s_for C.ok hp (sndI S d k it T X L _ _ C h2) (tg_of C h3) (ha T X L _ C hp h4) (fsi h1)
  · cases h
theorem ss_while {c : CE} {a : CSs} (ha : SSs S d k a) : SS S d k (.while c a) := fun T X L st C hp h => by
  unfold chkS at h
  split at h
  · simp only [Bool.and_eq_true] at h
    obtain ⟨⟨h1, h2⟩, h3⟩ := h
    exact s_while hp ((sndE S d k c T X L _ C h2).2.2 h1) (ha T X L _ C hp h3)
  · cases h
theorem sss_nil : SSs S d k .nil := fun T X L st C hp h => by
  unfold chkSs at h
  cases st with
  | nil => exact s_nil
  | cons _ _ => cases h
theorem sss_cons {c : CS} {cs : CSs} (hc : SS S d k c) (hs : SSs S d k cs) : SSs S d k (.cons c cs) := fun T X L st C hp h => by
  unfold chkSs at h
  cases st with
  | nil => cases h
  | cons st sts =>
    rw [Bool.and_eq_true] at h
    exact s_cons (hc T X L st C hp h.1) (hs T X L sts C hp h.2)
end
section
variable (S : Sg) (d k : Nat)
theorem ss_no {c : CS} (h : ∀ L e, chkS S c L e = false) : SS S d k c := fun T X L e C hp q => by rw [h] at q; cases q
mutual
theorem sndS : ∀ c : CS, SS S d k c
  | .expr c => ss_expr c
  | .set i c => ss_set i c
  | .setc i c => ss_setc i c
  | .unp is c => ss_unp is c
  | .par is cs => ss_par is cs
  | .setix o i c => ss_setix o i c
  | .setfld .. => ss_no S d k fun _ _ => by unfold chkS; rfl
  | .aug i op c => ss_aug i op c
  | .ift c a b => ss_ift (sndSs a) (sndSs b)
  | .for tg it a => ss_for (sndSs a)
  | .while c a => ss_while (sndSs a)
  | .ret c => ss_ret c
  | .retn => ss_retn
  | .brk => ss_brk
  | .cont => ss_cont
  | .pass => ss_pass
  | .raise .. => ss_no S d k fun _ _ => by unfold chkS; rfl
theorem sndSs : ∀ c : CSs, SSs S d k c
  | .nil => sss_nil
  | .cons c cs => sss_cons (sndS c) (sndSs cs)
end
end
end Lot
/-! LotT: defs, at any depth. -/
namespace Lot
open PySem PySem.Spec PyProof.Rows L2
section
variable {T : Tb} {α : Al} {W : Addr → Prop} {H : Hp} {m : Mem}
def aCut (α : Al) (n : Nat) : Al := fun i k => if i < n then α i k else none
theorem getM_take {n q : Nat} : getM (m.take n) q = if q < n then getM m q else .dead := by
  unfold getM
  by_cases h : q < n
  · rw [if_pos h, List.getElem?_take_of_lt h]
  · rw [if_neg h, List.getElem?_eq_none (by rw [List.length_take]; omega)]; rfl
theorem cell_take {n q k : Nat} {x : P} (h : cell (m.take n) q k = some x) : q < n ∧ cell m q k = some x := by
  unfold cell at h ⊢
  rw [getM_take] at h
  by_cases hq : q < n
  · rw [if_pos hq] at h; exact ⟨hq, h⟩
  · rw [if_neg hq] at h; cases h
theorem live_take {n q k : Nat} (h : live (m.take n) q k = true) : q < n ∧ live m q k = true := by
  unfold live cell at h ⊢
  rw [getM_take] at h
  by_cases hq : q < n
  · rw [if_pos hq] at h; exact ⟨hq, h⟩
  · rw [if_neg hq] at h; simp at h
theorem HR.take (hr : HR T α W H m) (n : Nat) : HR T (aCut α n) W H (m.take n) where
  wd := hr.wd
  out := fun q k h => by
    unfold aCut
    split
    · rename_i hq
      rw [List.length_take] at h
      exact hr.out q k (by omega)
    · rfl
  cel := fun q k x h => by
    obtain ⟨h1, h2⟩ := cell_take h
    unfold aCut
    rw [if_pos h1]
    exact hr.cel q k x h2
  ins := fun q c fs h => by
    rw [getM_take] at h
    by_cases hq : q < n
    · rw [if_pos hq] at h
      obtain ⟨a, h1, h2, h3⟩ := hr.ins q c fs h
      unfold aCut
      simp only [if_pos hq]
      exact ⟨a, h1, h2, h3⟩
    · rw [if_neg hq] at h; cases h
  inj := fun q k q' k' a l1 l2 e1 e2 => by
    obtain ⟨h1, h2⟩ := live_take l1
    obtain ⟨h3, h4⟩ := live_take l2
    unfold aCut at e1 e2
    rw [if_pos h1] at e1
    rw [if_pos h3] at e2
    exact hr.inj q k q' k' a h2 h4 e1 e2
  gho := fun a o h => by
    obtain ⟨h1, h2, h3⟩ := hr.gho a o h
    refine ⟨h1, h2, fun q k l e => ?_⟩
    obtain ⟨h4, h5⟩ := live_take l
    unfold aCut at e
    rw [if_pos h4] at e
    exact h3 q k h5 e
theorem Ext.cut {α' : Al} {W' : Addr → Prop} {H' : Hp} {n : Nat} (e : Ext α W H α' W' H') (h : ∀ q k, n ≤ q → α q k = none) : Ext α W H (aCut α' n) W' H' := ⟨fun q k a z => by
  unfold aCut
  have hq : q < n := by
    rcases Nat.lt_or_ge q n with y | y
    · exact y
    · rw [h q k y] at z; cases z
  rw [if_pos hq]
  exact e.al q k a z, e.hp⟩
/-- from a body's end to what the call tells -/
theorem Hg.settle {o : Out Fl} {Q : VK} (hr : HR T α W H m) (h : Hg T α W H (settle m.length o) (fin T Q)) : Hg T α W H o (endS T { nx := fun _ H' => Q .non H', rt := Q }) := by
  have cut : ∀ {α' : Al} {W' : Addr → Prop} {H' : Hp}, Ext α W H α' W' H' → Ext α W H (aCut α' m.length) W' H' := fun e => e.cut fun q k z => hr.out q k z
  unfold Lot.settle at h
  cases o with
  | exn _ _ _ => exact h
  | bad => exact h
  | ok fl m1 =>
    dsimp only [Out.bind_ok] at h
    cases fl with
    | nx ρ => exact fun α' W' H' e hr' σ _ => h _ _ _ (cut e) (hr'.take _) .non (by simp only [RD, Rp])
    | rt x =>
      cases x with
      | p x => exact fun α' W' H' e hr' v rv => h _ _ _ (cut e) (hr'.take _) v rv
      | ref q k => exact fun α' W' H' e hr' v rv => h _ _ _ e hr' v rv
      | fn i => exact fun α' W' H' e hr' v rv => h _ _ _ (cut e) (hr'.take _) v rv
      | scr l => exact h.elim
      | gt l => exact h.elim
    | bk ρ => exact h.elim
    | ct ρ => exact h.elim
theorem rs_start (N : List Str) : ∀ {ds : List D} {vs : List V}, RDL T α W H ds vs → RS T α W H (ds.map some ++ List.replicate (N.length - ds.length) none) (L2.start N vs) := by
  intro ds vs h
  have hl := rdl2 h
  unfold L2.start
  refine ⟨by simp [hl], fun i d e => ?_⟩
  by_cases hi : i < ds.length
  · rw [List.getElem?_append_left (by simpa using hi), List.getElem?_map] at e
    have key : ∀ (ds : List D) (vs : List V), RDL T α W H ds vs → ∀ (i : Nat) (d : D), ds[i]? = some d → ∃ v, vs[i]? = some v ∧ RD T α W H d v := by
      intro ds
      induction ds with
      | nil => intro vs _ i d h; simp at h
      | cons x xs ih =>
        intro vs h i d e
        obtain ⟨v, r, rfl, h1, h2⟩ := h
        cases i with
        | zero => simp at e; subst e; exact ⟨v, rfl, h1⟩
        | succ i => simpa using ih r h2 i d (by simpa using e)
    cases q : ds[i]? with
    | none => rw [q] at e; cases e
    | some x =>
      rw [q] at e
      cases e
      obtain ⟨v, h1, h2⟩ := key ds vs h i _ q
      exact ⟨v, by rw [List.getElem?_append_left (by rw [List.length_map, hl]; exact hi), List.getElem?_map, h1]; rfl, h2⟩
  · rw [List.getElem?_append_right (by simpa using hi)] at e
    rw [List.getElem?_replicate] at e
    split at e <;> cases e
end
/-! ### defs -/
/-- what the top has made of the defs and names -/
structure Tops (S : Sg) (T : Tb) (mg : Str → Option Value) : Prop where
  defs : ∀ f q, S.g.fns[f]? = some q → ∃ (st : Stmt) (fd : FuncData) (ps : List Str), FunD T.K q.name q.qual (defArgs st) (defBody st) (defScope st) [] [] (T.fa f) fd ∧ FnScope q.names ps (defScope st) ∧ ps.length = q.np ∧ chkSs S q.body ⟨q.names, defScope st, (defScope st).names⟩ (defBody st) = true ∧ Binds T.K fd ps []
  gl : ∀ x q, S.G.lookup x = some q → match q with
    | .blt => mg x = none
    | .fn i => mg x = some (.ref (T.fa i))
    | .int i => ∃ u, mg x = some u ∧ RelV (.int i) u
    | .str s => ∃ u, mg x = some u ∧ RelV (.str s) u
    | .xc _ => True
    | .tup l => ∃ a, mg x = some (.ref a) ∧ KTup T.K a (l.map V.str)
/-- .. of the exceptions' classes, over a base -/
def Xcs (S : Sg) (T : Tb) (mg : Str → Option Value) (base : Heap) : Prop := ∀ (X : Cx), X.mg = mg → X.base = base → ∀ c q, S.xs[c]? = some q → XcOk S.xs T X c q
def FnAt0 (T : Tb) (mg : Str → Option Value) (base : Heap) (k : Nat) (a : Addr) (cf : List D → Mem → Out D) : Prop := ∃ fd ps, FnG T.P T.w T.K mg base k a fd ps (spF T cf) ∧ PySem.W.keepIn T.K (.ref a) = true ∧ Binds T.K fd ps []
theorem fn_step {S : Sg} {T : Tb} {mg : Str → Option Value} {base : Heap} (B : Tops S T mg) (BX : Xcs S T mg base) {d f : Nat} {q : Fn} (hf : S.g.fns[f]? = some q) {st : Stmt} {fd : FuncData} {ps : List Str} (F : FunD T.K q.name q.qual (defArgs st) (defBody st) (defScope st) [] [] (T.fa f) fd) (Sc : FnScope q.names ps (defScope st)) (hp : ps.length = q.np)
    (hc : chkSs S q.body ⟨q.names, defScope st, (defScope st).names⟩ (defBody st) = true) (ih : ∀ f q, S.g.fns[f]? = some q → FnAt0 T mg base (d + 3) (T.fa f) (S.g.call d f)) : FnG T.P T.w T.K mg base (d + 1 + 3) (T.fa f) fd ps (spF T (S.g.call (d + 1) f)) := by
  have un : ∀ ds m, S.g.call (d + 1) f ds m = if ds.length = q.np then settle m.length (evSs (S.g.call d) S.g.mt q.body (ds.map some ++ List.replicate (q.names.length - q.np) none) m) else .bad := fun ds m => by
    show (match S.g.fns[f]? with | some q => _ | none => _) = _
    rw [hf]
  refine FunD.okG F Sc (fun vs H Q E h => ?_) fun cdv A outer s H vs Q E hcalm hr h => ?_
  · obtain ⟨gh, α, W, m, ds, hr, rv, h⟩ := h
    rw [un] at h
    split at h
    · rename_i hl
      rw [rdl2 rv, hl, hp]
    · exact h.elim
  · obtain ⟨gh, α, W, m, ds, hr1, rv, h⟩ := h
    rw [un] at h
    split at h
    · rename_i hl
      refine ⟨_, PSs.nox (sndSs S d (d + 3) q.body (T.g gh) (cxOf CX0 T.P T.w T.K mg base q.names q.qual (defScope st) (T.fa f) cdv A outer s H E).nox ⟨q.names, defScope st, (defScope st).names⟩ (defBody st) ⟨⟨rfl, rfl, rfl, rfl, Sc.nd, ?_, hcalm.deeper _⟩, rfl, rfl, Sc.kind, fun _ _ => rfl, fun f q hf => ?_, hr, fun x q h => ?_, Nat.le_add_left 3 d, fun c qx h => ?_⟩ PassesOwn.never hc), α, W, _, m, hr1, ?_, Hg.settle hr1 h⟩
      · have := hr.un
        show (A.deeper _).units + 70 < cLine
        omega
      · exact ih f q hf
      · have := B.gl x q h
        cases q <;> exact this
      · have z := BX (cxOf CX0 T.P T.w T.K mg base q.names q.qual (defScope st) (T.fa f) cdv A outer s H E).nox rfl rfl c qx h
        exact ⟨z.mgx, z.isi, z.sub, z.ve, z.init, z.plain⟩
      · rw [← hl]
        exact rs_start q.names rv
    · exact h.elim
theorem fn_all {S : Sg} {T : Tb} {mg : Str → Option Value} {base : Heap} (B : Tops S T mg) (BX : Xcs S T mg base) : ∀ (d f : Nat) (q : Fn), S.g.fns[f]? = some q → FnAt0 T mg base (d + 3) (T.fa f) (S.g.call d f)
  | 0, f, q, hf => by
    obtain ⟨st, fd, ps, F, Sc, hp, hc, hb⟩ := B.defs f q hf
    have no : ∀ vs H Q E, ¬ spF T (S.g.call 0 f) vs H Q E := fun vs H Q E ⟨gh, α, W, m, ds, _, _, h⟩ => h
    exact ⟨fd, ps, ⟨fun vs H Q E h => (no _ _ _ _ h).elim, fun A outer s H args us vs Q E _ _ _ _ _ h => (no _ _ _ _ h).elim⟩, F.kp, hb⟩
  | d + 1, f, q, hf => by
    obtain ⟨st, fd, ps, F, Sc, hp, hc, hb⟩ := B.defs f q hf
    exact ⟨fd, ps, fn_step B BX hf F Sc hp hc fun f q hf => fn_all B BX d f q hf, F.kp, hb⟩
end Lot
/-! LotV: method calls on one line; an exception's __init__. -/
namespace Lot
open PySem PySem.Spec PyProof.Rows L2
/-! ### an __init__ -/
/-- the body of an own __init__: the base's __init__, then each field by its parameter -/
def initB (L : Loc1) (base : Str) (flds : List Str) (body : List Stmt) : Bool := match body, flds with
  | [.Expr (.Call (.Attribute (.Name x _) m p2) [.Name s _, .Constant (.str _) _ _] [] pos) _, .Assign [.Attribute (.Name s1 _) f1 _] (.Name y1 _) _], [g1] =>
    x == base && (L.sc.names.lookup x == some .globalImplicit) && !(x == ("__debug__" : Str)) && m == ("__init__" : Str) && p2.endLine == pos.line && slotB L 0 s && visB L s && slotB L 0 s1 && visB L s1 && slotB L 1 y1 && visB L y1 && f1 == g1
  | [.Expr (.Call (.Attribute (.Name x _) m p2) [.Name s _, .Constant (.str _) _ _] [] pos) _, .Assign [.Attribute (.Name s1 _) f1 _] (.Name y1 _) _, .Assign [.Attribute (.Name s2 _) f2 _] (.Name y2 _) _], [g1, g2] =>
    x == base && (L.sc.names.lookup x == some .globalImplicit) && !(x == ("__debug__" : Str)) && m == ("__init__" : Str) && p2.endLine == pos.line && slotB L 0 s && visB L s && slotB L 0 s1 && visB L s1 && slotB L 1 y1 && visB L y1 && f1 == g1 && slotB L 0 s2 && visB L s2 && slotB L 2 y2 && visB L y2 && f2 == g2
  | _, _ => false
/-- what is told of the base -/
structure BaseOk (K : PySem.W.Frag) (mg : Str → Option Value) (base : Str) (C0 : Addr) : Prop where
  mg : mg base = some (.ref C0)
  ty : PySem.W.typeIn K (.ref C0) = some (.type "type")
  op : PySem.W.nsIn K cStatics "thirdparty.any" = some none
  vV : PySem.W.findCls K (.ref C0) (.type "type") "__init__" = some (.val (.builtin "ValueError.__init__"))
theorem init_ok {P : Program} {w : World} {T : Tb} {mg : Str → Option Value} {base : Heap} {x qual : Str} {params : Arguments} {body : List Stmt} {scope : Scope} {f : Addr} {fd : FuncData} {N ps : List Str} {bn : Str} {C0 : Addr} {c : Nat} {flds : List Str}
    (F : FunD T.K x qual params body scope [] [] f fd) (S : FnScope N ps scope) (B : BaseOk T.K mg bn C0) (hX : OexC T.K (T.ca c)) (hp : ps.length = flds.length + 1) (hN : N.length = flds.length + 1) (hf : ∀ g ∈ flds, PySem.W.findIn T.K (.ref (T.ca c)) g = some none) (hb : initB ⟨N, scope, []⟩ bn flds body = true) :
    FnOk P w T.K mg base CX0 1 f fd ps (spX T c flds) := by
  refine F.ok S (fun vs H Q E h => ?_) (fun cdv A outer s H vs Q E hr h => ?_)
  · obtain ⟨a, ys, rfl, hl, _⟩ := h
    simp [hl, hp]
  · obtain ⟨a, ys, rfl, hl, ha, hq⟩ := h
    have vis : ∀ {x : Str}, visB ⟨N, scope, []⟩ x = true → Vis scope x := fun {x} h => by
      unfold visB at h
      unfold Vis
      split at h <;> first | cases h | skip
      · rename_i e; exact .inl e
      · rename_i e; exact .inr (.inl e)
      · rename_i e; exact .inr (.inr e)
    have slot : ∀ {i : Nat} {x : Str}, slotB ⟨N, scope, []⟩ i x = true → N[i]? = some x ∧ (x == ("__debug__" : Str)) = false ∧ (x == ("__classdict__" : Str)) = false := fun {i x} h => by
      unfold slotB at h
      split at h
      · rename_i y e
        simp only [Bool.and_eq_true, Bool.not_eq_true', beq_iff_eq] at h
        obtain ⟨⟨rfl, h1⟩, h2⟩ := h
        exact ⟨e, h1, h2⟩
      · cases h
    unfold initB at hb
    split at hb
    · rename_i x p1 m p2 sn ps' msg j pm pos posE s1 ps1 f1 pa1 y1 py1 pos1 g1
      simp only [Bool.and_eq_true, beq_iff_eq, Bool.not_eq_true'] at hb
      obtain ⟨⟨⟨⟨⟨⟨⟨⟨⟨⟨⟨rfl, b2⟩, b3⟩, rfl⟩, b5⟩, b6⟩, b7⟩, b8⟩, b9⟩, b10⟩, b11⟩, rfl⟩ := hb
      match ys, hl with
      | [y], _ =>
        obtain ⟨c1, c2, c3⟩ := slot b6
        obtain ⟨d1, d2, d3⟩ := slot b8
        obtain ⟨e1, e2, e3⟩ := slot b10
        refine ⟨_, PSs.nox (pss_cons (ps_expr (pe_xinit (pl := plainOf _ _) b2 B.mg B.ty B.op B.vV b3 (pa_cons (pe_var c1 (vis b7) c2 c3) (pa_cons pe_str pa_nil (star1 rfl)) (star1 rfl)) (mc_of (atb rfl) (by simpa using b5) rfl (by show 2 < 30; decide)) (star1 rfl) (pl_of rfl)) (sw_no rfl))
          (pss_one (ps_ost (pe_var d1 (vis b9) d2 d3) (pe_var e1 (vis b11) e2 e3) (sw_no rfl)))), ?_⟩
        have n0 : (L2.start N [V.ref a, y])[0]? = some (some (.ref a)) := rfl
        have n1 : (L2.start N [V.ref a, y])[1]? = some (some y) := rfl
        have gone : ∀ d, H d = none → d ≠ a → Q .non (upd (upd H d (exd d [(f1, y)])) a (exo a (T.ca c) (some d))) := fun d hd hda => hq d _ hd hda upd_same (by rw [upd_ne hda]; exact upd_same) fun b h1 h2 => by rw [upd_ne h1, upd_ne h2]
        exact ⟨_, n0, a, T.ca c, [.str msg], rfl, by show 1 ≤ 1000; decide, hX, ha, _, n1, _, n0, a, T.ca c, rfl, hX, hf _ (by simp), .inl ⟨ha, gone⟩⟩
    · rename_i x p1 m p2 sn ps' msg j pm pos posE s1 ps1 f1 pa1 y1 py1 pos1 s2 ps2 f2 pa2 y2 py2 pos2 g1 g2
      simp only [Bool.and_eq_true, beq_iff_eq, Bool.not_eq_true'] at hb
      obtain ⟨⟨⟨⟨⟨⟨⟨⟨⟨⟨⟨⟨⟨⟨⟨⟨rfl, b2⟩, b3⟩, rfl⟩, b5⟩, b6⟩, b7⟩, b8⟩, b9⟩, b10⟩, b11⟩, rfl⟩, b13⟩, b14⟩, b15⟩, b16⟩, rfl⟩ := hb
      match ys, hl with
      | [y, z], _ =>
        obtain ⟨c1, c2, c3⟩ := slot b6
        obtain ⟨d1, d2, d3⟩ := slot b8
        obtain ⟨e1, e2, e3⟩ := slot b10
        obtain ⟨h1, h2, h3⟩ := slot b13
        obtain ⟨i1, i2, i3⟩ := slot b15
        refine ⟨_, PSs.nox (pss_cons (ps_expr (pe_xinit (pl := plainOf _ _) b2 B.mg B.ty B.op B.vV b3 (pa_cons (pe_var c1 (vis b7) c2 c3) (pa_cons pe_str pa_nil (star1 rfl)) (star1 rfl)) (mc_of (atb rfl) (by simpa using b5) rfl (by show 2 < 30; decide)) (star1 rfl) (pl_of rfl)) (sw_no rfl))
          (pss_cons (ps_ost (pe_var d1 (vis b9) d2 d3) (pe_var e1 (vis b11) e2 e3) (sw_no rfl)) (pss_one (ps_ost (pe_var h1 (vis b14) h2 h3) (pe_var i1 (vis b16) i2 i3) (sw_no rfl))))), ?_⟩
        have n0 : (L2.start N [V.ref a, y, z])[0]? = some (some (.ref a)) := rfl
        have n1 : (L2.start N [V.ref a, y, z])[1]? = some (some y) := rfl
        have n2 : (L2.start N [V.ref a, y, z])[2]? = some (some z) := rfl
        refine ⟨_, n0, a, T.ca c, [.str msg], rfl, by show 1 ≤ 1000; decide, hX, ha, _, n1, _, n0, a, T.ca c, rfl, hX, hf _ (by simp), .inl ⟨ha, fun d hd hda => ?_⟩⟩
        refine ⟨_, n2, _, n0, a, T.ca c, rfl, hX, hf _ (by simp), .inr ⟨d, [(f1, y)], upd_same, by rw [upd_ne hda]; exact upd_same, by show 1 ≤ 900; decide, ?_⟩⟩
        refine hq d _ hd hda (by rw [upd_ne (Ne.symm hda)]; exact upd_same) upd_same fun b h1 h2 => by rw [upd_ne h2, upd_ne h1, upd_ne h2]
    · cases hb
end Lot
/-! LotW: from the head's facts and the evaluator's word to the law's promise. -/
namespace Lot
open PySem PySem.Spec PyProof.Rows L2
/-! ### what is looked at in the written part -/
def oexB (K : PySem.W.Frag) (C : Addr) : Bool := (match K.lookup C with
  | some ⟨.type "type", _, .cls cd, sl⟩ => (match cd.mro, sl.toList with
    | .ref C' :: bm, [_, _, _, _, some (.builtin n), _] => C' == C && n == "ValueError.__new__" && !cd.hasDel && cd.hasDict && PySem.HandSPX.refsVE bm
    | _, _ => false)
  | _ => false) && decide (PySem.W.findIn K (.ref C) "__setattr__" = some (some (.builtin "object.__setattr__"))) && decide (PySem.W.subIn K (.ref C) (.type "BaseException") = some true) && decide (PySem.W.typeIn K (.ref C) = some (.type "type")) && PySem.W.keepIn K (.ref C)
theorem oexB_ok {K : PySem.W.Frag} {C : Addr} (h : oexB K C = true) : OexC K C := by
  unfold oexB at h
  simp only [Bool.and_eq_true, decide_eq_true_eq] at h
  obtain ⟨⟨⟨⟨q, h2⟩, h3⟩, h4⟩, h5⟩ := h
  refine ⟨?_, h2, h3, h4, h5⟩
  split at q
  · rename_i dd cd sl ho
    split at q
    · rename_i C' bm k0 k1 k2 k3 n k5 hm hs
      simp only [Bool.and_eq_true, beq_iff_eq, Bool.not_eq_true'] at q
      obtain ⟨⟨⟨⟨rfl, rfl⟩, hdel⟩, hd⟩, hb⟩ := q
      obtain ⟨nm, bs, mro, ns, qn, hd', sn, sub, ab, col, del⟩ := cd
      dsimp only at hm hdel hd
      subst hm hdel hd
      have hsl : sl = #[k0, k1, k2, k3, some (.builtin "ValueError.__new__"), k5] := by
        obtain ⟨l⟩ := sl
        simp only at hs
        rw [hs]
      subst hsl
      exact ⟨nm, qn, ns, bs, bm, sn, sub, ab, col, dd, k0, k1, k2, k3, k5, ho, hb⟩
    · cases q
  · cases q
def xciB (K : PySem.W.Frag) (C : Addr) : Bool := (PySem.W.clsIn K C).isSome && decide (PySem.W.findIn K (.ref C) "__getattribute__" = some (some (.builtin "BaseException.__getattribute__"))) && decide (PySem.W.findIn K (.ref C) "__getattr__" = some none) && decide (PySem.W.subIn K (.ref C) (.type "BaseException") = some true) &&
  decide (PySem.W.findIn K (.ref C) "__class__" = some (some (.builtin "object.__class__"))) && decide (PySem.W.specialIn K (.builtin "object.__class__") "__get__" = some (some (.builtin "getset_descriptor.__get__"))) && decide (PySem.W.takesIn K (.builtin "object.__class__") = some true) && decide (PySem.W.mroIn K C (.type "object") = some true)
theorem xciB_ok {K : PySem.W.Frag} {C : Addr} (h : xciB K C = true) : XcI K C := by
  unfold xciB at h
  simp only [Bool.and_eq_true, decide_eq_true_eq] at h
  obtain ⟨⟨⟨⟨⟨⟨⟨h1, h2⟩, h3⟩, h4⟩, h5⟩, h6⟩, h7⟩, h8⟩ := h
  exact ⟨h1, h2, h3, h4, h5, h6, h7, h8⟩
def xcB (xs : List Xc) (K : PySem.W.Frag) (q : Xc) : Bool := xciB K (He.ga K q.name) && ((List.range xs.length).all fun j => match xs[j]? with
    | some r => decide (PySem.W.kitOne K (.ref (He.ga K q.name)) (.ref (He.ga K r.name)) = some (q.ups.contains j))
    | none => true) && decide (PySem.W.kitOne K (.ref (He.ga K q.name)) (.type "ValueError") = some true) &&
  (if q.own then oexB K (He.ga K q.name) && xfB K (He.ga K q.name) && decide q.flds.Nodup && (q.flds.all fun f => decide (PySem.W.findIn K (.ref (He.ga K q.name)) f = some none)) && decide (PySem.W.findIn K (.ref (He.ga K q.name)) "__init__" = some (some (.ref (He.ma K (He.ga K q.name) "__init__")))) && decide (PySem.W.typeIn K (.ref (He.ma K (He.ga K q.name) "__init__")) = some (.type "function"))
    else PySem.W.excIn K (He.ga K q.name) PySem.HandSPX.veTail "ValueError.__new__" && PySem.W.keepIn K (.ref (He.ga K q.name)))
def baseB (K : PySem.W.Frag) (b : Str) : Bool := decide (PySem.W.typeIn K (.ref (He.ga K b)) = some (.type "type")) && decide (PySem.W.nsIn K cStatics "thirdparty.any" = some none) && (match PySem.W.findCls K (.ref (He.ga K b)) (.type "type") "__init__" with
  | some (.val (.builtin s)) => s == "ValueError.__init__"
  | _ => false)
theorem baseB_ok {K : PySem.W.Frag} {mg : Str → Option Value} {b : Str} (hm : mg b = some (.ref (He.ga K b))) (h : baseB K b = true) : BaseOk K mg b (He.ga K b) := by
  unfold baseB at h
  simp only [Bool.and_eq_true, decide_eq_true_eq] at h
  obtain ⟨⟨h1, h2⟩, h3⟩ := h
  refine ⟨hm, h1, h2, ?_⟩
  split at h3
  · rename_i s e
    rw [e, eq_of_beq h3]
  · cases h3
/-- a tuple of texts among the head's objects -/
def strsV : List Value → List Str → Bool
  | [], [] => true
  | .str y _ :: vs, z :: zs => decide (y = z) && strsV vs zs
  | _, _ => false
theorem strsV_ok : ∀ {vs : List Value} {zs : List Str}, strsV vs zs = true → Vals (zs.map V.str) vs
  | [], [], _ => .nil
  | .str y t :: vs, z :: zs, h => by
    simp only [strsV, Bool.and_eq_true, decide_eq_true_eq] at h
    obtain ⟨rfl, h2⟩ := h
    exact .cons ⟨t, rfl⟩ (strsV_ok h2)
def tupB (K : PySem.W.Frag) (a : Addr) (r : List Str) : Bool := match K.lookup a with
  | some o => decide (o.cls = .type "tuple") && decide (o.dict = none) && (match o.data with
    | .seq its n => decide (its.size ≤ sizeLine) && strsV its.toList r
    | _ => false)
  | none => false
theorem tupB_ok {K : PySem.W.Frag} {a : Addr} {r : List Str} (h : tupB K a r = true) : KTup K a (r.map V.str) := by
  unfold tupB at h
  split at h
  · rename_i o e
    rw [Bool.and_eq_true, Bool.and_eq_true, decide_eq_true_eq, decide_eq_true_eq] at h
    obtain ⟨⟨h1, h1'⟩, h2⟩ := h
    split at h2
    · rename_i its n e2
      rw [Bool.and_eq_true, decide_eq_true_eq] at h2
      exact ⟨o, its, n, e, h1, h1', e2, h2.1, strsV_ok h2.2⟩
    · cases h2
  · cases h
/-- .. of the names' table -/
def gtB (G : List (Str × GK)) (K : PySem.W.Frag) : Bool := G.all fun p => match p.2 with
  | .tup r => tupB K (He.ga K p.1) r
  | _ => true
/-- the written part's own look -/
def exB (xs : List Xc) (b : Option Str) (K : PySem.W.Frag) : Bool := xs.all (xcB xs K) && (match b with | some b => baseB K b | none => true)
/-! ### what is looked at in the text -/
def fscB (N P : List Str) (sc : Scope) : Bool := (match sc.kind with | .function => true | _ => false) && !sc.isCoroutine && !sc.isGenerator && decide N.Nodup && decide (N.take P.length = P) && (P.all fun x => match sc.names.lookup x with | some .local => true | some .cell => true | _ => false) && (sc.names.all fun y => match y.2 with | .free => false | _ => true)
theorem fscB_ok {N P : List Str} {sc : Scope} (h : fscB N P sc = true) : FnScope N P sc := by
  unfold fscB at h
  simp only [Bool.and_eq_true, decide_eq_true_eq, Bool.not_eq_true', List.all_eq_true] at h
  obtain ⟨⟨⟨⟨⟨⟨h1, h2⟩, h3⟩, h4⟩, h5⟩, h6⟩, h7⟩ := h
  refine ⟨?_, h2, h3, h4, h5, fun x hx => ?_, fun y hy e => ?_⟩
  · split at h1
    · rename_i e; exact e
    · cases h1
  · have := h6 x hx
    split at this
    · rename_i e; exact .inl e
    · rename_i e; exact .inr e
    · cases this
  · have := h7 y hy
    rw [e] at this
    cases this
def fnB (S : Sg) (q : Fn) (st : Stmt) : Bool := fscB q.names (q.names.take q.np) (defScope st) && decide (q.np ≤ q.names.length) && chkSs S q.body ⟨q.names, defScope st, (defScope st).names⟩ (defBody st)
/-- how a def's arguments bind -/
def BindP (name qual : Str) (ps : List Str) (st : Stmt) : Prop := ∀ (kV doc pm : Value) (an : Option Addr) (cdv ct : Value) (us : List Value), us.length = ps.length → bindArgs (PySem.W.fnOf name qual (defArgs st) (defBody st) (defScope st) .none kV doc pm an cdv ct) ⟨us, []⟩ = pure (ps.zip us)
def faOf (p : Str × GK) : He.Fa := match p.2 with
  | .blt => .free p.1
  | .fn _ => .glo p.1
  | .xc _ => .glo p.1
  | .tup _ => .glo p.1
  | .int i => .int p.1 i
  | .str s => .str p.1 s
def defOf (q : Fn) (st : Stmt) : He.DefD := ⟨(q.name, none), q.name, q.qual, defArgs st, defBody st, defScope st, [], []⟩
def iniOf (q : Xc) (qual : Str) (st : Stmt) : He.DefD := ⟨(q.name, some "__init__"), "__init__", qual, defArgs st, defBody st, defScope st, [], []⟩
/-- the names' table -/
def gB (S : Sg) : Bool := S.G.all fun p => match p.2 with
  | .fn i => (match S.g.fns[i]? with | some q => q.name == p.1 | none => false)
  | .xc j => (match S.xs[j]? with | some q => q.name == p.1 | none => false)
  | _ => true
def mkT (S : Sg) (P : Program) (w : World) (K : PySem.W.Frag) : Tb where
  P := P
  w := w
  K := K
  fa := fun i => match S.g.fns[i]? with | some q => He.ga K q.name | none => 0
  ca := fun c => match S.xs[c]? with | some q => He.ga K q.name | none => 0
  fn := fun c i => match S.xs[c]? with | some q => q.flds[i]? | none => none
  gh := fun _ => none
theorem look_mem {α β : Type} [BEq α] [LawfulBEq α] {x : α} {q : β} : ∀ {l : List (α × β)}, l.lookup x = some q → (x, q) ∈ l
  | [], h => by simp at h
  | (a, b) :: l, h => by
    rw [List.lookup_cons] at h
    by_cases e : x = a
    · subst e
      rw [beq_self_eq_true] at h
      cases h
      exact List.mem_cons_self
    · have : (x == a) = false := by simpa using e
      rw [this] at h
      exact List.mem_cons_of_mem _ (look_mem h)
section
variable {S : Sg} {P : Program} {w : World} {K : PySem.W.Frag} {h : Heap} {mg : Str → Option Value} {fn : List He.DefD} {fa : List He.Fa}
theorem gl_of (X : K.In h) (G : h.Ns mainGlobals mg) (c : He.SaysD fa fn K) (hfa : ∀ p ∈ S.G, faOf p ∈ fa) (hg : gB S = true) : ∀ x q, S.G.lookup x = some q → match q with
    | .blt => mg x = none
    | .fn i => mg x = some (.ref ((mkT S P w K).fa i))
    | .int i => ∃ u, mg x = some u ∧ RelV (.int i) u
    | .str s => ∃ u, mg x = some u ∧ RelV (.str s) u
    | .xc j => mg x = some (.ref ((mkT S P w K).ca j))
    | .tup l => gtB S.G K = true → ∃ a, mg x = some (.ref a) ∧ KTup K a (l.map V.str) := by
  intro x q hq
  have hm := look_mem hq
  have hF := c.facts (hfa _ hm)
  unfold gB at hg
  rw [List.all_eq_true] at hg
  have hgx := hg _ hm
  cases q with
  | blt => exact He.free_ok X G hF
  | fn i =>
    dsimp only at hgx ⊢
    split at hgx
    · rename_i q e
      have := eq_of_beq hgx
      subst this
      show mg q.name = some (.ref (match S.g.fns[i]? with | some q => He.ga K q.name | none => 0))
      rw [e]
      exact He.glo_ok X G hF
    · cases hgx
  | int i => obtain ⟨t, e⟩ := He.int_ok X G hF; exact ⟨_, e, ⟨t, rfl⟩⟩
  | str s => obtain ⟨t, e⟩ := He.str_ok X G hF; exact ⟨_, e, ⟨t, rfl⟩⟩
  | xc j =>
    dsimp only at hgx ⊢
    split at hgx
    · rename_i q e
      have := eq_of_beq hgx
      subst this
      show mg q.name = some (.ref (match S.xs[j]? with | some q => He.ga K q.name | none => 0))
      rw [e]
      exact He.glo_ok X G hF
    · cases hgx
  | tup l =>
    dsimp only
    intro ht
    unfold gtB at ht
    rw [List.all_eq_true] at ht
    exact ⟨_, He.glo_ok X G hF, tupB_ok (ht _ hm)⟩
theorem tops_of (X : K.In h) (G : h.Ns mainGlobals mg) (c : He.SaysD fa fn K) (hfa : ∀ p ∈ S.G, faOf p ∈ fa) (hg : gB S = true) (htu : gtB S.G K = true) {sts : List Stmt}
    (hd : ∀ (f : Nat) q, S.g.fns[f]? = some q → ∃ st, sts[f]? = some st ∧ defOf q st ∈ fn ∧ fnB S q st = true ∧ BindP q.name q.qual (q.names.take q.np) st) : Tops S (mkT S P w K) mg := by
  refine ⟨fun f q hf => ?_, fun x q hq => ?_⟩
  · obtain ⟨st, _, h2, h3, h4⟩ := hd f q hf
    obtain ⟨fd, F⟩ := c.defs h2
    unfold fnB at h3
    simp only [Bool.and_eq_true, decide_eq_true_eq] at h3
    obtain ⟨⟨h5, h6⟩, h7⟩ := h3
    have ef : (mkT S P w K).fa f = He.ga K q.name := by
      show (match S.g.fns[f]? with | some q => He.ga K q.name | none => 0) = _
      rw [hf]
    refine ⟨st, fd, q.names.take q.np, ?_, fscB_ok h5, by rw [List.length_take]; omega, h7, FunD.bindsN F h4⟩
    rw [ef]
    exact F
  · have := gl_of (P := P) (w := w) X G c hfa hg x q hq
    cases q <;> first | exact this | exact this htu | trivial
theorem xcs_of (X : K.In h) (G : h.Ns mainGlobals mg) (c : He.SaysD fa fn K) (hfa : ∀ p ∈ S.G, faOf p ∈ fa) (hg : gB S = true) {bn : Option Str} (hex : exB S.xs bn K = true) (base : Heap)
    (hn : ∀ (j : Nat) q, S.xs[j]? = some q → S.G.lookup q.name = some (.xc j))
    (hi : ∀ (j : Nat) q, S.xs[j]? = some q → q.own = true → ∃ st qual b N ps, bn = some b ∧ He.Fa.glo b ∈ fa ∧ iniOf q qual st ∈ fn ∧ fscB N ps (defScope st) = true ∧ ps.length = q.flds.length + 1 ∧ N.length = q.flds.length + 1 ∧ initB ⟨N, defScope st, []⟩ b q.flds (defBody st) = true ∧ BindP "__init__" qual ps st) :
    Xcs S (mkT S P w K) mg base := by
  intro Y hY hb j q hq
  have eca : (mkT S P w K).ca j = He.ga K q.name := by
    show (match S.xs[j]? with | some q => He.ga K q.name | none => 0) = _
    rw [hq]
  have hG := gl_of (P := P) (w := w) X G c hfa hg q.name _ (hn j q hq)
  dsimp only at hG
  unfold exB at hex
  rw [Bool.and_eq_true, List.all_eq_true] at hex
  have hx := hex.1 q (List.mem_of_getElem? hq)
  unfold xcB at hx
  simp only [Bool.and_eq_true, decide_eq_true_eq] at hx
  obtain ⟨⟨⟨h1, h2⟩, h3⟩, h4⟩ := hx
  rw [List.all_eq_true] at h2
  refine ⟨by rw [hY]; exact hG, by rw [eca]; exact xciB_ok h1, fun i r hr => ?_, by rw [eca]; exact h3, fun ho => ?_, fun ho => ?_⟩
  · have := h2 i (List.mem_range.mpr (List.getElem?_eq_some_iff.mp hr).1)
    rw [hr] at this
    have er : (mkT S P w K).ca i = He.ga K r.name := by
      show (match S.xs[i]? with | some q => He.ga K q.name | none => 0) = _
      rw [hr]
    rw [eca, er]
    exact of_decide_eq_true this
  · rw [if_pos ho] at h4
    simp only [Bool.and_eq_true, decide_eq_true_eq] at h4
    obtain ⟨⟨⟨⟨⟨g1, g2⟩, g3⟩, g4⟩, g5⟩, g6⟩ := h4
    rw [List.all_eq_true] at g4
    obtain ⟨st, qual, b, N, ps, eb, k1, k2, k3, k4, k5, k6, k7⟩ := hi j q hq ho
    subst eb
    have hB := baseB_ok (He.glo_ok X G (c.facts k1)) hex.2
    obtain ⟨fd, F⟩ := c.defs k2
    rw [eca]
    have hO := oexB_ok g1
    have hff : ∀ g ∈ q.flds, PySem.W.findIn K (.ref (He.ga K q.name)) g = some none := fun g hg => of_decide_eq_true (g4 g hg)
    refine ⟨hO, xfB_ok g2, g3, fun i f hf => ⟨?_, hff f (List.mem_of_getElem? hf)⟩, He.ma K (He.ga K q.name) "__init__", fd, ps, g5, g6, ?_, FunD.bindsN F k7⟩
    · show (match S.xs[j]? with | some q => q.flds[i]? | none => none) = some f
      rw [hq]; exact hf
    · rw [hY, hb]
      exact init_ok (T := mkT S P w K) (c := j) F (fscB_ok k3) hB (by rw [eca]; exact hO) k4 k5 (by rw [eca]; exact hff) k6
  · rw [if_neg (by rw [ho]; exact Bool.false_ne_true), Bool.and_eq_true] at h4
    rw [eca]
    exact h4
/-- what the walk wants of the law -/
theorem fnG_mono {P : Program} {w : World} {K : PySem.W.Frag} {mg : Str → Option Value} {base : Heap} {j k : Nat} {f : Addr} {fd : FuncData} {ps : List Str} {sp : Sp} (F : FnG P w K mg base j f fd ps sp) (h : j ≤ k) : FnG P w K mg base k f fd ps sp := ⟨F.len, fun B stk s0 H0 given us vs Q E hc hr => F.go B stk s0 H0 given us vs Q E hc (hr.mono h)⟩
theorem law_end (X : K.In h) (B : Tops S (mkT S P w K) mg) (BX : ∀ base, Xcs S (mkT S P w K) mg base) {d li : Nat} {q : Fn} {fa' : Addr} {st : Stmt} {k : Nat} (hk : d + 1 + 3 ≤ k) (hq : S.g.fns[li]? = some q) (hn : q.np = 1) (hl : 1 ≤ q.names.length) (hf : fa' = (mkT S P w K).fa li) {fd : FuncData}
    (F : FunD K q.name q.qual (defArgs st) (defBody st) (defScope st) [] [] fa' fd) (fB : fnB S q st = true) (bd : BindP q.name q.qual (q.names.take q.np) st) {x : Str} (hx : q.names.take 1 = [x])
    (ev : ∀ ns : List Int, ns.length ≤ 63 → ∃ m, S.g.call (d + 1) li [.scr ns] [] = .ok (.p (.bl true)) m) :
    ∃ (K : PySem.W.Frag) (fd : FuncData) (sp : Sp), K.In h ∧ (∀ (s : Shared) (u : Value), BindsTo s fd ⟨[u], []⟩ [(x, u)]) ∧
      (∀ (H : Hp) (a : Addr) (ns : List Int), ns.length ≤ 63 → Only H → SqL K H a (ns.map V.int) → sp [.ref a] H (fun v _ => v = .bl true) fun _ _ _ => False) ∧
      ∀ base : Heap, K.In base → base.Ns mainGlobals mg → FnG P w K mg base k fa' fd [x] sp := by
  have hps : q.names.take q.np = [x] := by rw [hn]; exact hx
  refine ⟨K, fd, spF (mkT S P w K) (S.g.call (d + 1) li), X, fun s u => ?_, fun H a ns hl hO hS => ?_, fun base _ _ => ?_⟩
  · have := FunD.bindsA F bd s [u] (by rw [hps]; rfl)
    rw [hps] at this
    exact this
  · obtain ⟨m', em⟩ := ev ns hl
    refine ⟨fun _ => none, fun _ _ => none, fun _ => False, [], [.scr ns], ⟨fun a z => z.elim, fun _ _ _ => rfl, fun n k y z => ?_, fun n c fs z => ?_, fun n k n' k' a z => ?_, fun a o z => by cases z⟩, ⟨.ref a, [], rfl, ⟨a, rfl, ?_⟩, rfl⟩, ?_⟩
    · have z : cell [] n k = some y := z
      simp [cell, getM] at z
    · simp [getM] at z
    · simp [live, cell, getM] at z
    · rcases hS with h | h
      · rcases h with h | ⟨o, h⟩
        · rcases hO a with z | ⟨o, xs, z⟩
          · rw [z] at h; cases h
          · rw [z] at h; cases h
        · exact .inl ⟨o, id, h⟩
      · exact .inr h
    · rw [em]
      exact fun α' W' H' e hr v rv => by
        rw [RD_ge] at rv
        have rv : Rp (mkT S P w K) W' H' (.bl true) v := rv
        simp only [Rp] at rv
        exact rv
  · subst hf
    have h3 := fB
    unfold fnB at h3
    simp only [Bool.and_eq_true, decide_eq_true_eq] at h3
    obtain ⟨⟨h5, h6⟩, h7⟩ := h3
    have Sc := fscB_ok h5
    rw [hps] at Sc
    exact fnG_mono (fn_step B (BX base) hq F Sc (by rw [hn]; rfl) h7 fun f q hf => fn_all B (BX base) d f q hf) hk
end
/-! ### the look at the heap behind the top -/
def asY (g : Addr → Option PySem.Obj) (n : Nat) : List Addr := cStatics :: He.asD g n
def obsY (n : Nat) (fa : List He.Fa) (fn : List He.DefD) (ex : PySem.W.Frag → Bool) (g : Addr → Option PySem.Obj) : He.AlD × Bool := (He.obsD fa fn (He.frG g (asY g n)), ex (He.frG g (asY g n)))
def hookY (n : Nat) (fa : List He.Fa) (fn : List He.DefD) (ex : PySem.W.Frag → Bool) : PySem.W.Hook where
  α := He.AlD × Bool
  obs := fun s => obsY n fa fn ex s.heap.get?
  val := fun _ => (He.valD fn, true)
  says := fun _ h => ∃ K : PySem.W.Frag, K.In h ∧ He.SaysD fa fn K ∧ ex K = true
  of := fun _ _ e => ⟨_, He.frG_in, congrArg (fun z : He.AlD × Bool => z.1) e, congrArg (fun z : He.AlD × Bool => z.2) e⟩
  keeps := fun _ _ _ ⟨K, hK, c⟩ k => ⟨K, PySem.W.Frag.In.keeps hK k, c⟩
theorem obsY_eq {n : Nat} {fa : List He.Fa} {fn : List He.DefD} {ex : PySem.W.Frag → Bool} {g : Addr → Option PySem.Obj} {s : Shared} (h : ∀ a, g a = s.heap.get? a) : obsY n fa fn ex g = (hookY n fa fn ex).obs s := by
  have e : g = s.heap.get? := funext h
  rw [e] <;> rfl
end Lot
/-! LotX: the evaluator, step by step. -/
namespace Lot
open PySem
theorem small_of {i : Int} (h0 : 0 ≤ i) (h1 : i < 18446744073709551616) : small64 i = true := by
  unfold small64
  rw [Bool.and_eq_true, decide_eq_true_eq, decide_eq_true_eq]
  omega
theorem sm_r {p q : Int} (h : small64 q = true) : (small64 p || small64 q) = true := by rw [h, Bool.or_true]
theorem sm_l {p q : Int} (h : small64 p = true) : (small64 p || small64 q) = true := by rw [h, Bool.true_or]
theorem pow_ok {p : Int} {q : Int} (hq : 0 ≤ q ∧ q ≤ 1000000) (h0 : 0 ≤ p) (h1 : p < 18446744073709551616) : 0 ≤ q ∧ q ≤ 1000000 ∧ p.natAbs < 2 ^ 64 := ⟨hq.1, hq.2, by omega⟩
theorem mul_le2 {a b c d : Int} (h1 : a ≤ c) (h2 : b ≤ d) (h3 : 0 ≤ b) (h4 : 0 ≤ c) : a * b ≤ c * d := Int.mul_le_mul h1 h2 h3 h4
theorem mod_b {a p : Int} (h : 0 < p) : 0 ≤ a % p ∧ a % p < p := ⟨Int.emod_nonneg _ (by omega), Int.emod_lt_of_pos _ h⟩
theorem ixD_l {x y : D} {m : Mem} {l : List P} {k : Int} {r : P} (hx : rg x m = some (.lst l)) (hy : rd y m = some (.int k)) (h : atI l k = some r) : ixD x y m = some r := by
  unfold ixD
  rw [hx, hy]
  exact h
theorem atI_of {α : Type} {l : List α} {i : Int} (h0 : 0 ≤ i) (h1 : i < l.length) : ∃ x, atI l i = some x ∧ x ∈ l ∧ l[i.toNat]? = some x := by
  unfold atI ixN
  rw [if_pos h0, if_pos h1]
  have : i.toNat < l.length := by omega
  exact ⟨l[i.toNat], by simp [this], List.getElem_mem this, by simp [this]⟩
section
variable {cf : Nat → List D → Mem → Out D} {mt : Nat → Nat → Option Nat} {ρ ρ1 : Env} {m m1 m2 : Mem} {a b c o i e : CE} {d x y : D}
theorem e_var {k : Nat} (h : (ρ[k]?).bind id = some d) : evE cf mt (.var k) ρ m = .ok d m := by
  show Out.of ((ρ[k]?).bind id) m = _
  rw [h]; rfl
theorem e_lit (p : P) : evE cf mt (.lit p) ρ m = .ok (.p p) m := rfl
theorem e_bin {op : BOp} {p q r : P} (ha : evE cf mt a ρ m = .ok x m1) (hb : evE cf mt b ρ m1 = .ok y m2) (hx : rd x m2 = some p) (hy : rd y m2 = some q) (h : binP op p q = some r) : evE cf mt (.bin op a b) ρ m = .ok (.p r) m2 := by
  show ((evE cf mt a ρ m).bind fun x m1 => (evE cf mt b ρ m1).bind fun y m2 => match rd x m2, rd y m2 with
    | some u, some v => (Out.of (binP op u v) m2).bind fun r m3 => Out.ok (D.p r) m3
    | _, _ => .bad) = _
  rw [ha, Out.bind_ok, hb, Out.bind_ok, hx, hy]
  dsimp only
  rw [h]; rfl
theorem e_add {p q : Int} (ha : evE cf mt a ρ m = .ok (.p (.int p)) m1) (hb : evE cf mt b ρ m1 = .ok (.p (.int q)) m2) : evE cf mt (.bin .add a b) ρ m = .ok (.p (.int (p + q))) m2 := e_bin ha hb rfl rfl rfl
theorem e_sub {p q : Int} (ha : evE cf mt a ρ m = .ok (.p (.int p)) m1) (hb : evE cf mt b ρ m1 = .ok (.p (.int q)) m2) : evE cf mt (.bin .sub a b) ρ m = .ok (.p (.int (p - q))) m2 := e_bin ha hb rfl rfl rfl
theorem e_mul {p q : Int} (ha : evE cf mt a ρ m = .ok (.p (.int p)) m1) (hb : evE cf mt b ρ m1 = .ok (.p (.int q)) m2) (h : (small64 p || small64 q) = true) : evE cf mt (.bin .mul a b) ρ m = .ok (.p (.int (p * q))) m2 := e_bin ha hb rfl rfl (if_pos h)
theorem e_mod {p q : Int} (ha : evE cf mt a ρ m = .ok (.p (.int p)) m1) (hb : evE cf mt b ρ m1 = .ok (.p (.int q)) m2) (h : 0 < q) : evE cf mt (.bin .mod a b) ρ m = .ok (.p (.int (p % q))) m2 := e_bin ha hb rfl rfl (if_pos h)
theorem e_fdiv {p q : Int} (ha : evE cf mt a ρ m = .ok (.p (.int p)) m1) (hb : evE cf mt b ρ m1 = .ok (.p (.int q)) m2) (h : 0 < q ∧ q < 1073741824) : evE cf mt (.bin .fdiv a b) ρ m = .ok (.p (.int (p / q))) m2 := e_bin ha hb rfl rfl (if_pos h)
theorem e_pow {p q : Int} (ha : evE cf mt a ρ m = .ok (.p (.int p)) m1) (hb : evE cf mt b ρ m1 = .ok (.p (.int q)) m2) (h : 0 ≤ q ∧ q ≤ 1000000 ∧ p.natAbs < 2 ^ 64) : evE cf mt (.bin .pow a b) ρ m = .ok (.p (.int (p ^ q.toNat))) m2 := e_bin ha hb rfl rfl (if_pos h)
theorem e_cmp {op : COp} {r : Bool} (ha : evE cf mt a ρ m = .ok x m1) (hb : evE cf mt b ρ m1 = .ok y m2) (h : cmpD op x y m2 = some r) : evE cf mt (.cmp op a b) ρ m = .ok (.p (.bl r)) m2 := by
  show ((evE cf mt a ρ m).bind fun x m1 => (evE cf mt b ρ m1).bind fun y m2 => (Out.of (cmpD op x y m2) m2).bind fun r m3 => Out.ok (D.p (P.bl r)) m3) = _
  rw [ha, Out.bind_ok, hb, Out.bind_ok, h]; rfl
theorem e_ix {r : P} (ha : evE cf mt o ρ m = .ok x m1) (hb : evE cf mt i ρ m1 = .ok y m2) (h : ixD x y m2 = some r) : evE cf mt (.ix o i) ρ m = .ok (.p r) m2 := by
  show ((evE cf mt o ρ m).bind fun x m1 => (evE cf mt i ρ m1).bind fun y m2 => (Out.of (ixD x y m2) m2).bind fun r m3 => Out.ok (D.p r) m3) = _
  rw [ha, Out.bind_ok, hb, Out.bind_ok, h]; rfl
theorem e_len {q : P} {n : Int} (ha : evE cf mt a ρ m = .ok x m1) (hx : rg x m1 = some q) (hl : lenP q = some n) : evE cf mt (.prim .len (.cons a .nil)) ρ m = .ok (.p (.int n)) m1 := by
  show ((((evE cf mt a ρ m).bind fun d m1 => (Out.ok [] m1).bind fun ds m2 => Out.ok (d :: ds) m2)).bind fun ds m1 => lenO ds m1) = _
  rw [ha]
  show lenO [x] m1 = _
  unfold lenO
  dsimp only
  rw [hx]
  dsimp only
  rw [hl]; rfl
theorem v_set {k : Nat} (h : evE cf mt e ρ m = .ok d m1) : evS cf mt (.set k e) ρ m = .ok (.nx (ρ.set k (some d))) m1 := by
  show ((evE cf mt e ρ m).bind fun d m1 => Out.ok (Fl.nx (ρ.set k (some d))) m1) = _
  rw [h]; rfl
theorem v_ret (h : evE cf mt e ρ m = .ok d m1) : evS cf mt (.ret e) ρ m = .ok (.rt d) m1 := by
  show ((evE cf mt e ρ m).bind fun d m1 => Out.ok (Fl.rt d) m1) = _
  rw [h]; rfl
theorem v_ift {t : Bool} {p q : CSs} (h : evE cf mt c ρ m = .ok d m1) (ht : truth d m1 = some t) : evS cf mt (.ift c p q) ρ m = if t then evSs cf mt p ρ m1 else evSs cf mt q ρ m1 := by
  show (((evE cf mt c ρ m).bind truthO).bind fun t m1 => if t then evSs cf mt p ρ m1 else evSs cf mt q ρ m1) = _
  rw [h, Out.bind_ok]
  unfold truthO
  rw [ht]; rfl
theorem ss_nx {s : CS} {ss : CSs} (h : evS cf mt s ρ m = .ok (.nx ρ1) m1) : evSs cf mt (.cons s ss) ρ m = evSs cf mt ss ρ1 m1 := by
  show ((evS cf mt s ρ m).bind fun fl m1 => match fl with
    | .nx ρ1 => evSs cf mt ss ρ1 m1
    | fl => Out.ok fl m1) = _
  rw [h]; rfl
theorem ss_rt {s : CS} {ss : CSs} (h : evS cf mt s ρ m = .ok (.rt d) m1) : evSs cf mt (.cons s ss) ρ m = .ok (.rt d) m1 := by
  show ((evS cf mt s ρ m).bind fun fl m1 => match fl with
    | .nx ρ1 => evSs cf mt ss ρ1 m1
    | fl => Out.ok fl m1) = _
  rw [h]; rfl
theorem ss_nil : evSs cf mt .nil ρ m = .ok (.nx ρ) m := rfl
theorem e_call1 {f : Nat} {o : Out D} (ha : evE cf mt a ρ m = .ok x m1) (h : cf f [x] m1 = o) : evE cf mt (.call f (.cons a .nil)) ρ m = o := by
  show ((evE cf mt a ρ m).bind fun d m1 => (Out.ok [] m1).bind fun ds m2 => Out.ok (d :: ds) m2).bind (fun ds m1 => cf f ds m1) = _
  rw [ha]; exact h
theorem e_call2 {f : Nat} {o : Out D} (ha : evE cf mt a ρ m = .ok x m1) (hb : evE cf mt b ρ m1 = .ok y m2) (h : cf f [x, y] m2 = o) : evE cf mt (.call f (.cons a (.cons b .nil))) ρ m = o := by
  show ((evE cf mt a ρ m).bind fun d m1 => ((evE cf mt b ρ m1).bind fun d m1 => (Out.ok [] m1).bind fun ds m2 => Out.ok (d :: ds) m2).bind fun ds m2 => Out.ok (d :: ds) m2).bind (fun ds m1 => cf f ds m1) = _
  rw [ha, Out.bind_ok, hb]; exact h
theorem v_setix {d k v : D} {m3 m4 : Mem} (he : evE cf mt e ρ m = .ok v m1) (ho : evE cf mt o ρ m1 = .ok d m2) (hi : evE cf mt i ρ m2 = .ok k m3) (h : setixO d k v m3 = .ok () m4) : evS cf mt (.setix o i e) ρ m = .ok (.nx ρ) m4 := by
  show ((evE cf mt e ρ m).bind fun v m1 => (evE cf mt o ρ m1).bind fun d m2 => (evE cf mt i ρ m2).bind fun k m3 => (setixO d k v m3).bind fun _ m4 => Out.ok (Fl.nx ρ) m4) = _
  rw [he, Out.bind_ok, ho, Out.bind_ok, hi, Out.bind_ok, h]; rfl
end
/-- a call whose body ends with data -/
theorem call_p {g : Pg} {d f : Nat} {q : Fn} {ds : List D} {m m1 : Mem} {x : P} (hf : g.fns[f]? = some q) (hl : ds.length = q.np) (h : evSs (g.call d) g.mt q.body (ds.map some ++ List.replicate (q.names.length - q.np) none) m = .ok (.rt (.p x)) m1) : g.call (d + 1) f ds m = .ok (.p x) (m1.take m.length) := by
  show (match g.fns[f]? with
    | some q => if ds.length = q.np then settle m.length (evSs (g.call d) g.mt q.body (ds.map some ++ List.replicate (q.names.length - q.np) none) m) else .bad
    | none => .bad) = _
  rw [hf]
  dsimp only
  rw [if_pos hl, h]
  rfl
theorem v_par2 {cf : Nat → List D → Mem → Out D} {mt : Nat → Nat → Option Nat} {ρ : Env} {m m1 m2 : Mem} {a b : CE} {x y : D} {i j : Nat} (ha : evE cf mt a ρ m = .ok x m1) (hb : evE cf mt b ρ m1 = .ok y m2) : evS cf mt (.par [i, j] (.cons a (.cons b .nil))) ρ m = .ok (.nx ((ρ.set i (some x)).set j (some y))) m2 := by
  show (((evE cf mt a ρ m).bind fun d m1 => ((evE cf mt b ρ m1).bind fun d m1 => (Out.ok [] m1).bind fun ds m2 => Out.ok (d :: ds) m2).bind fun ds m2 => Out.ok (d :: ds) m2).bind fun ds m1 => if [i, j].length = ds.length ∧ ds.length ≤ 1000 then Out.ok (Fl.nx (setAllD ρ [i, j] ds)) m1 else .bad) = _
  rw [ha, Out.bind_ok, hb]
  rfl
def dropS : Nat → CSs → CSs
  | 0, s => s
  | n + 1, .cons _ s => dropS n s
  | _, .nil => .nil
def getS : Nat → CSs → CS
  | 0, .cons s _ => s
  | n + 1, .cons _ s => getS n s
  | _, .nil => .pass
/-! ### a list in the memory -/
theorem cell_set {m : Mem} {n : Nat} {x : P} (h : n < m.length) : cell (m.set n (.val x)) n 0 = some x := by
  unfold cell getM
  rw [List.getElem?_set_self h]
  rfl
theorem setCell_set {m : Mem} {n : Nat} {x y : P} (h : n < m.length) : setCell (m.set n (.val x)) n 0 y = m.set n (.val y) := by
  unfold setCell getM
  rw [List.getElem?_set_self h]
  show (m.set n (.val x)).set n (.val y) = _
  rw [List.set_set]
theorem setix_l {m : Mem} {n : Nat} {l : List P} {i : Int} {q : Nat} {v : P} (h : n < m.length) (hi : ixN l.length i = some q) : setixO (.ref n 0) (.p (.int i)) (.p v) (m.set n (.val (.lst l))) = .ok () (m.set n (.val (.lst (l.set q v)))) := by
  unfold setixO
  dsimp only
  rw [cell_set h]
  dsimp only
  rw [hi]
  dsimp only
  rw [setCell_set h]
theorem ixD_m {m : Mem} {n : Nat} {l : List P} {y : D} {k : Int} {r : P} (h : n < m.length) (hy : rd y (m.set n (.val (.lst l))) = some (.int k)) (hr : atI l k = some r) : ixD (.ref n 0) y (m.set n (.val (.lst l))) = some r := ixD_l (cell_set h) hy hr
end Lot
/-! LotXa: the evaluator, step by step: more. -/
namespace Lot
open PySem
section
variable {cf : Nat → List D → Mem → Out D} {mt : Nat → Nat → Option Nat} {ρ ρ1 : Env} {m m1 m2 m3 : Mem} {a b c o i e lo hi elt : CE} {es ifs : CEs} {d x y : D} {ds : List D} {xs : List P} {it : CI} {tg : Tg}
theorem es_nil : evEs cf mt .nil ρ m = .ok [] m := rfl
theorem es_cons (h : evE cf mt e ρ m = .ok d m1) (h2 : evEs cf mt es ρ m1 = .ok ds m2) : evEs cf mt (.cons e es) ρ m = .ok (d :: ds) m2 := by
  show ((evE cf mt e ρ m).bind fun d m1 => (evEs cf mt es ρ m1).bind fun ds m2 => Out.ok (d :: ds) m2) = _
  rw [h, Out.bind_ok, h2]; rfl
theorem es_one (h : evE cf mt e ρ m = .ok d m1) : evEs cf mt (.cons e .nil) ρ m = .ok [d] m1 := es_cons h es_nil
theorem es_two (h : evE cf mt a ρ m = .ok x m1) (h2 : evE cf mt b ρ m1 = .ok y m2) : evEs cf mt (.cons a (.cons b .nil)) ρ m = .ok [x, y] m2 := es_cons h (es_one h2)
theorem e_call {f : Nat} {r : Out D} (h : evEs cf mt es ρ m = .ok ds m1) (h2 : cf f ds m1 = r) : evE cf mt (.call f es) ρ m = r := by
  show ((evEs cf mt es ρ m).bind fun ds m1 => cf f ds m1) = _
  rw [h]; exact h2
theorem ps_nil : evPs cf mt .nil ρ m = .ok [] m := rfl
theorem ps_cons {p : P} (h : evE cf mt e ρ m = .ok (.p p) m1) (h2 : evPs cf mt es ρ m1 = .ok xs m2) : evPs cf mt (.cons e es) ρ m = .ok (p :: xs) m2 := by
  show ((evE cf mt e ρ m).bind fun d m1 => (asP d m1).bind fun x m1 => (evPs cf mt es ρ m1).bind fun ds m2 => Out.ok (x :: ds) m2) = _
  rw [h, Out.bind_ok]
  show ((evPs cf mt es ρ m1).bind fun ds m2 => Out.ok (p :: ds) m2) = _
  rw [h2]; rfl
theorem e_tup (h : evPs cf mt es ρ m = .ok xs m1) (hl : xs.length ≤ line) : evE cf mt (.tup es) ρ m = .ok (.p (.tup xs)) m1 := by
  show ((evPs cf mt es ρ m).bind fun xs m1 => if xs.length ≤ line then Out.ok (D.p (.tup xs)) m1 else .bad) = _
  rw [h, Out.bind_ok, if_pos hl]
theorem e_lst (h : evPs cf mt es ρ m = .ok xs m1) (hl : xs.length ≤ line) : evE cf mt (.lst es) ρ m = .ok (.p (.lst xs)) m1 := by
  show ((evPs cf mt es ρ m).bind fun xs m1 => if xs.length ≤ line then Out.ok (D.p (.lst xs)) m1 else .bad) = _
  rw [h, Out.bind_ok, if_pos hl]
theorem e_prim {p : Pr} {r : D} (h : evEs cf mt es ρ m = .ok ds m1) (h2 : primD p ds m1 = .ok r m2) : evE cf mt (.prim p es) ρ m = .ok r m2 := by
  show ((evEs cf mt es ρ m).bind fun ds m1 => primD p ds m1) = _
  rw [h]; exact h2
theorem e_bm {w : Bm} {r : D} (ho : evE cf mt o ρ m = .ok d m1) (ht : bmT w d m1 = true) (hs : evEs cf mt es ρ m1 = .ok ds m2) (h : bmD w d ds m2 = .ok r m3) : evE cf mt (.bmeth w o es) ρ m = .ok r m3 := by
  show ((evE cf mt o ρ m).bind fun d m1 => if bmT w d m1 then (evEs cf mt es ρ m1).bind fun ds m2 => bmD w d ds m2 else .bad) = _
  rw [ho, Out.bind_ok, if_pos ht, hs]; exact h
theorem v_expr (h : evE cf mt e ρ m = .ok d m1) : evS cf mt (.expr e) ρ m = .ok (.nx ρ) m1 := by
  show ((evE cf mt e ρ m).bind fun _ m1 => Out.ok (Fl.nx ρ) m1) = _
  rw [h]; rfl
theorem v_setc {k : Nat} (h : evE cf mt e ρ m = .ok d m1) : evS cf mt (.setc k e) ρ m = .ok (.nx (ρ.set k (some d))) m1 := v_set h
theorem e_slice {r : P} {l h : Option Int} (ho : evE cf mt o ρ m = .ok x m1) (hl : bnd lo (evE cf mt lo ρ m1) = .ok l m2) (hh : bnd hi (evE cf mt hi ρ m2) = .ok h m3) (hr : sliceD x l h m3 = some r) : evE cf mt (.slice o lo hi) ρ m = .ok (.p r) m3 := by
  show ((evE cf mt o ρ m).bind fun x m1 => (bnd lo (evE cf mt lo ρ m1)).bind fun l m2 => (bnd hi (evE cf mt hi ρ m2)).bind fun h m3 => (Out.of (sliceD x l h m3) m3).bind fun r m4 => Out.ok (D.p r) m4) = _
  rw [ho, Out.bind_ok, hl, Out.bind_ok, hh, Out.bind_ok, hr]; rfl
theorem bnd_var {k : Nat} {j : Int} (h : evE cf mt (.var k) ρ m = .ok (.p (.int j)) m1) : bnd (.var k) (evE cf mt (.var k) ρ m) = .ok (some j) m1 := by rw [h]; rfl
theorem e_ife {t : Bool} (hc : evE cf mt c ρ m = .ok d m1) (ht : truth d m1 = some t) : evE cf mt (.ife c a b) ρ m = if t then evE cf mt a ρ m1 else evE cf mt b ρ m1 := by
  show (((evE cf mt c ρ m).bind truthO).bind fun t m1 => if t then evE cf mt a ρ m1 else evE cf mt b ρ m1) = _
  rw [hc, Out.bind_ok]
  unfold truthO
  rw [ht]; rfl
theorem e_and {t : Bool} (ha : evE cf mt a ρ m = .ok d m1) (ht : truth d m1 = some t) : evE cf mt (.and (.cons a (.cons b es))) ρ m = if t then evE cf mt (.and (.cons b es)) ρ m1 else .ok d m1 := by
  show ((evE cf mt a ρ m).bind fun d m1 => (truthO d m1).bind fun b' m2 => if b' then evAnd cf mt (.cons b es) ρ m2 else Out.ok d m2) = _
  rw [ha, Out.bind_ok]
  unfold truthO
  rw [ht]; rfl
theorem e_or {t : Bool} (ha : evE cf mt a ρ m = .ok d m1) (ht : truth d m1 = some t) : evE cf mt (.or (.cons a (.cons b es))) ρ m = if t then .ok d m1 else evE cf mt (.or (.cons b es)) ρ m1 := by
  show ((evE cf mt a ρ m).bind fun d m1 => (truthO d m1).bind fun b' m2 => if b' then Out.ok d m2 else evOr cf mt (.cons b es) ρ m2) = _
  rw [ha, Out.bind_ok]
  unfold truthO
  rw [ht]; rfl
theorem e_and1 : evE cf mt (.and (.cons a .nil)) ρ m = evE cf mt a ρ m := rfl
theorem e_or1 : evE cf mt (.or (.cons a .nil)) ρ m = evE cf mt a ρ m := rfl
theorem e_not' {t : Bool} (ha : evE cf mt a ρ m = .ok d m1) (ht : truth d m1 = some t) : evE cf mt (.not a) ρ m = .ok (.p (.bl (!t))) m1 := by
  show (((evE cf mt a ρ m).bind truthO).bind fun b m1 => Out.ok (D.p (P.bl (!b))) m1) = _
  rw [ha, Out.bind_ok]
  unfold truthO
  rw [ht]; rfl
theorem e_alloc {l : List P} (h : evE cf mt e ρ m = .ok (.p (.lst l)) m1) : evE cf mt (.alloc e) ρ m = .ok (.ref m1.length 0) (m1 ++ [.val (.lst l)]) := by
  show ((evE cf mt e ρ m).bind fun d m1 => match d with
    | .p (.lst l) => Out.ok (D.ref m1.length 0) (m1 ++ [Obj.val (.lst l)])
    | _ => .bad) = _
  rw [h]; rfl
theorem e_frz {l : List P} {n : Nat} (h : evE cf mt e ρ m = .ok (.ref n 0) m1) (hg : getM m1 n = .val (.lst l)) : evE cf mt (.frz e) ρ m = .ok (.p (.lst l)) (m1.set n .dead) := by
  show frzO (fun ρ m => evE cf mt e ρ m) ρ m = _
  unfold frzO
  dsimp only
  rw [h, Out.bind_ok]
  simp only [hg]
theorem e_frzD {l : List P} {n : Nat} {t : Bool} (h : evE cf mt e ρ m = .ok (.ref n 0) m1) (hg : getM m1 n = .val (.dic t l)) : evE cf mt (.frz e) ρ m = .ok (.p (.dic t l)) (m1.set n .dead) := by
  show frzO (fun ρ m => evE cf mt e ρ m) ρ m = _
  unfold frzO
  dsimp only
  rw [h, Out.bind_ok]
  simp only [hg]
theorem v_unp {is : List Nat} (h : evE cf mt e ρ m = .ok d m1) (hr : rg d m1 = some (.tup xs)) (hl : is.length = xs.length) : evS cf mt (.unp is e) ρ m = .ok (.nx (setAll ρ is xs)) m1 := by
  show ((evE cf mt e ρ m).bind fun d m1 => match rg d m1 with
    | some (.tup xs) => if is.length = xs.length then Out.ok (Fl.nx (setAll ρ is xs)) m1 else .bad
    | _ => .bad) = _
  rw [h, Out.bind_ok, hr]
  exact if_pos hl
theorem v_par {is : List Nat} (h : evEs cf mt es ρ m = .ok ds m1) (hl : is.length = ds.length ∧ ds.length ≤ 1000) : evS cf mt (.par is es) ρ m = .ok (.nx (setAllD ρ is ds)) m1 := by
  show ((evEs cf mt es ρ m).bind fun ds m1 => if is.length = ds.length ∧ ds.length ≤ 1000 then Out.ok (Fl.nx (setAllD ρ is ds)) m1 else .bad) = _
  rw [h, Out.bind_ok, if_pos hl]
theorem v_aug {k : Nat} {op : BOp} {p q r : Int} {pr : P} (hx : (ρ[k]?).bind id = some (.p (.int p))) (h : evE cf mt e ρ m = .ok (.p (.int q)) m1) (hr : binP op (.int p) (.int q) = some pr) : evS cf mt (.aug k op e) ρ m = .ok (.nx (ρ.set k (some (.p pr)))) m1 := by
  show augO k op (fun ρ m => evE cf mt e ρ m) ρ m = _
  unfold augO
  rw [hx]
  dsimp only
  rw [h, Out.bind_ok]
  dsimp only
  rw [hr]; rfl
theorem if_nil : evIfs cf mt .nil ρ m = .ok true m := rfl
theorem if_one {t : Bool} (h : evE cf mt c ρ m = .ok d m1) (ht : truth d m1 = some t) : evIfs cf mt (.cons c .nil) ρ m = .ok t m1 := by
  show (((evE cf mt c ρ m).bind truthO).bind fun b m1 => if b then Out.ok true m1 else Out.ok false m1) = _
  rw [h, Out.bind_ok]
  unfold truthO
  rw [ht]
  cases t <;> rfl
theorem i_seq (h : evE cf mt e ρ m = .ok d m1) {q : P} {l : List P} (hr : rg d m1 = some q) (hl : itemsP q = some l) : evI cf mt (.seq e) ρ m = .ok (l, stays (d, q)) m1 := by
  show ((evE cf mt e ρ m).bind fun d m1 => seqO' d m1) = _
  rw [h, Out.bind_ok]
  unfold seqO'
  rw [hr]
  dsimp only
  rw [hl]; rfl
theorem i_rng1 {j : Int} (h : evE cf mt e ρ m = .ok (.p (.int j)) m1) (hj : -(2 ^ 62) ≤ j ∧ j < 2 ^ 62) : evI cf mt (.rng1 e) ρ m = .ok (rngL 0 j.toNat, fun _ => true) m1 := by
  show ((evE cf mt e ρ m).bind fun y m2 => rng1O y m2) = _
  rw [h, Out.bind_ok]
  unfold rng1O
  exact if_pos hj
theorem i_enum (h : evE cf mt e ρ m = .ok d m1) {l : List P} {q : P} (hq : q = .lst l ∨ q = .tup l) (hr : rg d m1 = some q) : evI cf mt (.enum e) ρ m = .ok (enumL 0 l, stays (d, q)) m1 := by
  show ((evE cf mt e ρ m).bind fun d m1 => enumO d m1) = _
  rw [h, Out.bind_ok]
  unfold enumO
  rw [hr]
  rcases hq with rfl | rfl <;> rfl
end
/-! ### loops -/
theorem comp_pure {g : Mem → Bool} {step : P → Mem → Out (List P)} {m : Mem} (hg : g m = true) (F : P → List P) : ∀ (L acc : List P), (∀ x ∈ L, step x m = .ok (F x) m) → compL g step L acc m = .ok (acc ++ L.flatMap F) m
  | [], acc, _ => by
    unfold compL
    rw [if_pos hg]
    simp
  | x :: L, acc, h => by
    unfold compL
    rw [if_pos hg, h x (List.mem_cons_self ..), Out.bind_ok, comp_pure hg F L _ fun y hy => h y (List.mem_cons_of_mem _ hy)]
    simp
theorem comp_inv {g : Mem → Bool} {step : P → Mem → Out (List P)} (I : Nat → List P → Mem → Prop) : ∀ (L acc : List P) (m : Mem) (n : Nat), (∀ i x acc m, L[i]? = some x → I (n + i) acc m → g m = true ∧ ∃ o m', step x m = .ok o m' ∧ I (n + i + 1) (acc ++ o) m') → (∀ acc m, I (n + L.length) acc m → g m = true) → I n acc m →
    ∃ l m', compL g step L acc m = .ok l m' ∧ I (n + L.length) l m'
  | [], acc, m, n, _, hg, h => by
    unfold compL
    rw [if_pos (hg acc m h)]
    exact ⟨acc, m, rfl, h⟩
  | x :: L, acc, m, n, hs, hg, h => by
    obtain ⟨h1, o, m', h2, h3⟩ := hs 0 x acc m rfl h
    obtain ⟨l, m2, h4, h5⟩ := comp_inv I L (acc ++ o) m' (n + 1) (fun i y acc m hy hi => by
      have := hs (i + 1) y acc m (by simpa using hy) (by rw [show n + (i + 1) = n + 1 + i by omega]; exact hi)
      rw [show n + (i + 1) + 1 = n + 1 + i + 1 by omega] at this
      exact this) (fun acc m q => hg acc m (by rw [List.length_cons, show n + (L.length + 1) = n + 1 + L.length by omega]; exact q)) h3
    refine ⟨l, m2, ?_, by rw [List.length_cons, show n + (L.length + 1) = n + 1 + L.length by omega]; exact h5⟩
    show (if g m = true then (step x m).bind fun o m1 => compL g step L (acc ++ o) m1 else .bad) = _
    rw [if_pos h1, h2]; exact h4
theorem for_inv {g : Mem → Bool} {step : P → Env → Mem → Out Fl} (I : Nat → Env → Mem → Prop) : ∀ (L : List P) (ρ : Env) (m : Mem) (n : Nat), (∀ i x ρ m, L[i]? = some x → I (n + i) ρ m → g m = true ∧ ∃ ρ' m', step x ρ m = .ok (.nx ρ') m' ∧ I (n + i + 1) ρ' m') → (∀ ρ m, I (n + L.length) ρ m → g m = true) → I n ρ m →
    ∃ ρ' m', forL g step L ρ m = .ok (.nx ρ') m' ∧ I (n + L.length) ρ' m'
  | [], ρ, m, n, _, hg, h => by
    unfold forL
    rw [if_pos (hg ρ m h)]
    exact ⟨ρ, m, rfl, h⟩
  | x :: L, ρ, m, n, hs, hg, h => by
    obtain ⟨h1, ρ', m', h2, h3⟩ := hs 0 x ρ m rfl h
    obtain ⟨ρ2, m2, h4, h5⟩ := for_inv I L ρ' m' (n + 1) (fun i y ρ m hy hi => by
      have := hs (i + 1) y ρ m (by simpa using hy) (by rw [show n + (i + 1) = n + 1 + i by omega]; exact hi)
      rw [show n + (i + 1) + 1 = n + 1 + i + 1 by omega] at this
      exact this) (fun ρ m q => hg ρ m (by rw [List.length_cons, show n + (L.length + 1) = n + 1 + L.length by omega]; exact q)) h3
    refine ⟨ρ2, m2, ?_, by rw [List.length_cons, show n + (L.length + 1) = n + 1 + L.length by omega]; exact h5⟩
    show (if g m = true then (step x ρ m).bind _ else .bad) = _
    rw [if_pos h1, h2]; exact h4
theorem while_inv {test : Env → Mem → Out Bool} {body : Env → Mem → Out Fl} (I : Nat → Env → Mem → Prop) : ∀ (k f : Nat) (ρ : Env) (m : Mem), k < f → (∀ k ρ m, I (k + 1) ρ m → test ρ m = .ok true m ∧ ∃ ρ' m', body ρ m = .ok (.nx ρ') m' ∧ I k ρ' m') → (∀ ρ m, I 0 ρ m → test ρ m = .ok false m) → I k ρ m →
    ∃ ρ' m', whileL test body f ρ m = .ok (.nx ρ') m' ∧ I 0 ρ' m'
  | 0, f + 1, ρ, m, _, _, h0, h => by
    refine ⟨ρ, m, ?_, h⟩
    show ((test ρ m).bind _) = _
    rw [h0 ρ m h]; rfl
  | k + 1, f + 1, ρ, m, hk, hs, h0, h => by
    obtain ⟨h1, ρ', m', h2, h3⟩ := hs k ρ m h
    obtain ⟨ρ2, m2, h4, h5⟩ := while_inv I k f ρ' m' (by omega) hs h0 h3
    refine ⟨ρ2, m2, ?_, h5⟩
    show ((test ρ m).bind _) = _
    rw [h1, Out.bind_ok, if_pos rfl, h2]; exact h4
section
variable {cf : Nat → List D → Mem → Out D} {mt : Nat → Nat → Option Nat} {ρ ρ1 : Env} {m m1 m2 m3 : Mem} {elt k v : CE} {ifs : CEs} {it : CI} {tg : Tg}
abbrev stp (cf : Nat → List D → Mem → Out D) (mt : Nat → Nat → Option Nat) (elt : CE) (tg : Tg) (ifs : CEs) (ρ : Env) : P → Mem → Out (List P) := stepO tg.vars (bindTg tg) (fun ρ m => evIfs cf mt ifs ρ m) (fun ρ m => evE cf mt elt ρ m) ρ
theorem st_yes {x y : P} (hb : bindTg tg x (wipe ρ tg.vars) = some ρ1) (hf : evIfs cf mt ifs ρ1 m = .ok true m2) (he : evE cf mt elt ρ1 m2 = .ok (.p y) m3) : stp cf mt elt tg ifs ρ x m = .ok [y] m3 := by
  unfold stp stepO
  rw [hb]
  dsimp only
  rw [hf, Out.bind_ok, if_pos rfl, he]; rfl
theorem st_no {x : P} (hb : bindTg tg x (wipe ρ tg.vars) = some ρ1) (hf : evIfs cf mt ifs ρ1 m = .ok false m2) : stp cf mt elt tg ifs ρ x m = .ok [] m2 := by
  unfold stp stepO
  rw [hb]
  dsimp only
  rw [hf, Out.bind_ok, if_neg Bool.false_ne_true]
theorem e_comp {L l : List P} {g : Mem → Bool} (hi : evI cf mt it ρ m = .ok (L, g) m1) (hc : compL g (stp cf mt elt tg ifs ρ) L [] m1 = .ok l m2) (hl : l.length ≤ line) : evE cf mt (.comp elt tg it ifs) ρ m = .ok (.p (.lst l)) m2 := by
  show lcO tg.vars (bindTg tg) (fun ρ m => evI cf mt it ρ m) (fun ρ m => evIfs cf mt ifs ρ m) (fun ρ m => evE cf mt elt ρ m) ρ m = _
  unfold lcO
  dsimp only
  rw [hi, Out.bind_ok]
  show ((compL g (stp cf mt elt tg ifs ρ) L [] m1).bind _) = _
  rw [hc, Out.bind_ok, if_pos hl]
/-- a comprehension whose parts leave the memory -/
theorem e_compP {L : List P} {g : Mem → Bool} (F : P → List P) (hi : evI cf mt it ρ m = .ok (L, g) m1) (hg : g m1 = true) (hs : ∀ x ∈ L, stp cf mt elt tg ifs ρ x m1 = .ok (F x) m1) (hl : (L.flatMap F).length ≤ line) : evE cf mt (.comp elt tg it ifs) ρ m = .ok (.p (.lst (L.flatMap F))) m1 := by
  refine e_comp hi ?_ hl
  rw [comp_pure hg F L [] hs]
  simp
abbrev stpD (cf : Nat → List D → Mem → Out D) (mt : Nat → Nat → Option Nat) (k v : CE) (tg : Tg) (ifs : CEs) (ρ : Env) : P → Mem → Out (List P) := stepD tg.vars (bindTg tg) (fun ρ m => evIfs cf mt ifs ρ m) (fun ρ m => evE cf mt k ρ m) (fun ρ m => evE cf mt v ρ m) ρ
theorem sd_yes {x y z : P} (hb : bindTg tg x (wipe ρ tg.vars) = some ρ1) (hf : evIfs cf mt ifs ρ1 m = .ok true m) (he : evE cf mt k ρ1 m = .ok (.p y) m2) (hv : evE cf mt v ρ1 m2 = .ok (.p z) m3) (hk : kOk false y = true) : stpD cf mt k v tg ifs ρ x m = .ok [.tup [y, z]] m3 := by
  unfold stpD stepD
  rw [hb]
  dsimp only
  rw [hf, Out.bind_ok, if_pos rfl, he, Out.bind_ok]
  show ((evE cf mt v ρ1 m2).bind _) = _
  rw [hv]
  exact if_pos hk
theorem e_dcompP {L : List P} {g : Mem → Bool} (F : P → List P) (hi : evI cf mt it ρ m = .ok (L, g) m1) (hg : g m1 = true) (hs : ∀ x ∈ L, stpD cf mt k v tg ifs ρ x m1 = .ok (F x) m1) (hl : (L.flatMap F).length ≤ line) :
    evE cf mt (.dcomp k v false tg it ifs) ρ m = .ok (.ref m1.length 0) (m1 ++ [.val (.dic false (foldD (L.flatMap F) []))]) := by
  show (if false = true then Out.bad else dcO tg.vars (bindTg tg) (fun ρ m => evI cf mt it ρ m) (fun ρ m => evIfs cf mt ifs ρ m) (fun ρ m => evE cf mt k ρ m) (fun ρ m => evE cf mt v ρ m) ρ m) = _
  rw [if_neg Bool.false_ne_true]
  unfold dcO
  dsimp only
  rw [hi, Out.bind_ok]
  show ((compL g (stpD cf mt k v tg ifs ρ) L [] m1).bind _) = _
  rw [comp_pure hg F L [] hs, Out.bind_ok, List.nil_append, if_pos hl]
theorem v_for {L : List P} {g : Mem → Bool} {body : CSs} {r : Out Fl} (hi : evI cf mt it ρ m = .ok (L, g) m1) (h : forL g (fun x ρ m => match bindTg tg x ρ with
    | some ρ1 => evSs cf mt body ρ1 m
    | none => .bad) L ρ m1 = r) : evS cf mt (.for tg it body) ρ m = r := by
  show forO (bindTg tg) (fun ρ m => evI cf mt it ρ m) (fun ρ m => evSs cf mt body ρ m) ρ m = r
  unfold forO
  dsimp only
  rw [hi]; exact h
theorem v_while {c : CE} {body : CSs} {r : Out Fl} (h : whileL (fun ρ m => (evE cf mt c ρ m).bind truthO) (fun ρ m => evSs cf mt body ρ m) fuel ρ m = r) : evS cf mt (.while c body) ρ m = r := h
end
/-! ### objects of a def's own, behind what stands -/
theorem getM_loc {B objs : Mem} {i : Nat} : getM (B ++ objs) (B.length + i) = (objs[i]?).getD .dead := by
  unfold getM
  rw [List.getElem?_append_right (by omega)]
  simp
theorem cell_loc {B objs : Mem} {i : Nat} {x : P} (h : objs[i]? = some (.val x)) : cell (B ++ objs) (B.length + i) 0 = some x := by
  unfold cell
  rw [getM_loc, h]
  rfl
theorem set_loc {B objs : Mem} {i : Nat} {o : Obj} : (B ++ objs).set (B.length + i) o = B ++ objs.set i o := by
  rw [List.set_append_right _ _ (by omega)]
  simp
theorem setCell_loc {B objs : Mem} {i : Nat} {x y : P} (h : objs[i]? = some (.val x)) : setCell (B ++ objs) (B.length + i) 0 y = B ++ objs.set i (.val y) := by
  unfold setCell
  rw [getM_loc, h]
  exact set_loc
theorem app_loc {B objs : Mem} {i : Nat} {l : List P} {y : P} (h : objs[i]? = some (.val (.lst l))) (hl : l.length < line) : bmD .append (.ref (B.length + i) 0) [.p y] (B ++ objs) = .ok (.p .non) (B ++ objs.set i (.val (.lst (l ++ [y])))) := by
  show appendO (.ref (B.length + i) 0) [.p y] (B ++ objs) = _
  unfold appendO
  dsimp only
  rw [cell_loc h]
  dsimp only
  rw [if_pos hl, setCell_loc h]
theorem bmT_loc {B objs : Mem} {i : Nat} {l : List P} {w : Bm} (h : objs[i]? = some (.val (.lst l))) (hw : bmTy w = 0) : bmT w (.ref (B.length + i) 0) (B ++ objs) = true := by
  unfold bmT
  rw [show rd (.ref (B.length + i) 0) (B ++ objs) = some (.lst l) from cell_loc h]
  simp [hw]
theorem setix_dic {B objs : Mem} {i : Nat} {l : List P} {k v : P} (h : objs[i]? = some (.val (.dic false l))) (hk : kOk false k = true) (hl : l.length < line) : setixO (.ref (B.length + i) 0) (.p k) (.p v) (B ++ objs) = .ok () (B ++ objs.set i (.val (.dic false (putK false l k v)))) := by
  unfold setixO
  dsimp only
  rw [cell_loc h]
  dsimp only
  rw [if_pos (by rw [hk, decide_eq_true hl]; rfl), setCell_loc h]
theorem take_loc {B objs : Mem} {n : Nat} (h : n = B.length) : (B ++ objs).take n = B := by
  subst h
  simp
theorem set_pen {B objs : Mem} {n : Nat} {o : Obj} (h : n < B.length) : (B ++ objs).set n o = B.set n o ++ objs := List.set_append_left _ _ h
theorem get_pen {B objs : Mem} {n : Nat} (h : n < B.length) : (B ++ objs)[n]? = B[n]? := List.getElem?_append_left h
end Lot
/-! TxA: texts as data; dicts by texts. -/
namespace Lot
open PySem
inductive Op4 where
  | add | less | times | min
  deriving DecidableEq
def Op4.s : Op4 → Str
  | .add => "add" | .less => "less" | .times => "times" | .min => "min"
def Op4.even : Op4 → Bool
  | .less => false
  | _ => true
/-- a row of a text -/
inductive Rw where
  | num (x : Str) (n : Int) | op (w : Op4) (x y z : Str) | read (x c : Str) | write (c y : Str) | out (y : Str)
  deriving DecidableEq
def Rw.p : Rw → P
  | .num x n => .tup [.str "num", .str x, .int n]
  | .op w x y z => .tup [.str w.s, .str x, .str y, .str z]
  | .read x c => .tup [.str "read", .str x, .str c]
  | .write c y => .tup [.str "write", .str c, .str y]
  | .out y => .tup [.str "out", .str y]
def Rw.mk : Rw → Option Str
  | .num x _ => some x
  | .op _ x _ _ => some x
  | .read x _ => some x
  | _ => none
def Rw.ends : Rw → List Str
  | .op _ _ y z => [y, z]
  | .write _ y => [y]
  | .out y => [y]
  | _ => []
def Rw.even : Rw → Bool
  | .op w _ _ _ => w.even
  | _ => false
def Rw.cell : Rw → Option Str
  | .read _ c => some c
  | .write c _ => some c
  | _ => none
def Rw.isW : Rw → Bool
  | .write _ _ => true
  | _ => false
def Rw.isOut : Rw → Bool
  | .out _ => true
  | _ => false
def optP : Option Str → P
  | some x => .str x
  | none => .non
def tupS (l : List Str) : P := .tup (l.map .str)
/-- the row's ends by other names -/
def Rw.ren (f : Str → Str) : Rw → Rw
  | .op w x y z => .op w x (f y) (f z)
  | .write c y => .write c (f y)
  | .out y => .out (f y)
  | r => r
def ltT (a b : Str) : Bool := decide (a.cps.toList < b.cps.toList)
/-- even rows' ends sorted -/
def Rw.srt : Rw → Rw
  | .op w x y z => if w.even && ltT z y then .op w x z y else .op w x y z
  | r => r
def Rw.idx : Rw → Int
  | .num _ _ => 0
  | .op .add _ _ _ => 1
  | .op .less _ _ _ => 2
  | .op .times _ _ _ => 3
  | .op .min _ _ _ => 4
  | .read _ _ => 5
  | .write _ _ => 6
  | .out _ => 7
def Rw.tl : Rw → List P
  | .num _ n => [.int n]
  | .op _ _ y z => [.str y, .str z]
  | .read _ c => [.str c]
  | .write c y => [.str c, .str y]
  | .out y => [.str y]
def Rw.key (r : Rw) : P := .tup [.int r.idx, .tup r.tl]
/-- the row by a new name of what it makes -/
def Rw.re (a : Str) : Rw → Rw
  | .num _ n => .num a n
  | .op w _ y z => .op w a y z
  | .read _ c => .read a c
  | r => r
def clB (r o : Rw) : Bool := match r.cell, o.cell with
  | some a, some b => a == b && (r.isW || o.isW)
  | _, _ => false
def Rw.clash (r o : Rw) : Bool := (r.isOut && o.isOut) || clB r o
def hasO (l : List Str) (o : Option Str) : Bool := match o with
  | some x => l.contains x
  | none => false
/-- whether r hangs on o -/
def Rw.dep (r o : Rw) : Bool := hasO r.ends o.mk || r.clash o
/-! ### dicts by texts -/
def dcl (l : List (Str × P)) : List P := l.map fun kv => .tup [.str kv.1, kv.2]
theorem kEq_str (a b : Str) : kEq false (.str a) (.str b) = decide (a = b) := by
  unfold kEq
  simp [ky]
theorem find_dcl (x : Str) : ∀ l : List (Str × P), findK false (dcl l) (.str x) = l.lookup x
  | [] => rfl
  | (k, v) :: l => by
    have ih := find_dcl x l
    unfold findK dcl at ih ⊢
    rw [List.map_cons, List.find?_cons]
    simp only [keyOf, kEq_str]
    rw [List.lookup_cons]
    by_cases h : k = x
    · subst h
      simp [valOf]
    · rw [decide_eq_false h]
      have : (x == k) = false := by simpa using fun e => h e.symm
      rw [this]
      exact ih
def putS (l : List (Str × P)) (x : Str) (v : P) : List (Str × P) := if (l.lookup x).isSome then l.map fun kv => if kv.1 = x then (kv.1, v) else kv else l ++ [(x, v)]
theorem put_dcl (l : List (Str × P)) (x : Str) (v : P) : putK false (dcl l) (.str x) v = dcl (putS l x v) := by
  unfold putK putS
  rw [find_dcl]
  split
  · unfold dcl
    rw [List.map_map, List.map_map]
    apply List.map_congr_left
    intro kv _
    simp only [Function.comp, keyOf, kEq_str]
    by_cases h : kv.1 = x
    · rw [decide_eq_true h, if_pos rfl, if_pos h]
    · rw [decide_eq_false h, if_neg Bool.false_ne_true, if_neg h]
  · unfold dcl
    simp
theorem dcl_len (l : List (Str × P)) : (dcl l).length = l.length := by unfold dcl; simp
theorem putS_new {l : List (Str × P)} {x : Str} {v : P} (h : l.lookup x = none) : putS l x v = l ++ [(x, v)] := by
  unfold putS
  rw [h]; rfl
theorem lookup_none {α : Type} {l : List (Str × α)} {x : Str} (h : x ∉ l.map (·.1)) : l.lookup x = none := by
  induction l with
  | nil => rfl
  | cons kv l ih =>
    rw [List.map_cons, List.mem_cons, not_or] at h
    rw [List.lookup_cons]
    have : (x == kv.1) = false := by simpa using h.1
    rw [this]
    exact ih h.2
theorem lookup_some {α : Type} {l : List (Str × α)} {x : Str} (h : x ∈ l.map (·.1)) : ∃ v, l.lookup x = some v := by
  induction l with
  | nil => cases h
  | cons kv l ih =>
    rw [List.lookup_cons]
    by_cases e : x = kv.1
    · exact ⟨kv.2, by simp [e]⟩
    · rw [List.map_cons, List.mem_cons] at h
      have : (x == kv.1) = false := by simpa using e
      rw [this]
      exact ih (h.resolve_left e)
theorem lookup_mem {α : Type} {l : List (Str × α)} {x : Str} {v : α} (h : l.lookup x = some v) : (x, v) ∈ l := by
  induction l with
  | nil => cases h
  | cons kv l ih =>
    rw [List.lookup_cons] at h
    by_cases e : x = kv.1
    · have : (x == kv.1) = true := by simpa using e
      rw [this] at h
      cases h
      rw [e]
      exact List.mem_cons_self ..
    · have : (x == kv.1) = false := by simpa using e
      rw [this] at h
      exact List.mem_cons_of_mem _ (ih h)
theorem lookup_app {α : Type} {l k : List (Str × α)} {x : Str} : (l ++ k).lookup x = match l.lookup x with | some v => some v | none => k.lookup x := by
  induction l with
  | nil => rfl
  | cons kv l ih =>
    rw [List.cons_append, List.lookup_cons, List.lookup_cons]
    cases x == kv.1
    · exact ih
    · rfl
/-- dict(pairs), keys texts, each new -/
theorem foldD_new : ∀ (l acc : List (Str × P)), ((acc ++ l).map (·.1)).Nodup → foldD (dcl l) (dcl acc) = dcl (acc ++ l)
  | [], acc, _ => by simp [foldD, dcl]
  | (k, v) :: l, acc, nd => by
    have hk : acc.lookup k = none := lookup_none fun h => by
      rw [List.map_append, List.nodup_append] at nd
      exact nd.2.2 k h k (by simp) rfl
    have e : foldD (dcl ((k, v) :: l)) (dcl acc) = foldD (dcl l) (putK false (dcl acc) (.str k) v) := rfl
    rw [e, put_dcl, putS_new hk, foldD_new l (acc ++ [(k, v)]) (by simpa using nd)]
    simp
theorem ixD_dic {n k : Nat} {m : Mem} {l : List (Str × P)} {x : Str} {v : P} (hc : cell m n k = some (.dic false (dcl l))) (h : l.lookup x = some v) : ixD (.ref n k) (.p (.str x)) m = some v := by
  unfold ixD
  rw [show rg (.ref n k) m = some (.dic false (dcl l)) from hc]
  show (if kOk false (.str x) = true then findK false (dcl l) (.str x) else none) = some v
  rw [if_pos (show kOk false (P.str x) = true from rfl), find_dcl, h]
theorem ixD_dicP {m : Mem} {l : List (Str × P)} {x : Str} {v : P} (h : l.lookup x = some v) : ixD (.p (.dic false (dcl l))) (.p (.str x)) m = some v := by
  show (if kOk false (.str x) = true then findK false (dcl l) (.str x) else none) = some v
  rw [if_pos (show kOk false (P.str x) = true from rfl), find_dcl, h]
theorem set_same {α : Type} {l : List α} {q : Nat} {x : α} (h : l[q]? = some x) : l.set q x = l := by
  obtain ⟨hlt, rfl⟩ := List.getElem?_eq_some_iff.mp h
  exact List.set_getElem_self hlt
theorem v_ift_t {cf : Nat → List D → Mem → Out D} {mt : Nat → Nat → Option Nat} {ρ : Env} {m m1 : Mem} {c : CE} {d : D} {p q : CSs} (h : evE cf mt c ρ m = .ok d m1) (ht : truth d m1 = some true) : evS cf mt (.ift c p q) ρ m = evSs cf mt p ρ m1 := (v_ift h ht).trans (if_pos rfl)
theorem v_ift_f {cf : Nat → List D → Mem → Out D} {mt : Nat → Nat → Option Nat} {ρ : Env} {m m1 : Mem} {c : CE} {d : D} {p q : CSs} (h : evE cf mt c ρ m = .ok d m1) (ht : truth d m1 = some false) : evS cf mt (.ift c p q) ρ m = evSs cf mt q ρ m1 := (v_ift h ht).trans (if_neg Bool.false_ne_true)
theorem call_q {g : Pg} {d f : Nat} {q : Fn} {ds : List D} {m : Mem} {x : P} (hf : g.fns[f]? = some q) (hl : ds.length = q.np) (h : evSs (g.call d) g.mt q.body (ds.map some ++ List.replicate (q.names.length - q.np) none) m = .ok (.rt (.p x)) m) : g.call (d + 1) f ds m = .ok (.p x) m := by
  rw [call_p hf hl h, List.take_length]
/-- a call whose def kept objects of its own behind what stands -/
theorem call_l {g : Pg} {d f : Nat} {q : Fn} {ds : List D} {m B objs : Mem} {x : P} (hf : g.fns[f]? = some q) (hl : ds.length = q.np) (h : evSs (g.call d) g.mt q.body (ds.map some ++ List.replicate (q.names.length - q.np) none) m = .ok (.rt (.p x)) (B ++ objs)) (hb : B.length = m.length) : g.call (d + 1) f ds m = .ok (.p x) B := by
  rw [call_p hf hl h, take_loc hb.symm]
end Lot
/-! TxB: comprehensions over encoded lists; two texts sorted. -/
namespace Lot
open PySem
theorem comp_enc {α : Type} {g : Mem → Bool} {step : P → Mem → Out (List P)} {m : Mem} (hg : g m = true) (enc : α → P) (f : α → List P) : ∀ (L : List α) (acc : List P), (∀ a ∈ L, step (enc a) m = .ok (f a) m) → compL g step (L.map enc) acc m = .ok (acc ++ L.flatMap f) m
  | [], acc, _ => by
    rw [List.map_nil]
    unfold compL
    rw [if_pos hg]
    simp
  | a :: L, acc, h => by
    rw [List.map_cons]
    unfold compL
    rw [if_pos hg, h a (List.mem_cons_self ..), Out.bind_ok, comp_enc hg enc f L _ fun y hy => h y (List.mem_cons_of_mem _ hy)]
    simp
/-- an indexed walk -/
def flatI {α : Type} (f : Nat → α → List P) : Nat → List α → List P
  | _, [] => []
  | k, a :: L => f k a ++ flatI f (k + 1) L
theorem comp_enum {α : Type} {g : Mem → Bool} {step : P → Mem → Out (List P)} {m : Mem} (hg : g m = true) (enc : α → P) (f : Nat → α → List P) : ∀ (L : List α) (k : Nat) (acc : List P), (∀ i a, L[i]? = some a → step (.tup [.int ((k + i : Nat) : Int), enc a]) m = .ok (f (k + i) a) m) → compL g step (enumL k (L.map enc)) acc m = .ok (acc ++ flatI f k L) m
  | [], k, acc, _ => by
    rw [List.map_nil]
    unfold enumL compL flatI
    rw [if_pos hg]
    simp
  | a :: L, k, acc, h => by
    rw [List.map_cons]
    have h0 := h 0 a rfl
    rw [Nat.add_zero] at h0
    unfold enumL compL flatI
    rw [if_pos hg, h0, Out.bind_ok, comp_enum hg enc f L (k + 1) _ fun i b hb => by
      have := h (i + 1) b (by simpa using hb)
      rw [show k + (i + 1) = k + 1 + i by omega] at this
      exact this]
    simp
theorem rngL_eq : ∀ (n : Nat) (a : Nat), rngL (a : Int) n = (List.range' a n).map fun i => P.int ((i : Nat) : Int)
  | 0, _ => rfl
  | n + 1, a => by
    rw [List.range'_succ, List.map_cons]
    show P.int (a : Int) :: rngL ((a : Int) + 1) n = _
    have : ((a : Int) + 1) = ((a + 1 : Nat) : Int) := by omega
    rw [this, rngL_eq n (a + 1)]
theorem rngL0 (n : Nat) : rngL 0 n = (List.range n).map fun i => P.int ((i : Nat) : Int) := by
  have := rngL_eq n 0
  rw [List.range_eq_range']
  exact this
section
variable {cf : Nat → List D → Mem → Out D} {mt : Nat → Nat → Option Nat} {ρ ρ1 : Env} {m m1 m2 m3 : Mem} {elt k v a b : CE} {ifs : CEs} {it : CI} {tg : Tg}
theorem e_compE {α : Type} {enc : α → P} {f : α → List P} {L : List α} {L' : List P} {g : Mem → Bool} (hi : evI cf mt it ρ m = .ok (L', g) m1) (hL : L' = L.map enc) (hg : g m1 = true) (hs : ∀ a ∈ L, stp cf mt elt tg ifs ρ (enc a) m1 = .ok (f a) m1) (hl : (L.flatMap f).length ≤ line) : evE cf mt (.comp elt tg it ifs) ρ m = .ok (.p (.lst (L.flatMap f))) m1 := by
  subst hL
  refine e_comp hi ?_ hl
  rw [comp_enc hg enc f L [] hs]
  simp
theorem e_compI {α : Type} {enc : α → P} {f : Nat → α → List P} {L : List α} {L' : List P} {g : Mem → Bool} (hi : evI cf mt it ρ m = .ok (L', g) m1) (hL : L' = enumL 0 (L.map enc)) (hg : g m1 = true) (hs : ∀ i a, L[i]? = some a → stp cf mt elt tg ifs ρ (.tup [.int (i : Nat), enc a]) m1 = .ok (f i a) m1) (hl : (flatI f 0 L).length ≤ line) : evE cf mt (.comp elt tg it ifs) ρ m = .ok (.p (.lst (flatI f 0 L))) m1 := by
  subst hL
  refine e_comp hi ?_ hl
  rw [comp_enum hg enc f L 0 [] fun i a h => by rw [Nat.zero_add]; exact hs i a h]
  simp
theorem bnd_bin {op : BOp} {j : Int} (h : evE cf mt (.bin op a b) ρ m = .ok (.p (.int j)) m1) : bnd (.bin op a b) (evE cf mt (.bin op a b) ρ m) = .ok (some j) m1 := by rw [h]; rfl
end
theorem flatMap_one {α : Type} (f : α → P) : ∀ L : List α, (L.flatMap fun a => [f a]) = L.map f
  | [] => rfl
  | a :: L => by rw [List.flatMap_cons, flatMap_one f L]; rfl
theorem flatMap_if {α : Type} (q : α → Bool) (f : α → P) : ∀ L : List α, (L.flatMap fun a => if q a then [f a] else []) = (L.filter q).map f
  | [] => rfl
  | a :: L => by
    rw [List.flatMap_cons, flatMap_if q f L, List.filter_cons]
    cases q a <;> simp
theorem asStrs_map : ∀ l : List Str, asStrs (l.map P.str) = some l
  | [] => rfl
  | s :: l => by
    rw [List.map_cons]
    unfold asStrs
    rw [asStrs_map l]
    rfl
theorem asInts_str {s : Str} {l : List P} : asInts (.str s :: l) = none := rfl
theorem leS_lt (a b : Str) : leS a b = !ltT b a := rfl
theorem sort2 (a b : Str) : sortP [.str a, .str b] = some (if ltT b a then [.str b, .str a] else [.str a, .str b]) := by
  have e : sortP [.str a, .str b] = some (([a, b].mergeSort leS).map .str) := rfl
  rw [e]
  have p := List.mergeSort_perm [a, b] leS
  have s := ms_strs [a, b]
  by_cases h : ltT b a = true
  · rw [if_pos h]
    have : [a, b].mergeSort leS = [b, a] := strs_uniq (p.trans (List.Perm.swap b a [])) s (by
      refine List.Pairwise.cons (fun y hy => ?_) (List.pairwise_singleton _ _)
      rw [List.mem_singleton] at hy
      subst hy
      rw [leS_iff]
      unfold ltT at h
      exact List.le_of_lt (by simpa using h))
    rw [this]
    rfl
  · rw [if_neg h]
    have : [a, b].mergeSort leS = [a, b] := strs_uniq p s (by
      refine List.Pairwise.cons (fun y hy => ?_) (List.pairwise_singleton _ _)
      rw [List.mem_singleton] at hy
      subst hy
      rw [leS_lt]
      simpa using h)
    rw [this]
    rfl
end Lot
/-! TxC: plain forms, as both ways find them: pure. -/
namespace Lot
open PySem
/-! ### what a row hangs on -/
def depsOf (r : Rw) : Nat → List Rw → List Nat
  | _, [] => []
  | k, o :: L => if r.dep o then k :: depsOf r (k + 1) L else depsOf r (k + 1) L
def hung (rows : List Rw) (i : Nat) : List Nat := match rows[i]? with
  | some r => depsOf r 0 (rows.take i)
  | none => []
theorem mem_deps {r : Rw} : ∀ {L : List Rw} {k j : Nat}, j ∈ depsOf r k L ↔ ∃ i o, j = k + i ∧ L[i]? = some o ∧ r.dep o = true
  | [], k, j => by simp [depsOf]
  | o :: L, k, j => by
    unfold depsOf
    have ih := mem_deps (r := r) (L := L) (k := k + 1) (j := j)
    constructor
    · intro h
      split at h
      · rename_i hd
        rcases List.mem_cons.mp h with rfl | h
        · exact ⟨0, o, rfl, rfl, hd⟩
        · obtain ⟨i, q, h1, h2, h3⟩ := ih.mp h
          exact ⟨i + 1, q, by omega, by simpa using h2, h3⟩
      · obtain ⟨i, q, h1, h2, h3⟩ := ih.mp h
        exact ⟨i + 1, q, by omega, by simpa using h2, h3⟩
    · rintro ⟨i, q, h1, h2, h3⟩
      cases i with
      | zero =>
        simp at h2
        subst h2
        rw [if_pos h3]
        exact List.mem_cons.mpr (.inl (by omega))
      | succ i =>
        have : j ∈ depsOf r (k + 1) L := ih.mpr ⟨i, q, by omega, by simpa using h2, h3⟩
        split
        · exact List.mem_cons_of_mem _ this
        · exact this
theorem mem_hung {rows : List Rw} {k j : Nat} {r : Rw} (hr : rows[k]? = some r) : j ∈ hung rows k ↔ j < k ∧ ∃ o, rows[j]? = some o ∧ r.dep o = true := by
  unfold hung
  rw [hr]
  show j ∈ depsOf r 0 (rows.take k) ↔ _
  rw [mem_deps]
  constructor
  · rintro ⟨i, o, h1, h2, h3⟩
    rw [Nat.zero_add] at h1
    subst h1
    rw [List.getElem?_take] at h2
    split at h2
    · exact ⟨by assumption, o, h2, h3⟩
    · cases h2
  · rintro ⟨h1, o, h2, h3⟩
    exact ⟨j, o, by omega, by rw [List.getElem?_take, if_pos h1]; exact h2, h3⟩
def fN (nm : List (Str × Str)) (v : Str) : Str := (nm.lookup v).getD ⟨#[]⟩
def ripe (rows : List Rw) (dn : List Nat) : List Nat := (List.range rows.length).filter fun k => !dn.contains k && (hung rows k).all fun j => dn.contains j
def cand (rows : List Rw) (nm : List (Str × Str)) (k : Nat) : Rw := match rows[k]? with
  | some r => (r.ren (fN nm)).srt
  | none => .out ⟨#[]⟩
def less (rows : List Rw) (nm : List (Str × Str)) (k b : Nat) : Bool := ltP (cand rows nm k).key (cand rows nm b).key == some true
def sel (rows : List Rw) (nm : List (Str × Str)) (b : Nat) (ks : List Nat) : Nat := ks.foldl (fun b k => if less rows nm k b then k else b) b
def lets : Str := "abcdefghijklmnopqrstuvwxyz"
def letter (i : Nat) : Str := ⟨#[(lets.cps.toList[i]?).getD 0]⟩
structure St where
  dn : List Nat
  nm : List (Str × Str)
  fd : List Rw
def mkAt (rows : List Rw) (k : Nat) : Option Str := (rows[k]?).bind Rw.mk
def putR (rows : List Rw) (s : St) (k : Nat) : St := match mkAt rows k with
  | some x => ⟨s.dn ++ [k], s.nm ++ [(x, letter s.nm.length)], s.fd ++ [(cand rows s.nm k).re (letter s.nm.length)]⟩
  | none => ⟨s.dn ++ [k], s.nm, s.fd ++ [cand rows s.nm k]⟩
def nxt (rows : List Rw) (s : St) : St := match ripe rows s.dn with
  | [] => s
  | b :: ks => putR rows s (sel rows s.nm b ks)
def runN (rows : List Rw) : Nat → St → St
  | 0, s => s
  | n + 1, s => runN rows n (nxt rows s)
def st0 (takes : List Str) : St := ⟨[], takes.zipIdx.map fun x => (x.1, letter x.2), []⟩
/-! ### a block that can be told plainly -/
def sOk (s : Str) : Prop := PyData.strOk s = true
def Rw.strs : Rw → List Str
  | .num x _ => [x]
  | .op _ x y z => [x, y, z]
  | .read x c => [x, c]
  | .write c y => [c, y]
  | .out y => [y]
structure WfB (takes : List Str) (rows : List Rw) : Prop where
  use : ∀ (k : Nat) (r : Rw), rows[k]? = some r → ∀ v ∈ r.ends, v ∈ takes ∨ ∃ (j : Nat) (o : Rw), j < k ∧ rows[j]? = some o ∧ Rw.mk o = some v
  nd : (takes ++ rows.filterMap Rw.mk).Nodup
  nt : takes.length ≤ 6
  nr : rows.length ≤ 14
  ok : ∀ r ∈ rows, ∀ s ∈ r.strs, sOk s
structure Ok (takes : List Str) (rows : List Rw) (s : St) : Prop where
  nd : s.dn.Nodup
  lt : ∀ k ∈ s.dn, k < rows.length
  keys : s.nm.map (·.1) = takes ++ s.dn.filterMap (mkAt rows)
  vals : ∀ kv ∈ s.nm, sOk kv.2
theorem nd_le : ∀ (l l' : List Nat), l.Nodup → (∀ x ∈ l, x ∈ l') → l.length ≤ l'.length
  | [], _, _, _ => Nat.zero_le _
  | x :: l, l', nd, h => by
    rw [List.nodup_cons] at nd
    have hx := h x (List.mem_cons_self ..)
    have ih := nd_le l (l'.erase x) nd.2 fun y hy => by
      have hne : y ≠ x := fun e => nd.1 (e ▸ hy)
      exact (List.mem_erase_of_ne hne).mpr (h y (List.mem_cons_of_mem _ hy))
    rw [List.length_erase_of_mem hx] at ih
    have : 0 < l'.length := List.length_pos_of_mem hx
    rw [List.length_cons]
    omega
theorem mem_ripe {rows : List Rw} {dn : List Nat} {k : Nat} : k ∈ ripe rows dn ↔ k < rows.length ∧ k ∉ dn ∧ ∀ j ∈ hung rows k, j ∈ dn := by
  unfold ripe
  rw [List.mem_filter, List.mem_range]
  simp only [Bool.and_eq_true, Bool.not_eq_true', List.all_eq_true, List.contains_iff_mem]
  constructor
  · rintro ⟨h1, h2, h3⟩
    refine ⟨h1, fun q => ?_, h3⟩
    rw [List.contains_iff_mem.mpr q] at h2
    cases h2
  · rintro ⟨h1, h2, h3⟩
    refine ⟨h1, ?_, h3⟩
    cases q : dn.contains k
    · rfl
    · exact absurd (List.contains_iff_mem.mp q) h2
section
variable {takes : List Str} {rows : List Rw} {s : St}
theorem ripe_ne (h : s.dn.length < rows.length) : ripe rows s.dn ≠ [] := by
  have hx : ∃ k, k < rows.length ∧ k ∉ s.dn := by
    apply Classical.byContradiction
    intro q
    have := nd_le (List.range rows.length) s.dn List.nodup_range fun k hk => by
      apply Classical.byContradiction
      intro z
      exact q ⟨k, List.mem_range.mp hk, z⟩
    rw [List.length_range] at this
    omega
  have go : ∀ n k, k ≤ n → k < rows.length → k ∉ s.dn → ripe rows s.dn ≠ [] := by
    intro n
    induction n with
    | zero =>
      intro k hk h1 h2 e
      have hk0 : k = 0 := by omega
      subst hk0
      have : (0 : Nat) ∈ ripe rows s.dn := mem_ripe.mpr ⟨h1, h2, fun j hj => by
        obtain ⟨z, _⟩ := (mem_hung (List.getElem?_eq_getElem h1)).mp hj
        omega⟩
      rw [e] at this
      cases this
    | succ n ih =>
      intro k hk h1 h2 e
      by_cases hj : ∃ j, j < k ∧ j ∉ s.dn
      · obtain ⟨j, j1, j2⟩ := hj
        exact ih j (by omega) (by omega) j2 e
      · have : k ∈ ripe rows s.dn := mem_ripe.mpr ⟨h1, h2, fun j hj' => by
          obtain ⟨z, _⟩ := (mem_hung (List.getElem?_eq_getElem h1)).mp hj'
          apply Classical.byContradiction
          intro q
          exact hj ⟨j, z, q⟩⟩
        rw [e] at this
        cases this
  obtain ⟨k, h1, h2⟩ := hx
  exact go k k (Nat.le_refl _) h1 h2
theorem mkAt_some {k : Nat} {r : Rw} (h : rows[k]? = some r) : mkAt rows k = Rw.mk r := by unfold mkAt; rw [h]; rfl
theorem known (W : WfB takes rows) (K : Ok takes rows s) {k : Nat} {r : Rw} (hk : k ∈ ripe rows s.dn) (hr : rows[k]? = some r) {v : Str} (hv : v ∈ r.ends) : v ∈ s.nm.map (·.1) := by
  rw [K.keys, List.mem_append]
  rcases W.use k r hr v hv with h | ⟨j, o, h1, h2, h3⟩
  · exact .inl h
  · right
    have hd : r.dep o = true := by
      unfold Rw.dep hasO
      rw [h3]
      simp [hv]
    have := (mem_ripe.mp hk).2.2 j ((mem_hung hr).mpr ⟨h1, o, h2, hd⟩)
    exact List.mem_filterMap.mpr ⟨j, this, by rw [mkAt_some h2]; exact h3⟩
theorem fm_inj : ∀ {rows : List Rw} {i j : Nat} {x : Str}, (rows.filterMap Rw.mk).Nodup → mkAt rows i = some x → mkAt rows j = some x → i = j
  | [], i, _, _, _, h, _ => by simp [mkAt] at h
  | r :: rows, i, j, x, nd, hi, hj => by
    have mem : ∀ {i x}, mkAt rows i = some x → x ∈ rows.filterMap Rw.mk := fun {i x} h => by
      unfold mkAt at h
      obtain ⟨o, h1, h2⟩ := Option.bind_eq_some_iff.mp h
      exact List.mem_filterMap.mpr ⟨o, List.mem_of_getElem? h1, h2⟩
    have sh : ∀ i, mkAt (r :: rows) (i + 1) = mkAt rows i := fun i => by unfold mkAt; rw [List.getElem?_cons_succ]
    have s0 : mkAt (r :: rows) 0 = r.mk := rfl
    cases hr : r.mk with
    | none =>
      rw [List.filterMap_cons_none hr] at nd
      cases i with
      | zero => rw [s0, hr] at hi; cases hi
      | succ i =>
        cases j with
        | zero => rw [s0, hr] at hj; cases hj
        | succ j => rw [sh] at hi hj; rw [fm_inj nd hi hj]
    | some y =>
      rw [List.filterMap_cons_some hr, List.nodup_cons] at nd
      cases i with
      | zero =>
        cases j with
        | zero => rfl
        | succ j =>
          rw [s0, hr] at hi
          cases hi
          rw [sh] at hj
          exact absurd (mem hj) nd.1
      | succ i =>
        cases j with
        | zero =>
          rw [s0, hr] at hj
          cases hj
          rw [sh] at hi
          exact absurd (mem hi) nd.1
        | succ j => rw [sh] at hi hj; rw [fm_inj nd.2 hi hj]
theorem fresh (W : WfB takes rows) (K : Ok takes rows s) {k : Nat} {x : Str} (hk : k ∉ s.dn) (hx : mkAt rows k = some x) : x ∉ s.nm.map (·.1) := by
  rw [K.keys, List.mem_append]
  have nd := W.nd
  rw [List.nodup_append] at nd
  have hm : x ∈ rows.filterMap Rw.mk := by
    unfold mkAt at hx
    obtain ⟨o, h1, h2⟩ := Option.bind_eq_some_iff.mp hx
    exact List.mem_filterMap.mpr ⟨o, List.mem_of_getElem? h1, h2⟩
  rintro (h | h)
  · exact nd.2.2 x h x hm rfl
  · obtain ⟨j, h1, h2⟩ := List.mem_filterMap.mp h
    have := fm_inj nd.2.1 hx h2
    exact hk (this ▸ h1)
theorem keys_len (K : Ok takes rows s) : s.nm.length ≤ takes.length + s.dn.length := by
  have := congrArg List.length K.keys
  rw [List.length_map, List.length_append] at this
  have := List.length_filterMap_le (mkAt rows) s.dn
  omega
theorem sel_mem {nm : List (Str × Str)} : ∀ {ks : List Nat} {b : Nat}, sel rows nm b ks ∈ b :: ks
  | [], b => List.mem_cons_self ..
  | k :: ks, b => by
    have e : sel rows nm b (k :: ks) = sel rows nm (if less rows nm k b then k else b) ks := rfl
    rw [e]
    have ih := sel_mem (nm := nm) (ks := ks) (b := if less rows nm k b then k else b)
    rcases List.mem_cons.mp ih with h | h
    · rw [h]
      split
      · exact List.mem_cons_of_mem _ (List.mem_cons_self ..)
      · exact List.mem_cons_self ..
    · exact List.mem_cons_of_mem _ (List.mem_cons_of_mem _ h)
end
end Lot
/-! TxD: the choice of the next row; what stays. -/
namespace Lot
open PySem
theorem ltWs_eq : ∀ (xs ys : List P), eqPs xs ys = true → ltWs xs ys = some false
  | [], [], _ => rfl
  | [], _ :: _, h => by simp [eqPs] at h
  | _ :: _, [], h => by simp [eqPs] at h
  | x :: xs, y :: ys, h => by
    simp only [eqPs, Bool.and_eq_true] at h
    simp only [ltWs]
    rw [if_pos h.1]
    exact ltWs_eq xs ys h.2
theorem tl_deep (r : Rw) : deeps r.tl = 0 := by cases r <;> simp [Rw.tl, deeps, deep]
theorem key_okD {r : Rw} (h : flats r.tl = true) : okD r.key = true := by
  unfold okD Rw.key
  simp [flat, flats, deep, deeps, tl_deep, h]
theorem key_cmp {r o : Rw} (hr : flats r.tl = true) (ho : flats o.tl = true) : ∃ t, ltP r.key o.key = some t := by
  have e : ltP r.key o.key = ltWs [.int r.idx, .tup r.tl] [.int o.idx, .tup o.tl] := by
    show (if okD r.key && okD o.key then ltWs [.int r.idx, .tup r.tl] [.int o.idx, .tup o.tl] else none) = _
    rw [key_okD hr, key_okD ho]
    rfl
  rw [e]
  simp only [ltWs]
  by_cases hi : r.idx = o.idx
  · rw [if_pos (show eqP (.int r.idx) (.int o.idx) = true by rw [hi]; show (o.idx == o.idx) = true; simp)]
    split
    · exact ⟨_, rfl⟩
    · simp only [ltW]
      have two : ∀ a b c d : Str, ∃ t, ltWs [.str a, .str b] [.str c, .str d] = some t := fun a b c d => by
        simp only [ltWs, ltW]
        split
        · split <;> exact ⟨_, rfl⟩
        · exact ⟨_, rfl⟩
      cases r with
      | num x n => cases o with
        | num x' n' => simp only [Rw.tl, ltWs, ltW]; split <;> exact ⟨_, rfl⟩
        | op w _ _ _ => cases w <;> simp [Rw.idx] at hi
        | _ => simp [Rw.idx] at hi
      | op w x y z => cases o with
        | op w' x' y' z' => exact two y z y' z'
        | _ => cases w <;> simp [Rw.idx] at hi
      | read x c => cases o with
        | read x' c' => simp only [Rw.tl, ltWs, ltW]; split <;> exact ⟨_, rfl⟩
        | op w _ _ _ => cases w <;> simp [Rw.idx] at hi
        | _ => simp [Rw.idx] at hi
      | write c y => cases o with
        | write c' y' => exact two c y c' y'
        | op w _ _ _ => cases w <;> simp [Rw.idx] at hi
        | _ => simp [Rw.idx] at hi
      | out y => cases o with
        | out y' => simp only [Rw.tl, ltWs, ltW]; split <;> exact ⟨_, rfl⟩
        | op w _ _ _ => cases w <;> simp [Rw.idx] at hi
        | _ => simp [Rw.idx] at hi
  · rw [if_neg (show ¬ eqP (.int r.idx) (.int o.idx) = true by show ¬ (r.idx == o.idx) = true; simpa using hi)]
    exact ⟨_, rfl⟩
/-- a candidate and its number -/
def pk (rows : List Rw) (nm : List (Str × Str)) (k : Nat) : P := .tup [(cand rows nm k).key, .int (k : Nat)]
theorem pk_lt {rows : List Rw} {nm : List (Str × Str)} {k b : Nat} (hk : flats (cand rows nm k).tl = true) (hb : flats (cand rows nm b).tl = true) : ∃ t, ltP (pk rows nm k) (pk rows nm b) = some t ∧ (b < k → t = less rows nm k b) := by
  have ok : ∀ {k}, flats (cand rows nm k).tl = true → okD (pk rows nm k) = true := fun {k} h => by
    have h1 := key_okD h
    unfold okD at h1 ⊢
    unfold pk
    simp only [Bool.and_eq_true, decide_eq_true_eq] at h1 ⊢
    refine ⟨by simp [flat, flats, h1.1], ?_⟩
    simp only [deep, deeps, Rw.key, tl_deep]
    decide
  obtain ⟨t, ht⟩ := key_cmp hk hb
  have e : ltP (pk rows nm k) (pk rows nm b) = ltWs [(cand rows nm k).key, .int (k : Nat)] [(cand rows nm b).key, .int (b : Nat)] := by
    show (if okD (pk rows nm k) && okD (pk rows nm b) then _ else none) = _
    rw [ok hk, ok hb]
    rfl
  have ht' : ltP (cand rows nm k).key (cand rows nm b).key = ltWs [.int (cand rows nm k).idx, .tup (cand rows nm k).tl] [.int (cand rows nm b).idx, .tup (cand rows nm b).tl] := by
    show (if okD (cand rows nm k).key && okD (cand rows nm b).key then _ else none) = _
    rw [key_okD hk, key_okD hb]
    rfl
  rw [e]
  simp only [ltWs]
  by_cases q : eqP (cand rows nm k).key (cand rows nm b).key = true
  · rw [if_pos q]
    have hl : less rows nm k b = false := by
      unfold less
      rw [ht', ltWs_eq _ _ (by simpa [Rw.key, eqP] using q)]
      rfl
    by_cases kb : (k : Int) = b
    · rw [if_pos (by simpa [eqP] using kb)]
      exact ⟨false, rfl, fun z => by omega⟩
    · rw [if_neg (by simpa [eqP] using kb)]
      refine ⟨_, rfl, fun z => ?_⟩
      rw [hl]
      simp
      omega
  · rw [if_neg q]
    have : ltW (cand rows nm k).key (cand rows nm b).key = some t := by rw [← ht, ht']; rfl
    rw [this]
    refine ⟨t, rfl, fun _ => ?_⟩
    unfold less
    rw [ht]
    cases t <;> rfl
theorem minW_sel {rows : List Rw} {nm : List (Str × Str)} : ∀ (ks : List Nat) (b : Nat), (∀ k ∈ b :: ks, flats (cand rows nm k).tl = true) → (b :: ks).Pairwise (· < ·) → minW (pk rows nm b) (ks.map (pk rows nm)) = pk rows nm (sel rows nm b ks)
  | [], _, _, _ => rfl
  | k :: ks, b, h, pw => by
    have hb := h b (List.mem_cons_self ..)
    have hk := h k (List.mem_cons_of_mem _ (List.mem_cons_self ..))
    rw [List.pairwise_cons] at pw
    obtain ⟨p1, p2⟩ := pw
    have hbk := p1 k (List.mem_cons_self ..)
    obtain ⟨t, ht, hl⟩ := pk_lt hk hb
    have e1 : minW (pk rows nm b) ((k :: ks).map (pk rows nm)) = minW (if ltP (pk rows nm k) (pk rows nm b) == some true then pk rows nm k else pk rows nm b) (ks.map (pk rows nm)) := rfl
    have e2 : sel rows nm b (k :: ks) = sel rows nm (if less rows nm k b then k else b) ks := rfl
    rw [e1, e2, ht, ← hl hbk]
    rw [List.pairwise_cons] at p2
    cases t with
    | true =>
      exact minW_sel ks k (fun j hj => h j (List.mem_cons_of_mem _ hj)) (List.pairwise_cons.mpr p2)
    | false =>
      refine minW_sel ks b (fun j hj => ?_) (List.pairwise_cons.mpr ⟨fun j hj => p1 j (List.mem_cons_of_mem _ hj), p2.2⟩)
      rcases List.mem_cons.mp hj with rfl | hj
      · exact hb
      · exact h j (List.mem_cons_of_mem _ (List.mem_cons_of_mem _ hj))
theorem ripe_pw (rows : List Rw) (dn : List Nat) : (ripe rows dn).Pairwise (· < ·) := List.Pairwise.filter _ List.pairwise_lt_range
theorem letter_ok (i : Nat) : sOk (letter i) := by
  unfold sOk letter PyData.strOk
  have : ∀ c ∈ lets.cps.toList, c < 1114112 := by decide
  cases h : lets.cps.toList[i]? with
  | none => simp
  | some c =>
    have := this c (List.mem_of_getElem? h)
    simp
    exact this
section
variable {takes : List Str} {rows : List Rw} {s : St}
theorem fN_ok (K : Ok takes rows s) {v : Str} (h : v ∈ s.nm.map (·.1)) : s.nm.lookup v = some (fN s.nm v) ∧ sOk (fN s.nm v) := by
  obtain ⟨w, hw⟩ := lookup_some h
  unfold fN
  rw [hw]
  exact ⟨rfl, K.vals _ (lookup_mem hw)⟩
theorem cand_tl (W : WfB takes rows) (K : Ok takes rows s) {k : Nat} (hk : k ∈ ripe rows s.dn) : flats (cand rows s.nm k).tl = true := by
  have hlt := (mem_ripe.mp hk).1
  have hr := List.getElem?_eq_getElem hlt
  unfold cand
  rw [hr]
  have kn : ∀ v ∈ (rows[k]).ends, sOk (fN s.nm v) := fun v hv => (fN_ok K (known W K hk hr hv)).2
  have ok := W.ok rows[k] (List.getElem_mem hlt)
  generalize rows[k] = r at kn ok
  show flats ((r.ren (fN s.nm)).srt).tl = true
  unfold sOk at kn ok
  cases r with
  | num x n => rfl
  | op w x y z =>
    have h1 := kn y (by simp [Rw.ends])
    have h2 := kn z (by simp [Rw.ends])
    simp only [Rw.ren, Rw.srt]
    split <;> simp [Rw.tl, flats, flat, h1, h2]
  | read x c =>
    have h1 := ok c (by simp [Rw.strs])
    simp [Rw.ren, Rw.srt, Rw.tl, flats, flat, h1]
  | write c y =>
    have h1 := ok c (by simp [Rw.strs])
    have h2 := kn y (by simp [Rw.ends])
    simp [Rw.ren, Rw.srt, Rw.tl, flats, flat, h1, h2]
  | out y =>
    have h2 := kn y (by simp [Rw.ends])
    simp [Rw.ren, Rw.srt, Rw.tl, flats, flat, h2]
theorem ok_put (W : WfB takes rows) (K : Ok takes rows s) {k : Nat} (hk : k ∈ ripe rows s.dn) : Ok takes rows (putR rows s k) ∧ (putR rows s k).dn = s.dn ++ [k] := by
  obtain ⟨h1, h2, _⟩ := mem_ripe.mp hk
  unfold putR
  have nd : (s.dn ++ [k]).Nodup := by
    rw [List.nodup_append]
    exact ⟨K.nd, by simp, fun a ha b hb => by rw [List.mem_singleton] at hb; subst hb; exact fun e => h2 (e ▸ ha)⟩
  have lt : ∀ j ∈ s.dn ++ [k], j < rows.length := fun j hj => by
    rcases List.mem_append.mp hj with hj | hj
    · exact K.lt j hj
    · rw [List.mem_singleton] at hj; subst hj; exact h1
  cases hx : mkAt rows k with
  | some x =>
    refine ⟨⟨nd, lt, ?_, fun kv hkv => ?_⟩, rfl⟩
    · show (s.nm ++ [(x, letter s.nm.length)]).map (fun (kv : Str × Str) => kv.1) = takes ++ (s.dn ++ [k]).filterMap (mkAt rows)
      rw [List.map_append, K.keys, List.filterMap_append, List.append_assoc]
      simp [hx]
    · have hkv : kv ∈ s.nm ++ [(x, letter s.nm.length)] := hkv
      rcases List.mem_append.mp hkv with h | h
      · exact K.vals kv h
      · rw [List.mem_singleton] at h
        subst h
        exact letter_ok _
  | none =>
    refine ⟨⟨nd, lt, ?_, K.vals⟩, rfl⟩
    show s.nm.map (fun (kv : Str × Str) => kv.1) = takes ++ (s.dn ++ [k]).filterMap (mkAt rows)
    rw [K.keys, List.filterMap_append]
    simp [hx]
theorem ok_nxt (W : WfB takes rows) (K : Ok takes rows s) (h : s.dn.length < rows.length) : ∃ b ks, ripe rows s.dn = b :: ks ∧ nxt rows s = putR rows s (sel rows s.nm b ks) ∧ sel rows s.nm b ks ∈ ripe rows s.dn ∧ Ok takes rows (nxt rows s) ∧ (nxt rows s).dn.length = s.dn.length + 1 := by
  cases e : ripe rows s.dn with
  | nil => exact absurd e (ripe_ne h)
  | cons b ks =>
    have hm : sel rows s.nm b ks ∈ ripe rows s.dn := by rw [e]; exact sel_mem
    obtain ⟨k1, k2⟩ := ok_put W K hm
    have en : nxt rows s = putR rows s (sel rows s.nm b ks) := by unfold nxt; rw [e]
    refine ⟨b, ks, rfl, en, by rw [← e]; exact hm, by rw [en]; exact k1, by rw [en, k2, List.length_append]; rfl⟩
end
theorem ok_st0 {takes : List Str} {rows : List Rw} : Ok takes rows (st0 takes) := by
  refine ⟨List.nodup_nil, fun k h => (by cases h), ?_, fun kv h => ?_⟩
  · show (takes.zipIdx.map fun (x : Str × Nat) => (x.1, letter x.2)).map (fun (x : Str × Str) => x.1) = takes ++ ([] : List Nat).filterMap (mkAt rows)
    rw [List.map_map, List.filterMap_nil, List.append_nil]
    exact List.zipIdx_map_fst 0 takes
  · obtain ⟨x, _, rfl⟩ := List.mem_map.mp h
    exact letter_ok _
end Lot
/-! TxG: keys as lists of numbers; the choice is the least. -/
namespace Lot
open PySem
def encS (s : Str) : List Int := s.cps.toList.map (fun c => ((c : Nat) : Int) + 1) ++ [0]
def encP : P → List Int
  | .int i => [i]
  | .str s => encS s
  | _ => []
theorem lt_encL : ∀ (s t : List Nat) (A B : List Int), (s.map (fun (c : Nat) => (c : Int) + 1) ++ [0] ++ A < t.map (fun (c : Nat) => (c : Int) + 1) ++ [0] ++ B) ↔ (s < t ∨ (s = t ∧ A < B))
  | [], [], A, B => by simp [List.cons_lt_cons_iff]
  | [], c :: t, A, B => by
    simp only [List.map_nil, List.nil_append, List.map_cons, List.cons_append, List.cons_lt_cons_iff]
    constructor
    · intro _; exact .inl (by simp)
    · intro _; exact .inl (by omega)
  | c :: s, [], A, B => by
    simp only [List.map_nil, List.nil_append, List.map_cons, List.cons_append, List.cons_lt_cons_iff]
    constructor
    · rintro (h | h)
      · omega
      · omega
    · rintro (h | h)
      · simp at h
      · cases h.1
  | c :: s, e :: t, A, B => by
    have ih := lt_encL s t A B
    simp only [List.map_cons, List.cons_append, List.cons_lt_cons_iff] at ih ⊢
    rw [ih]
    constructor
    · rintro (h | ⟨h, h2 | h2⟩)
      · exact .inl (.inl (by omega))
      · exact .inl (.inr ⟨by omega, h2⟩)
      · exact .inr ⟨by rw [show c = e by omega, h2.1], h2.2⟩
    · rintro ((h | ⟨h, h2⟩) | ⟨h, h2⟩)
      · exact .inl (by omega)
      · exact .inr ⟨by omega, .inl h2⟩
      · cases h
        exact .inr ⟨rfl, .inr ⟨rfl, h2⟩⟩
theorem str_of_list {s t : Str} (h : s.cps.toList = t.cps.toList) : s = t := by
  cases s; cases t
  congr 1
  exact Array.toList_inj.mp h
theorem lt_encS (s t : Str) (A B : List Int) : (encS s ++ A < encS t ++ B) ↔ (s.cps.toList < t.cps.toList ∨ (s = t ∧ A < B)) := by
  unfold encS
  rw [lt_encL]
  constructor
  · rintro (h | ⟨h, h2⟩)
    · exact .inl h
    · exact .inr ⟨str_of_list h, h2⟩
  · rintro (h | ⟨h, h2⟩)
    · exact .inl h
    · exact .inr ⟨by rw [h], h2⟩
/-- of one kind, part by part -/
inductive Kin : List P → List P → Prop
  | nil : Kin [] []
  | int (i j : Int) {xs ys : List P} : Kin xs ys → Kin (.int i :: xs) (.int j :: ys)
  | str (s t : Str) {xs ys : List P} : Kin xs ys → Kin (.str s :: xs) (.str t :: ys)
theorem kin_lt {xs ys : List P} (h : Kin xs ys) : ltWs xs ys = some (decide (xs.flatMap encP < ys.flatMap encP)) := by
  induction h with
  | nil => simp [ltWs]
  | int i j h ih =>
    simp only [ltWs, List.flatMap_cons, encP, List.cons_append, List.nil_append, List.cons_lt_cons_iff]
    by_cases e : i = j
    · rw [if_pos (show eqP (.int i) (.int j) = true by rw [e]; show (j == j) = true; simp), ih]
      congr 1
      simp [e]
    · rw [if_neg (show ¬ eqP (.int i) (.int j) = true by show ¬ (i == j) = true; simpa using e)]
      show some (decide (i < j)) = _
      congr 1
      simp [e]
  | str s t h ih =>
    simp only [ltWs, List.flatMap_cons, encP]
    by_cases e : s = t
    · rw [if_pos (show eqP (.str s) (.str t) = true by rw [e]; show (t == t) = true; simp), ih]
      congr 1
      rw [decide_eq_decide, lt_encS]
      constructor
      · exact fun h => .inr ⟨e, h⟩
      · rintro (h | h)
        · rw [e] at h; exact absurd h (List.lt_irrefl _)
        · exact h.2
    · rw [if_neg (show ¬ eqP (.str s) (.str t) = true by show ¬ (s == t) = true; simpa using e)]
      show some (decide (s.cps.toList < t.cps.toList)) = _
      congr 1
      rw [decide_eq_decide, lt_encS]
      simp [e]
def Rw.en (r : Rw) : List Int := r.idx :: r.tl.flatMap encP
theorem kin_tl {r o : Rw} (h : r.idx = o.idx) : Kin r.tl o.tl := by
  cases r with
  | num x n => cases o with
    | num x' n' => exact .int _ _ .nil
    | op w _ _ _ => cases w <;> simp [Rw.idx] at h
    | _ => simp [Rw.idx] at h
  | op w x y z => cases o with
    | op w' x' y' z' => exact .str _ _ (.str _ _ .nil)
    | _ => cases w <;> simp [Rw.idx] at h
  | read x c => cases o with
    | read x' c' => exact .str _ _ .nil
    | op w _ _ _ => cases w <;> simp [Rw.idx] at h
    | _ => simp [Rw.idx] at h
  | write c y => cases o with
    | write c' y' => exact .str _ _ (.str _ _ .nil)
    | op w _ _ _ => cases w <;> simp [Rw.idx] at h
    | _ => simp [Rw.idx] at h
  | out y => cases o with
    | out y' => exact .str _ _ .nil
    | op w _ _ _ => cases w <;> simp [Rw.idx] at h
    | _ => simp [Rw.idx] at h
theorem key_lt {r o : Rw} (hr : flats r.tl = true) (ho : flats o.tl = true) : ltP r.key o.key = some (decide (r.en < o.en)) := by
  have e : ltP r.key o.key = ltWs [.int r.idx, .tup r.tl] [.int o.idx, .tup o.tl] := by
    show (if okD r.key && okD o.key then ltWs [.int r.idx, .tup r.tl] [.int o.idx, .tup o.tl] else none) = _
    rw [key_okD hr, key_okD ho]
    rfl
  rw [e]
  simp only [ltWs]
  unfold Rw.en
  by_cases hi : r.idx = o.idx
  · rw [if_pos (show eqP (.int r.idx) (.int o.idx) = true by rw [hi]; show (o.idx == o.idx) = true; simp)]
    have k := kin_lt (kin_tl hi)
    by_cases q : eqP (.tup r.tl) (.tup o.tl) = true
    · rw [if_pos q]
      have := ltWs_eq r.tl o.tl (by simpa [eqP] using q)
      rw [this] at k
      congr 1
      have k : false = decide (r.tl.flatMap encP < o.tl.flatMap encP) := Option.some.inj k
      rw [k, decide_eq_decide, List.cons_lt_cons_iff, hi]
      simp
    · rw [if_neg q]
      show ltWs r.tl o.tl = _
      rw [k]
      congr 1
      rw [decide_eq_decide, List.cons_lt_cons_iff, hi]
      simp
  · rw [if_neg (show ¬ eqP (.int r.idx) (.int o.idx) = true by show ¬ (r.idx == o.idx) = true; simpa using hi)]
    show some (decide (r.idx < o.idx)) = _
    congr 1
    rw [decide_eq_decide, List.cons_lt_cons_iff]
    simp [hi]
theorem less_en {rows : List Rw} {nm : List (Str × Str)} {k b : Nat} (hk : flats (cand rows nm k).tl = true) (hb : flats (cand rows nm b).tl = true) : less rows nm k b = decide ((cand rows nm k).en < (cand rows nm b).en) := by
  unfold less
  rw [key_lt hk hb]
  cases decide ((cand rows nm k).en < (cand rows nm b).en) <;> rfl
/-- none is less than the chosen one -/
theorem sel_min {rows : List Rw} {nm : List (Str × Str)} : ∀ (ks : List Nat) (b : Nat), (∀ k ∈ b :: ks, flats (cand rows nm k).tl = true) → ∀ k ∈ b :: ks, (cand rows nm (sel rows nm b ks)).en ≤ (cand rows nm k).en
  | [], b, h, k, hk => by
    rw [List.mem_singleton] at hk
    subst hk
    exact List.le_refl _
  | c :: ks, b, h, k, hk => by
    have hb := h b (List.mem_cons_self ..)
    have hc := h c (List.mem_cons_of_mem _ (List.mem_cons_self ..))
    have e : sel rows nm b (c :: ks) = sel rows nm (if less rows nm c b then c else b) ks := rfl
    rw [e]
    by_cases q : less rows nm c b = true
    · rw [if_pos q]
      have ih := sel_min ks c fun j hj => h j (List.mem_cons_of_mem _ hj)
      rw [less_en hc hb, decide_eq_true_eq] at q
      rcases List.mem_cons.mp hk with rfl | hk
      · exact List.le_trans (ih c (List.mem_cons_self ..)) (List.le_of_lt q)
      · exact ih k hk
    · rw [if_neg q]
      have ih := sel_min ks b fun j hj => by
        rcases List.mem_cons.mp hj with rfl | hj
        · exact hb
        · exact h j (List.mem_cons_of_mem _ (List.mem_cons_of_mem _ hj))
      rw [less_en hc hb, decide_eq_true_eq] at q
      rcases List.mem_cons.mp hk with rfl | hk
      · exact ih k (List.mem_cons_self ..)
      · rcases List.mem_cons.mp hk with rfl | hk
        · exact List.le_trans (ih b (List.mem_cons_self ..)) (List.not_lt.mp q)
        · exact ih k (List.mem_cons_of_mem _ hk)
end Lot
/-! TxH: alike blocks (rows in another lawful order, other names, even ends turned) have one plain form. -/
namespace Lot
open PySem
def Rw.mv (f : Str → Str) : Rw → Rw
  | .num x n => .num (f x) n
  | .op w x y z => .op w (f x) (f y) (f z)
  | .read x c => .read (f x) c
  | .write c y => .write c (f y)
  | .out y => .out (f y)
def Rw.turn : Rw → Rw
  | .op w x y z => .op w x z y
  | r => r
def Like (f : Str → Str) (r r' : Rw) : Prop := r' = r.mv f ∨ (r.even = true ∧ r' = (r.mv f).turn)
structure Iso (tk : List Str) (rows : List Rw) (tk' : List Str) (rows' : List Rw) (π : Nat → Nat) (φ : Str → Str) : Prop where
  len : rows'.length = rows.length
  lt : ∀ j, j < rows.length → π j < rows.length
  inj : ∀ i j, i < rows.length → j < rows.length → π i = π j → i = j
  sur : ∀ k, k < rows.length → ∃ j, j < rows.length ∧ π j = k
  tks : tk' = tk.map φ
  phi : ∀ u v, u ∈ tk ++ rows.filterMap Rw.mk → v ∈ tk ++ rows.filterMap Rw.mk → φ u = φ v → u = v
  row : ∀ j r, j < rows.length → rows[π j]? = some r → ∃ r', rows'[j]? = some r' ∧ Like φ r r'
  dep : ∀ i j, i < rows.length → j < rows.length → (i ∈ hung rows' j ↔ π i ∈ hung rows (π j))
/-- no two rows that may follow have one key -/
def UQ1 (rows : List Rw) (s : St) : Prop := ∀ j k, j ∈ ripe rows s.dn → k ∈ ripe rows s.dn → (cand rows s.nm j).en = (cand rows s.nm k).en → j = k
def UQ (tk : List Str) (rows : List Rw) : Prop := ∀ n, UQ1 rows (runN rows n (st0 tk))
theorem runN_succ (rows : List Rw) : ∀ (n : Nat) (s : St), nxt rows (runN rows n s) = runN rows (n + 1) s
  | 0, _ => rfl
  | n + 1, s => runN_succ rows n (nxt rows s)
theorem re_en (r : Rw) (a : Str) : (r.re a).en = r.en := by
  cases r with
  | op w x y z => cases w <;> rfl
  | _ => rfl
theorem re_re (r : Rw) (a b : Str) : (r.re a).re b = r.re b := by cases r <;> rfl
theorem re_tl (r : Rw) (a : Str) : (r.re a).tl = r.tl := by cases r <;> rfl
theorem ltT_tri {a b : Str} (h1 : ltT a b = false) (h2 : ltT b a = false) : a = b := by
  unfold ltT at h1 h2
  rw [decide_eq_false_iff_not] at h1 h2
  exact str_of_list (List.le_antisymm (List.not_lt.mp h2) (List.not_lt.mp h1))
theorem ltT_asymm {a b : Str} (h1 : ltT a b = true) (h2 : ltT b a = true) : False := by
  unfold ltT at h1 h2
  rw [decide_eq_true_eq] at h1 h2
  exact List.lt_irrefl _ (List.lt_trans h1 h2)
theorem srt_turn {w : Op4} {x a b : Str} (h : w.even = true) : (Rw.op w x b a).srt = (Rw.op w x a b).srt := by
  unfold Rw.srt
  dsimp only
  rw [h]
  cases h1 : ltT a b with
  | true =>
    cases h2 : ltT b a with
    | true => exact (ltT_asymm h1 h2).elim
    | false => simp
  | false =>
    cases h2 : ltT b a with
    | true => simp
    | false => rw [ltT_tri h1 h2]
theorem srt_re (w : Op4) (x a b u : Str) : (Rw.op w u a b).srt = ((Rw.op w x a b).srt).re u := by
  unfold Rw.srt
  dsimp only
  split <;> rfl
/-- a candidate over there -/
theorem cand_like {f g g' : Str → Str} {r r' : Rw} (h : Like f r r') (hg : ∀ v ∈ r.ends, g' (f v) = g v) : r'.mk = r.mk.map f ∧ (∀ x, r.mk = some x → (r'.ren g').srt = ((r.ren g).srt).re (f x)) ∧ (r.mk = none → (r'.ren g').srt = (r.ren g).srt) := by
  rcases h with rfl | ⟨he, rfl⟩
  · cases r with
    | num x n => exact ⟨rfl, fun u hu => by cases hu; rfl, fun hu => by cases hu⟩
    | op w x y z =>
      refine ⟨rfl, fun u hu => ?_, fun hu => by cases hu⟩
      cases hu
      show (Rw.op w (f x) (g' (f y)) (g' (f z))).srt = ((Rw.op w x (g y) (g z)).srt).re (f x)
      rw [hg y (by simp [Rw.ends]), hg z (by simp [Rw.ends])]
      exact srt_re w x _ _ _
    | read x c => exact ⟨rfl, fun u hu => by cases hu; rfl, fun hu => by cases hu⟩
    | write c y =>
      refine ⟨rfl, fun u hu => (by cases hu), fun _ => ?_⟩
      show (Rw.write c (g' (f y))).srt = (Rw.write c (g y)).srt
      rw [hg y (by simp [Rw.ends])]
    | out y =>
      refine ⟨rfl, fun u hu => (by cases hu), fun _ => ?_⟩
      show (Rw.out (g' (f y))).srt = (Rw.out (g y)).srt
      rw [hg y (by simp [Rw.ends])]
  · cases r with
    | op w x y z =>
      refine ⟨rfl, fun u hu => ?_, fun hu => by cases hu⟩
      cases hu
      show (Rw.op w (f x) (g' (f z)) (g' (f y))).srt = ((Rw.op w x (g y) (g z)).srt).re (f x)
      rw [hg y (by simp [Rw.ends]), hg z (by simp [Rw.ends]), srt_turn (show w.even = true from he)]
      exact srt_re w x _ _ _
    | num x n => exact absurd he (by simp [Rw.even])
    | read x c => exact absurd he (by simp [Rw.even])
    | write c y => exact absurd he (by simp [Rw.even])
    | out y => exact absurd he (by simp [Rw.even])
theorem lookup_map {φ : Str → Str} : ∀ {nm : List (Str × Str)} {v : Str}, (∀ kv ∈ nm, φ kv.1 = φ v → kv.1 = v) → (nm.map fun kv => (φ kv.1, kv.2)).lookup (φ v) = nm.lookup v
  | [], _, _ => rfl
  | kv :: nm, v, h => by
    have ih := lookup_map (φ := φ) (nm := nm) (v := v) fun x hx => h x (List.mem_cons_of_mem _ hx)
    rw [List.map_cons, List.lookup_cons, List.lookup_cons]
    by_cases e : v = kv.1
    · subst e; simp
    · have h1 : (v == kv.1) = false := by simpa using e
      have h2 : (φ v == φ kv.1) = false := by
        have : φ v ≠ φ kv.1 := fun q => e (h kv (List.mem_cons_self ..) q.symm).symm
        simpa using this
      rw [h1, h2]
      exact ih
section
variable {tk tk' : List Str} {rows rows' : List Rw} {π : Nat → Nat} {φ : Str → Str} {s s' : St}
structure SR (rows : List Rw) (π : Nat → Nat) (φ : Str → Str) (s s' : St) : Prop where
  dn : s'.dn.map π = s.dn
  nm : s'.nm = s.nm.map fun kv => (φ kv.1, kv.2)
  fd : s'.fd = s.fd
  lt : ∀ j ∈ s'.dn, j < rows.length
theorem keys_in (K : Ok tk rows s) {kv : Str × Str} (h : kv ∈ s.nm) : kv.1 ∈ tk ++ rows.filterMap Rw.mk := by
  have h1 : kv.1 ∈ s.nm.map (·.1) := List.mem_map.mpr ⟨kv, h, rfl⟩
  rw [K.keys] at h1
  rcases List.mem_append.mp h1 with h1 | h1
  · exact List.mem_append.mpr (.inl h1)
  · obtain ⟨k, _, h2⟩ := List.mem_filterMap.mp h1
    unfold mkAt at h2
    obtain ⟨r, h3, h4⟩ := Option.bind_eq_some_iff.mp h2
    exact List.mem_append.mpr (.inr (List.mem_filterMap.mpr ⟨r, List.mem_of_getElem? h3, h4⟩))
theorem fN_map (I : Iso tk rows tk' rows' π φ) (K : Ok tk rows s) (R : SR rows π φ s s') {v : Str} (hv : v ∈ tk ++ rows.filterMap Rw.mk) : fN s'.nm (φ v) = fN s.nm v := by
  unfold fN
  rw [R.nm, lookup_map fun kv hkv e => I.phi _ _ (keys_in K hkv) hv e]
theorem hung_lt {rows : List Rw} {i j : Nat} (h : i ∈ hung rows j) : i < j := by
  cases e : rows[j]? with
  | none => unfold hung at h; rw [e] at h; cases h
  | some r => exact ((mem_hung e).mp h).1
theorem ripe_map (I : Iso tk rows tk' rows' π φ) (R : SR rows π φ s s') {j : Nat} (hj : j < rows.length) : j ∈ ripe rows' s'.dn ↔ π j ∈ ripe rows s.dn := by
  rw [mem_ripe, mem_ripe, I.len]
  have hin : ∀ i, i < rows.length → (i ∈ s'.dn ↔ π i ∈ s.dn) := fun i hi => by
    rw [← R.dn]
    constructor
    · exact fun h => List.mem_map.mpr ⟨i, h, rfl⟩
    · intro h
      obtain ⟨k, h1, h2⟩ := List.mem_map.mp h
      rw [← I.inj k i (R.lt k h1) hi h2]
      exact h1
  constructor
  · rintro ⟨_, h2, h3⟩
    refine ⟨I.lt j hj, fun q => h2 ((hin j hj).mpr q), fun k hk => ?_⟩
    have hkl : k < rows.length := Nat.lt_trans (hung_lt hk) (I.lt j hj)
    obtain ⟨i, hi, rfl⟩ := I.sur k hkl
    exact (hin i hi).mp (h3 i ((I.dep i j hi hj).mpr hk))
  · rintro ⟨_, h2, h3⟩
    refine ⟨hj, fun q => h2 ((hin j hj).mp q), fun i hi => ?_⟩
    have hil : i < rows.length := Nat.lt_trans (hung_lt hi) hj
    exact (hin i hil).mpr (h3 _ ((I.dep i j hil hj).mp hi))
theorem cand_map (W : WfB tk rows) (I : Iso tk rows tk' rows' π φ) (K : Ok tk rows s) (R : SR rows π φ s s') {j : Nat} (hj : j < rows.length) (hr : π j ∈ ripe rows s.dn) :
    mkAt rows' j = (mkAt rows (π j)).map φ ∧ (∀ x, mkAt rows (π j) = some x → cand rows' s'.nm j = (cand rows s.nm (π j)).re (φ x)) ∧ (mkAt rows (π j) = none → cand rows' s'.nm j = cand rows s.nm (π j)) := by
  have hlt := I.lt j hj
  have e1 : rows[π j]? = some rows[π j] := List.getElem?_eq_getElem hlt
  obtain ⟨r', e2, hl⟩ := I.row j _ hj e1
  have hg : ∀ v ∈ (rows[π j]'(I.lt j hj)).ends, fN s'.nm (φ v) = fN s.nm v := fun v hv => by
    have h1 := known W K hr e1 hv
    obtain ⟨kv, h2, h3⟩ := List.mem_map.mp h1
    exact fN_map I K R (h3 ▸ keys_in K h2)
  obtain ⟨a1, a2, a3⟩ := cand_like hl hg
  unfold mkAt cand
  rw [e1, e2]
  exact ⟨a1, a2, a3⟩
theorem cand_en (W : WfB tk rows) (I : Iso tk rows tk' rows' π φ) (K : Ok tk rows s) (R : SR rows π φ s s') {j : Nat} (hj : j < rows.length) (hr : π j ∈ ripe rows s.dn) :
    (cand rows' s'.nm j).en = (cand rows s.nm (π j)).en ∧ (cand rows' s'.nm j).tl = (cand rows s.nm (π j)).tl := by
  obtain ⟨_, h2, h3⟩ := cand_map W I K R hj hr
  cases h : mkAt rows (π j) with
  | none => rw [h3 h]; exact ⟨rfl, rfl⟩
  | some x => rw [h2 x h]; exact ⟨re_en _ _, re_tl _ _⟩
theorem sr_nxt (W : WfB tk rows) (I : Iso tk rows tk' rows' π φ) (U : UQ1 rows s) (K : Ok tk rows s) (R : SR rows π φ s s') (h : s.dn.length < rows.length) : SR rows π φ (nxt rows s) (nxt rows' s') := by
  obtain ⟨b, ks, e1, e2, e3, _, _⟩ := ok_nxt W K h
  generalize hm : sel rows s.nm b ks = m at *
  have hml : m < rows.length := (mem_ripe.mp e3).1
  obtain ⟨j0, hj0, hj1⟩ := I.sur m hml
  have hj0r : j0 ∈ ripe rows' s'.dn := (ripe_map I R hj0).mpr (by rw [hj1]; exact e3)
  cases hq : ripe rows' s'.dn with
  | nil => rw [hq] at hj0r; cases hj0r
  | cons b' ks' =>
    have en2 : nxt rows' s' = putR rows' s' (sel rows' s'.nm b' ks') := by unfold nxt; rw [hq]
    have hmr : sel rows' s'.nm b' ks' ∈ ripe rows' s'.dn := by rw [hq]; exact sel_mem
    have hrl : ∀ k ∈ ripe rows' s'.dn, k < rows.length := fun k hk => by have := (mem_ripe.mp hk).1; rw [I.len] at this; exact this
    have hfl : ∀ k ∈ b' :: ks', flats (cand rows' s'.nm k).tl = true := fun k hk => by
      rw [← hq] at hk
      have h1 := hrl k hk
      rw [(cand_en W I K R h1 ((ripe_map I R h1).mp hk)).2]
      exact cand_tl W K ((ripe_map I R h1).mp hk)
    have min' := sel_min ks' b' hfl
    have min1 := sel_min (rows := rows) (nm := s.nm) ks b fun k hk => cand_tl W K (by rw [e1]; exact hk)
    rw [hm] at min1
    generalize hm' : sel rows' s'.nm b' ks' = m' at *
    have hml' := hrl m' hmr
    have hpr := (ripe_map I R hml').mp hmr
    have a1 := min1 (π m') (by rw [← e1]; exact hpr)
    have a2 := min' j0 (by rw [← hq]; exact hj0r)
    rw [(cand_en W I K R hml' hpr).1, (cand_en W I K R hj0 (by rw [hj1]; exact e3)).1, hj1] at a2
    have hπ : π m' = m := U _ _ hpr e3 (List.le_antisymm a2 a1)
    obtain ⟨c1, c2, c3⟩ := cand_map W I K R hml' hpr
    rw [hπ] at c1 c2 c3
    rw [e2, en2]
    have ln : s'.nm.length = s.nm.length := by rw [R.nm, List.length_map]
    have dn' : (s'.dn ++ [m']).map π = s.dn ++ [m] := by rw [List.map_append, R.dn]; simp [hπ]
    have lt' : ∀ j ∈ s'.dn ++ [m'], j < rows.length := fun j hj => by
      rcases List.mem_append.mp hj with hj | hj
      · exact R.lt j hj
      · rw [List.mem_singleton] at hj; subst hj; exact hml'
    unfold putR
    rw [c1]
    cases hx : mkAt rows m with
    | none =>
      refine ⟨dn', R.nm, ?_, lt'⟩
      show s'.fd ++ [_] = s.fd ++ [_]
      rw [R.fd, c3 hx]
    | some x =>
      refine ⟨dn', ?_, ?_, lt'⟩
      · show s'.nm ++ [(φ x, letter s'.nm.length)] = (s.nm ++ [(x, letter s.nm.length)]).map _
        rw [List.map_append, ← R.nm, ln]
        rfl
      · show s'.fd ++ [_] = s.fd ++ [_]
        rw [R.fd, c2 x hx, re_re, ln]
theorem sr_run (W : WfB tk rows) (I : Iso tk rows tk' rows' π φ) (U : UQ tk rows) : ∀ (n m : Nat) (s' : St), Ok tk rows (runN rows m (st0 tk)) → SR rows π φ (runN rows m (st0 tk)) s' → (runN rows m (st0 tk)).dn.length + n = rows.length → SR rows π φ (runN rows (m + n) (st0 tk)) (runN rows' n s')
  | 0, m, s', _, R, _ => R
  | n + 1, m, s', K, R, h => by
    obtain ⟨b, ks, _, _, _, K', l'⟩ := ok_nxt W K (by omega)
    have R' := sr_nxt W I (U m) K R (by omega)
    rw [runN_succ] at K' l' R'
    have := sr_run W I U n (m + 1) (nxt rows' s') K' R' (by omega)
    rw [show m + (n + 1) = m + 1 + n by omega]
    exact this
theorem sr_st0 (I : Iso tk rows tk' rows' π φ) : SR rows π φ (st0 tk) (st0 tk') := by
  refine ⟨rfl, ?_, rfl, fun j h => by cases h⟩
  show tk'.zipIdx.map (fun x => (x.1, letter x.2)) = (tk.zipIdx.map fun x => (x.1, letter x.2)).map _
  rw [I.tks, List.zipIdx_map, List.map_map, List.map_map]
  rfl
end
mutual
theorem eqP_refl : ∀ x : P, flat x = true → eqP x x = true
  | .non, _ => rfl
  | .bl a, _ => by simp [eqP]
  | .int a, _ => by simp [eqP]
  | .str a, _ => by simp [eqP]
  | .tup a, h => by simp only [eqP]; unfold flat at h; exact eqPs_refl a h
  | .lst a, h => by simp only [eqP]; unfold flat at h; exact eqPs_refl a h
  | .dic .., h => by simp [flat] at h
  | .set .., h => by simp [flat] at h
  | .ins .., h => by simp [flat] at h
  | .exc .., h => by simp [flat] at h
theorem eqPs_refl : ∀ x : List P, flats x = true → eqPs x x = true
  | [], _ => rfl
  | x :: r, h => by
    simp only [flats, Bool.and_eq_true] at h
    simp only [eqPs]
    rw [eqP_refl x h.1, eqPs_refl r h.2]
    rfl
end
/-- the same worth: of a row at i and one behind it at j -/
def Twin (rows : List Rw) (i j : Nat) : Rw → Rw → Prop
  | .num _ n, .num _ m => n = m
  | .op w _ y z, .op w' _ y' z' => w = w' ∧ ((y = y' ∧ z = z') ∨ (w.even = true ∧ y = z' ∧ z = y'))
  | .read _ c, .read _ c' => c = c' ∧ ∀ k o, i < k → k < j → rows[k]? = some o → ¬ (o.isW = true ∧ o.cell = some c)
  | _, _ => False
/-- rows of unlike worths -/
def Dist (rows : List Rw) : Prop := ∀ i j r o, i < j → rows[i]? = some r → rows[j]? = some o → ¬ Twin rows i j r o
end Lot
namespace Lot
namespace K02
open PySem PySem.Spec PyProof.Rows L2

/-! the text: its core terms -/
def top (i : Nat) : Stmt := PySem.Challenge.pw_codelots_k02_plain_forms.main.body.getD i (.Pass ⟨0, 0, 0, 0⟩)
def sub (i j : Nat) : Stmt := match top i with
  | .ClassDef (body := b) .. => b.getD j (.Pass ⟨0, 0, 0, 0⟩)
  | _ => .Pass ⟨0, 0, 0, 0⟩
def f_made : Fn := ⟨"made", "made", none, ["row"], 1, (.cons (.ret (.ife (.cmp .inn (.ix (.var 0) (.lit (.int 0))) (.gtup "MAKERS" [.str "num", .str "add", .str "less", .str "times", .str "min", .str "read"])) (.ix (.var 0) (.lit (.int 1))) (.lit .non))) .nil)⟩
def f_ends : Fn := ⟨"ends", "ends", none, ["row"], 1, (.cons (.ift (.cmp .inn (.ix (.var 0) (.lit (.int 0))) (.tup (.cons (.lit (.str "num")) (.cons (.lit (.str "read")) .nil)))) (.cons (.ret (.tup .nil)) .nil) .nil) (.cons (.ret (.ife (.cmp .ne (.ix (.var 0) (.lit (.int 0))) (.lit (.str "out"))) (.slice (.var 0) (.lit (.int 2)) .nob) (.slice (.var 0) (.lit (.int 1)) .nob))) .nil))⟩
def f_is_even : Fn := ⟨"is_even", "is_even", none, ["row"], 1, (.cons (.ret (.cmp .inn (.ix (.var 0) (.lit (.int 0))) (.gtup "EVEN" [.str "add", .str "times", .str "min"]))) .nil)⟩
def f_touched : Fn := ⟨"touched", "touched", none, ["row"], 1, (.cons (.ift (.cmp .eq (.ix (.var 0) (.lit (.int 0))) (.lit (.str "read"))) (.cons (.ret (.ix (.var 0) (.lit (.int 2)))) .nil) .nil) (.cons (.ret (.ife (.cmp .eq (.ix (.var 0) (.lit (.int 0))) (.lit (.str "write"))) (.ix (.var 0) (.lit (.int 1))) (.lit .non))) .nil))⟩
def f_with_ends : Fn := ⟨"with_ends", "with_ends", none, ["row", "others"], 2, (.cons (.ret (.bin .add (.slice (.var 0) .nob (.bin .sub (.prim .len (.cons (.var 0) .nil)) (.prim .len (.cons (.call 1 (.cons (.var 0) .nil)) .nil)))) (.var 1))) .nil)⟩
def f_do_clash : Fn := ⟨"do_clash", "do_clash", none, ["row", "other", "cell"], 2, (.cons (.ift (.and (.cons (.cmp .eq (.ix (.var 0) (.lit (.int 0))) (.lit (.str "out"))) (.cons (.cmp .eq (.ix (.var 1) (.lit (.int 0))) (.lit (.str "out"))) .nil))) (.cons (.ret (.lit (.bl true))) .nil) .nil) (.cons (.set 2 (.call 3 (.cons (.var 0) .nil))) (.cons (.ret (.and (.cons (.cmp .isnot (.var 2) (.lit .non)) (.cons (.cmp .eq (.var 2) (.call 3 (.cons (.var 1) .nil))) (.cons (.cmp .inn (.lit (.str "write")) (.tup (.cons (.ix (.var 0) (.lit (.int 0))) (.cons (.ix (.var 1) (.lit (.int 0))) .nil)))) .nil))))) .nil)))⟩
def f_hangs : Fn := ⟨"hangs", "hangs", none, ["rows", "found", "at", "row", "mine", "k", "other"], 1, (.cons (.set 1 (.alloc (.lst .nil))) (.cons (.for (.tp [2, 3]) (.enum (.var 0)) (.cons (.set 4 (.call 1 (.cons (.var 3) .nil))) (.cons (.expr (.bmeth .append (.var 1) (.cons (.prim .tuple (.cons (.comp (.var 5) (.tp [5, 6]) (.enum (.slice (.var 0) .nob (.var 2))) (.cons (.or (.cons (.cmp .inn (.call 0 (.cons (.var 6) .nil)) (.var 4)) (.cons (.call 5 (.cons (.var 3) (.cons (.var 6) .nil))) .nil))) .nil)) .nil)) .nil))) .nil))) (.cons (.ret (.frz (.var 1))) .nil)))⟩
def f_lettered : Fn := ⟨"lettered", "lettered", none, ["row", "letters", "others", "value"], 2, (.cons (.setc 2 (.comp (.ix (.var 1) (.var 3)) (.nm 3) (.seq (.call 1 (.cons (.var 0) .nil))) .nil)) (.cons (.ret (.call 4 (.cons (.var 0) (.cons (.prim .tuple (.cons (.ife (.call 2 (.cons (.var 0) .nil)) (.prim .sorted (.cons (.var 2) .nil)) (.var 2)) .nil)) .nil)))) .nil))⟩
def f_key_of : Fn := ⟨"key_of", "key_of", none, ["row"], 1, (.cons (.ret (.tup (.cons (.gidx "WORDS" [.str "num", .str "add", .str "less", .str "times", .str "min", .str "read", .str "write", .str "out"] (.ix (.var 0) (.lit (.int 0)))) (.cons (.ife (.cmp .is (.call 0 (.cons (.var 0) .nil)) (.lit .non)) (.slice (.var 0) (.lit (.int 1)) .nob) (.slice (.var 0) (.lit (.int 2)) .nob)) .nil)))) .nil)⟩
def f_ended : Fn := ⟨"ended", "ended", none, ["finish", "letters", "value", "told", "others"], 2, (.cons (.ift (.cmp .eq (.ix (.var 0) (.lit (.int 0))) (.lit (.str "stop"))) (.cons (.ret (.tup (.cons (.lit (.str "stop")) (.cons (.prim .tuple (.cons (.comp (.ix (.var 1) (.var 2)) (.nm 2) (.seq (.ix (.var 0) (.lit (.int 1)))) .nil) .nil)) .nil)))) .nil) .nil) (.cons (.ift (.cmp .eq (.ix (.var 0) (.lit (.int 0))) (.lit (.str "go"))) (.cons (.ret (.bin .add (.slice (.var 0) .nob (.lit (.int 2))) (.tup (.cons (.prim .tuple (.cons (.comp (.ix (.var 1) (.var 2)) (.nm 2) (.seq (.ix (.var 0) (.lit (.int 2)))) .nil) .nil)) .nil)))) .nil) .nil) (.cons (.set 3 (.prim .tuple (.cons (.comp (.ix (.var 1) (.var 2)) (.nm 2) (.seq (.ix (.var 0) (.lit (.int 3)))) .nil) .nil))) (.cons (.set 4 (.prim .tuple (.cons (.comp (.ix (.var 1) (.var 2)) (.nm 2) (.seq (.ix (.var 0) (.lit (.int 5)))) .nil) .nil))) (.cons (.ret (.tup (.cons (.lit (.str "when")) (.cons (.ix (.var 1) (.ix (.var 0) (.lit (.int 1)))) (.cons (.ix (.var 0) (.lit (.int 2))) (.cons (.var 3) (.cons (.ix (.var 0) (.lit (.int 4))) (.cons (.var 4) .nil)))))))) .nil)))))⟩
def f_walked : Fn := ⟨"walked", "walked", none, ["block", "name", "takes", "rows", "finish", "letters", "at", "value", "hung", "gone", "found", "ready", "row", "key", "one"], 1, (.cons (.unp [1, 2, 3, 4] (.var 0)) (.cons (.set 5 (.dcomp (.var 7) (.ix (.gstr "LETTERS" "abcdefghijklmnopqrstuvwxyz") (.var 6)) false (.tp [6, 7]) (.enum (.var 2)) .nil)) (.cons (.set 8 (.call 6 (.cons (.var 3) .nil))) (.cons (.par [9, 10] (.cons (.alloc (.lst .nil)) (.cons (.alloc (.lst .nil)) .nil))) (.cons (.while (.cmp .lt (.prim .len (.cons (.var 9) .nil)) (.prim .len (.cons (.var 3) .nil))) (.cons (.setc 11 (.comp (.var 6) (.nm 6) (.rng1 (.prim .len (.cons (.var 3) .nil))) (.cons (.and (.cons (.cmp .notin (.var 6) (.var 9)) (.cons (.prim .all (.cons (.comp (.cmp .inn (.var 14) (.var 9)) (.nm 14) (.seq (.ix (.var 8) (.var 6))) .nil) .nil)) .nil))) .nil))) (.cons (.unp [13, 6] (.prim .min (.cons (.comp (.tup (.cons (.call 8 (.cons (.call 7 (.cons (.ix (.var 3) (.var 6)) (.cons (.var 5) .nil))) .nil)) (.cons (.var 6) .nil))) (.nm 6) (.seq (.var 11)) .nil) .nil))) (.cons (.set 12 (.call 7 (.cons (.ix (.var 3) (.var 6)) (.cons (.var 5) .nil)))) (.cons (.ift (.cmp .isnot (.call 0 (.cons (.var 12) .nil)) (.lit .non)) (.cons (.setix (.var 5) (.call 0 (.cons (.var 12) .nil)) (.ix (.gstr "LETTERS" "abcdefghijklmnopqrstuvwxyz") (.prim .len (.cons (.var 5) .nil)))) (.cons (.set 12 (.bin .add (.bin .add (.slice (.var 12) .nob (.lit (.int 1))) (.tup (.cons (.ix (.var 5) (.call 0 (.cons (.var 12) .nil))) .nil))) (.slice (.var 12) (.lit (.int 2)) .nob))) .nil)) .nil) (.cons (.expr (.bmeth .append (.var 9) (.cons (.var 6) .nil))) (.cons (.expr (.bmeth .append (.var 10) (.cons (.var 12) .nil))) .nil))))))) (.cons (.ret (.tup (.cons (.frz (.var 9)) (.cons (.frz (.var 10)) (.cons (.frz (.var 5)) .nil))))) .nil))))))⟩
def f_plain_block : Fn := ⟨"plain_block", "plain_block", none, ["block", "gone", "found", "letters"], 1, (.cons (.unp [1, 2, 3] (.call 10 (.cons (.var 0) .nil))) (.cons (.ret (.tup (.cons (.ix (.var 0) (.lit (.int 0))) (.cons (.prim .tuple (.cons (.slice (.gstr "LETTERS" "abcdefghijklmnopqrstuvwxyz") .nob (.prim .len (.cons (.ix (.var 0) (.lit (.int 1))) .nil))) .nil)) (.cons (.prim .tuple (.cons (.var 2) .nil)) (.cons (.call 9 (.cons (.ix (.var 0) (.lit (.int 3))) (.cons (.var 3) .nil))) .nil)))))) .nil))⟩
def f_plain : Fn := ⟨"plain", "plain", none, ["text", "block"], 1, (.cons (.ret (.prim .tuple (.cons (.comp (.call 11 (.cons (.var 1) .nil)) (.nm 1) (.seq (.var 0)) .nil) .nil))) .nil)⟩
def f_law_open : Fn := ⟨"_law_open", "_law_open", none, ["script", "stock", "k", "cell"], 1, (.cons (.set 1 (.alloc (.prim .list (.cons (.slice (.var 0) .nob (.lit (.int 12))) .nil)))) (.cons (.for (.tp [2, 3]) (.enum (.slice (.var 0) (.lit (.int 12)) (.lit (.int 63)))) (.cons (.setix (.var 1) (.bin .mod (.var 2) (.lit (.int 12))) (.bin .add (.ix (.var 1) (.bin .mod (.var 2) (.lit (.int 12)))) (.var 3))) .nil)) (.cons (.ret (.alloc (.lst (.cons (.frz (.var 1)) (.cons (.lit (.int 0)) (.cons (.lit (.int 0)) .nil)))))) .nil)))⟩
def f_law_spread : Fn := ⟨"_law_spread", "_law_spread", none, ["cell", "k", "primes", "one", "two", "three"], 2, (.cons (.ift (.cmp .ge (.var 0) (.bin .pow (.lit (.int 10)) (.lit (.int 18)))) (.cons (.ret (.var 0)) .nil) .nil) (.cons (.set 2 (.lst (.cons (.lit (.int 2147483629)) (.cons (.lit (.int 2147483587)) (.cons (.lit (.int 2147483579)) (.cons (.lit (.int 2147483563)) (.cons (.lit (.int 2147483549)) (.cons (.lit (.int 2147483543)) (.cons (.lit (.int 2147483497)) (.cons (.lit (.int 2147483489)) .nil)))))))))) (.cons (.set 2 (.bin .add (.var 2) (.lst (.cons (.lit (.int 2147483477)) (.cons (.lit (.int 2147483423)) (.cons (.lit (.int 2147483399)) (.cons (.lit (.int 2147483353)) (.cons (.lit (.int 2147483323)) .nil)))))))) (.cons (.set 3 (.bin .mod (.bin .pow (.bin .add (.bin .add (.bin .mul (.bin .mod (.var 0) (.lit (.int 1000000007))) (.bin .add (.bin .mul (.lit (.int 2)) (.var 1)) (.lit (.int 69069)))) (.bin .mul (.var 1) (.lit (.int 40503)))) (.lit (.int 977))) (.lit (.int 3))) (.ix (.var 2) (.bin .mod (.var 1) (.lit (.int 13)))))) (.cons (.set 4 (.bin .mod (.bin .pow (.bin .add (.bin .add (.bin .mul (.var 3) (.bin .add (.var 1) (.lit (.int 3)))) (.bin .mod (.var 0) (.lit (.int 65537)))) (.lit (.int 5))) (.lit (.int 5))) (.ix (.var 2) (.bin .mod (.bin .add (.var 1) (.lit (.int 5))) (.lit (.int 13)))))) (.cons (.set 5 (.bin .mod (.bin .pow (.bin .add (.bin .add (.var 4) (.bin .mod (.var 3) (.lit (.int 1009)))) (.var 1)) (.lit (.int 3))) (.ix (.var 2) (.bin .mod (.bin .add (.var 1) (.lit (.int 7))) (.lit (.int 13)))))) (.cons (.ret (.bin .add (.bin .mul (.bin .add (.bin .mul (.var 3) (.lit (.int 2147483647))) (.var 4)) (.lit (.int 2147483647))) (.var 5))) .nil)))))))⟩
def f_law_take : Fn := ⟨"_law_take", "_law_take", none, ["pen", "lot", "k", "cell", "found"], 2, (.cons (.ift (.cmp .lt (.ix (.var 0) (.lit (.int 2))) (.var 1)) (.cons (.set 2 (.ix (.var 0) (.lit (.int 1)))) (.cons (.set 3 (.lit (.int 0))) (.cons (.ift (.cmp .lt (.var 2) (.prim .len (.cons (.ix (.var 0) (.lit (.int 0))) .nil))) (.cons (.set 3 (.ix (.ix (.var 0) (.lit (.int 0))) (.var 2))) .nil) (.cons (.ift (.cmp .gt (.prim .len (.cons (.ix (.var 0) (.lit (.int 0))) .nil)) (.lit (.int 0))) (.cons (.set 3 (.bin .mod (.ix (.ix (.var 0) (.lit (.int 0))) (.bin .mod (.bin .add (.bin .mul (.var 2) (.lit (.int 5))) (.lit (.int 3))) (.prim .len (.cons (.ix (.var 0) (.lit (.int 0))) .nil)))) (.bin .add (.bin .pow (.lit (.int 10)) (.lit (.int 17))) (.var 2)))) .nil) .nil) .nil)) (.cons (.setix (.var 0) (.lit (.int 1)) (.bin .add (.var 2) (.lit (.int 1)))) (.cons (.setix (.var 0) (.lit (.int 2)) (.call 14 (.cons (.var 3) (.cons (.var 2) .nil)))) .nil))))) .nil) (.cons (.set 4 (.bin .mod (.ix (.var 0) (.lit (.int 2))) (.var 1))) (.cons (.setix (.var 0) (.lit (.int 2)) (.bin .fdiv (.ix (.var 0) (.lit (.int 2))) (.var 1))) (.cons (.ret (.var 4)) .nil))))⟩
def f_law_one_of : Fn := ⟨"_law_one_of", "_law_one_of", none, ["pen", "some"], 2, (.cons (.ret (.ix (.var 1) (.call 15 (.cons (.var 0) (.cons (.prim .len (.cons (.var 1) .nil)) .nil))))) .nil)⟩
def f_law_same : Fn := ⟨"_law_same", "_law_same", none, ["found", "due", "one", "other"], 2, (.cons (.ift (.or (.cons (.cmp .is (.var 1) (.lit .non)) (.cons (.cmp .is (.var 0) (.lit .non)) .nil))) (.cons (.ret (.and (.cons (.cmp .is (.var 1) (.lit .non)) (.cons (.cmp .is (.var 0) (.lit .non)) .nil)))) .nil) .nil) (.cons (.ift (.or (.cons (.prim (.isi [.tBool]) (.cons (.var 1) .nil)) (.cons (.prim (.isi [.tBool]) (.cons (.var 0) .nil)) .nil))) (.cons (.ret (.and (.cons (.prim (.isi [.tBool]) (.cons (.var 1) .nil)) (.cons (.prim (.isi [.tBool]) (.cons (.var 0) .nil)) (.cons (.cmp .eq (.var 0) (.var 1)) .nil))))) .nil) .nil) (.cons (.ift (.prim (.isi [.tInt, .tStr]) (.cons (.var 1) .nil)) (.cons (.ift (.cmp .ne (.prim (.isi [.tInt]) (.cons (.var 0) .nil)) (.prim (.isi [.tInt]) (.cons (.var 1) .nil))) (.cons (.ret (.lit (.bl false))) .nil) .nil) (.cons (.ret (.and (.cons (.prim (.isi [.tInt, .tStr]) (.cons (.var 0) .nil)) (.cons (.cmp .eq (.var 0) (.var 1)) .nil)))) .nil)) .nil) (.cons (.ift (.or (.cons (.cmp .ne (.prim (.isi [.tTup]) (.cons (.var 1) .nil)) (.prim (.isi [.tTup]) (.cons (.var 0) .nil))) (.cons (.cmp .ne (.prim (.isi [.tLst]) (.cons (.var 1) .nil)) (.prim (.isi [.tLst]) (.cons (.var 0) .nil))) .nil))) (.cons (.ret (.lit (.bl false))) .nil) .nil) (.cons (.ift (.cmp .ne (.prim .len (.cons (.var 0) .nil)) (.prim .len (.cons (.var 1) .nil))) (.cons (.ret (.lit (.bl false))) .nil) .nil) (.cons (.ret (.cmp .notin (.lit (.bl false)) (.comp (.call 17 (.cons (.var 2) (.cons (.var 3) .nil))) (.tp [2, 3]) (.zip (.var 0) (.var 1) false) .nil))) .nil))))))⟩
def f_law_spelt : Fn := ⟨"_law_spelt", "_law_spelt", none, ["pen", "lot", "letters", "stem", "k", "spot", "first"], 2, (.cons (.set 2 (.lit (.str "abcdefghijklmnopqrstuvwxyz"))) (.cons (.set 3 (.bmeth .join (.lit (.str "")) (.cons (.comp (.ix (.var 2) (.call 15 (.cons (.var 0) (.cons (.lit (.int 26)) .nil)))) (.nm 4) (.rng1 (.call 15 (.cons (.var 0) (.cons (.lit (.int 8)) .nil)))) .nil) .nil))) (.cons (.set 5 (.call 15 (.cons (.var 0) (.cons (.bin .add (.prim .len (.cons (.var 3) .nil)) (.lit (.int 1))) .nil)))) (.cons (.set 6 (.call 15 (.cons (.var 0) (.cons (.lit (.int 26)) .nil)))) (.cons (.ift (.cmp .eq (.call 15 (.cons (.var 0) (.cons (.lit (.int 3)) .nil))) (.lit (.int 0))) (.cons (.ret (.comp (.bin .mul (.ix (.var 2) (.bin .mod (.bin .add (.var 6) (.bin .mul (.lit (.int 5)) (.var 4))) (.lit (.int 26)))) (.bin .add (.lit (.int 1)) (.bin .mod (.bin .add (.var 5) (.bin .mul (.lit (.int 3)) (.var 4))) (.lit (.int 8))))) (.nm 4) (.rng1 (.var 1)) .nil)) .nil) .nil) (.cons (.ret (.comp (.bin .add (.bin .add (.slice (.var 3) .nob (.var 5)) (.ix (.var 2) (.bin .mod (.bin .add (.var 6) (.bin .mul (.lit (.int 5)) (.var 4))) (.lit (.int 26))))) (.slice (.var 3) (.var 5) .nob)) (.nm 4) (.rng1 (.var 1)) .nil)) .nil))))))⟩
def f_law_row : Fn := ⟨"_law_row", "_law_row", none, ["pen", "x", "known", "stock", "word", "y"], 4, (.cons (.set 4 (.call 16 (.cons (.var 0) (.cons (.lst (.cons (.lit (.str "num")) (.cons (.lit (.str "add")) (.cons (.lit (.str "less")) (.cons (.lit (.str "times")) (.cons (.lit (.str "min")) (.cons (.lit (.str "read")) (.cons (.lit (.str "write")) (.cons (.lit (.str "out")) (.cons (.lit (.str "add")) (.cons (.lit (.str "less")) .nil))))))))))) .nil)))) (.cons (.ift (.and (.cons (.cmp .eq (.var 2) (.lst .nil)) (.cons (.cmp .ne (.var 4) (.lit (.str "read"))) .nil))) (.cons (.set 4 (.lit (.str "num"))) .nil) .nil) (.cons (.ift (.cmp .eq (.var 4) (.lit (.str "num"))) (.cons (.ret (.tup (.cons (.lit (.str "num")) (.cons (.var 1) (.cons (.call 15 (.cons (.var 0) (.cons (.ix (.lst (.cons (.lit (.int 4)) (.cons (.lit (.int 1000003)) .nil))) (.call 15 (.cons (.var 0) (.cons (.lit (.int 2)) .nil)))) .nil))) .nil))))) .nil) .nil) (.cons (.ift (.cmp .eq (.var 4) (.lit (.str "read"))) (.cons (.ret (.tup (.cons (.lit (.str "read")) (.cons (.var 1) (.cons (.call 16 (.cons (.var 0) (.cons (.var 3) .nil))) .nil))))) .nil) .nil) (.cons (.set 5 (.call 16 (.cons (.var 0) (.cons (.var 2) .nil)))) (.cons (.ift (.cmp .eq (.var 4) (.lit (.str "out"))) (.cons (.ret (.tup (.cons (.lit (.str "out")) (.cons (.var 5) .nil)))) .nil) .nil) (.cons (.ret (.ife (.cmp .eq (.var 4) (.lit (.str "write"))) (.tup (.cons (.lit (.str "write")) (.cons (.call 16 (.cons (.var 0) (.cons (.var 3) .nil))) (.cons (.var 5) .nil)))) (.tup (.cons (.var 4) (.cons (.var 1) (.cons (.var 5) (.cons (.call 16 (.cons (.var 0) (.cons (.var 2) .nil))) .nil))))))) .nil)))))))⟩
def f_law_makes : Fn := ⟨"_law_makes", "_law_makes", none, ["row"], 1, (.cons (.ret (.ife (.cmp .notin (.ix (.var 0) (.lit (.int 0))) (.tup (.cons (.lit (.str "write")) (.cons (.lit (.str "out")) .nil)))) (.ix (.var 0) (.lit (.int 1))) (.lit .non))) .nil)⟩
def f_law_uses : Fn := ⟨"_law_uses", "_law_uses", none, ["row"], 1, (.cons (.ift (.cmp .inn (.ix (.var 0) (.lit (.int 0))) (.tup (.cons (.lit (.str "num")) (.cons (.lit (.str "read")) .nil)))) (.cons (.ret (.tup .nil)) .nil) .nil) (.cons (.ret (.ife (.cmp .eq (.ix (.var 0) (.lit (.int 0))) (.lit (.str "out"))) (.slice (.var 0) (.lit (.int 1)) .nob) (.slice (.var 0) (.lit (.int 2)) .nob))) .nil))⟩
def f_law_worth : Fn := ⟨"_law_worth", "_law_worth", none, ["row", "numbers", "ahead", "one", "two"], 3, (.cons (.ift (.cmp .inn (.ix (.var 0) (.lit (.int 0))) (.tup (.cons (.lit (.str "write")) (.cons (.lit (.str "out")) .nil)))) (.cons (.ret (.tup (.cons (.ix (.var 0) (.lit (.int 0))) (.cons (.prim .len (.cons (.var 2) .nil)) .nil)))) .nil) .nil) (.cons (.ift (.cmp .eq (.ix (.var 0) (.lit (.int 0))) (.lit (.str "num"))) (.cons (.ret (.tup (.cons (.lit (.str "num")) (.cons (.ix (.var 0) (.lit (.int 2))) .nil)))) .nil) .nil) (.cons (.ift (.cmp .eq (.ix (.var 0) (.lit (.int 0))) (.lit (.str "read"))) (.cons (.ret (.tup (.cons (.lit (.str "read")) (.cons (.ix (.var 0) (.lit (.int 2))) (.cons (.prim .len (.cons (.comp (.var 3) (.nm 3) (.seq (.var 2)) (.cons (.cmp .eq (.slice (.var 3) .nob (.lit (.int 2))) (.tup (.cons (.lit (.str "write")) (.cons (.ix (.var 0) (.lit (.int 2))) .nil)))) .nil)) .nil)) .nil))))) .nil) .nil) (.cons (.set 4 (.lst (.cons (.ix (.var 1) (.ix (.var 0) (.lit (.int 2)))) (.cons (.ix (.var 1) (.ix (.var 0) (.lit (.int 3)))) .nil)))) (.cons (.ret (.bin .add (.tup (.cons (.ix (.var 0) (.lit (.int 0))) .nil)) (.prim .tuple (.cons (.ife (.cmp .eq (.ix (.var 0) (.lit (.int 0))) (.lit (.str "less"))) (.var 4) (.prim .sorted (.cons (.var 4) .nil))) .nil)))) .nil)))))⟩
def f_law_rows : Fn := ⟨"_law_rows", "_law_rows", none, ["pen", "given_names", "fresh", "stock", "bound", "rows", "worths_here", "known", "numbers", "k", "name", "row", "worth"], 5, (.cons (.par [5, 6, 7] (.cons (.alloc (.lst .nil)) (.cons (.alloc (.lst .nil)) (.cons (.alloc (.prim .list (.cons (.var 1) .nil))) .nil)))) (.cons (.set 8 (.prim .dict (.cons (.comp (.tup (.cons (.var 10) (.cons (.bin .sub (.bin .sub (.lit (.int 0)) (.lit (.int 1))) (.var 9)) .nil))) (.tp [9, 10]) (.enum (.var 7)) .nil) .nil))) (.cons (.for (.nm 9) (.rng1 (.call 15 (.cons (.var 0) (.cons (.bin .add (.var 4) (.lit (.int 1))) .nil)))) (.cons (.set 11 (.call 19 (.cons (.var 0) (.cons (.ix (.var 2) (.var 9)) (.cons (.var 7) (.cons (.var 3) .nil)))))) (.cons (.set 12 (.call 22 (.cons (.var 11) (.cons (.var 8) (.cons (.var 5) .nil))))) (.cons (.ift (.cmp .notin (.var 12) (.var 6)) (.cons (.expr (.bmeth .append (.var 5) (.cons (.var 11) .nil))) (.cons (.expr (.bmeth .append (.var 6) (.cons (.var 12) .nil))) (.cons (.ift (.cmp .isnot (.call 20 (.cons (.var 11) .nil)) (.lit .non)) (.cons (.expr (.bmeth .append (.var 7) (.cons (.ix (.var 11) (.lit (.int 1))) .nil))) (.cons (.setix (.var 8) (.ix (.var 11) (.lit (.int 1))) (.prim .len (.cons (.var 5) .nil))) .nil)) .nil) .nil))) .nil) .nil)))) (.cons (.ret (.tup (.cons (.prim .tuple (.cons (.var 5) .nil)) (.cons (.frz (.var 7)) .nil)))) .nil))))⟩
def f_law_finish : Fn := ⟨"_law_finish", "_law_finish", none, ["pen", "known", "doors", "ways", "door", "sort", "k", "two", "turn", "name", "size"], 3, (.cons (.setc 3 (.comp (.var 4) (.nm 4) (.seq (.var 2)) (.cons (.or (.cons (.cmp .eq (.ix (.var 4) (.lit (.int 1))) (.lit (.int 0))) (.cons (.cmp .ne (.var 1) (.lst .nil)) .nil))) .nil))) (.cons (.set 5 (.call 15 (.cons (.var 0) (.cons (.lit (.int 4)) .nil)))) (.cons (.ift (.or (.cons (.cmp .eq (.var 3) (.lst .nil)) (.cons (.cmp .eq (.var 5) (.lit (.int 0))) .nil))) (.cons (.ret (.tup (.cons (.lit (.str "stop")) (.cons (.prim .tuple (.cons (.comp (.call 16 (.cons (.var 0) (.cons (.var 1) .nil))) (.nm 6) (.rng1 (.bin .mul (.call 15 (.cons (.var 0) (.cons (.lit (.int 7)) .nil))) (.prim .int (.cons (.cmp .ne (.var 1) (.lst .nil)) .nil)))) .nil) .nil)) .nil)))) .nil) .nil) (.cons (.set 7 (.alloc (.lst .nil))) (.cons (.for (.nm 8) (.rng1 (.lit (.int 2))) (.cons (.unp [9, 10] (.call 16 (.cons (.var 0) (.cons (.var 3) .nil)))) (.cons (.expr (.bmeth .append (.var 7) (.cons (.tup (.cons (.var 9) (.cons (.prim .tuple (.cons (.comp (.call 16 (.cons (.var 0) (.cons (.var 1) .nil))) (.nm 6) (.rng1 (.var 10)) .nil) .nil)) .nil))) .nil))) .nil))) (.cons (.ift (.or (.cons (.cmp .eq (.var 5) (.lit (.int 1))) (.cons (.cmp .eq (.var 1) (.lst .nil)) .nil))) (.cons (.ret (.bin .add (.tup (.cons (.lit (.str "go")) .nil)) (.ix (.var 7) (.lit (.int 0))))) .nil) .nil) (.cons (.ret (.bin .add (.bin .add (.tup (.cons (.lit (.str "when")) (.cons (.call 16 (.cons (.var 0) (.cons (.var 1) .nil))) .nil))) (.ix (.var 7) (.lit (.int 0)))) (.ix (.var 7) (.lit (.int 1))))) .nil)))))))⟩
def f_law_any_text : Fn := ⟨"_law_any_text", "_law_any_text", none, ["pen", "blocks", "takes", "bound", "words", "doors", "word", "stock", "found", "name", "size", "fresh", "rows", "known"], 4, (.cons (.set 4 (.call 18 (.cons (.var 0) (.cons (.bin .add (.lit (.int 1)) (.call 15 (.cons (.var 0) (.cons (.var 1) .nil)))) .nil)))) (.cons (.setc 5 (.comp (.tup (.cons (.var 6) (.cons (.call 15 (.cons (.var 0) (.cons (.bin .add (.var 2) (.lit (.int 1))) .nil))) .nil))) (.nm 6) (.seq (.var 4)) .nil)) (.cons (.set 7 (.call 18 (.cons (.var 0) (.cons (.bin .add (.lit (.int 1)) (.call 15 (.cons (.var 0) (.cons (.lit (.int 3)) .nil)))) .nil)))) (.cons (.set 8 (.alloc (.lst .nil))) (.cons (.for (.tp [9, 10]) (.seq (.var 5)) (.cons (.set 11 (.call 18 (.cons (.var 0) (.cons (.bin .add (.var 10) (.var 3)) .nil)))) (.cons (.unp [12, 13] (.call 23 (.cons (.var 0) (.cons (.slice (.var 11) .nob (.var 10)) (.cons (.slice (.var 11) (.var 10) .nob) (.cons (.var 7) (.cons (.var 3) .nil))))))) (.cons (.expr (.bmeth .append (.var 8) (.cons (.tup (.cons (.var 9) (.cons (.prim .tuple (.cons (.slice (.var 11) .nob (.var 10)) .nil)) (.cons (.var 12) (.cons (.call 24 (.cons (.var 0) (.cons (.var 13) (.cons (.var 5) .nil)))) .nil))))) .nil))) .nil)))) (.cons (.ret (.prim .tuple (.cons (.var 8) .nil))) .nil))))))⟩
def f_law_hung : Fn := ⟨"_law_hung", "_law_hung", none, ["rows", "found", "k", "row", "some", "j", "other", "cell", "twin", "clash"], 1, (.cons (.set 1 (.alloc (.lst .nil))) (.cons (.for (.tp [2, 3]) (.enum (.var 0)) (.cons (.set 4 (.alloc (.lst .nil))) (.cons (.for (.tp [5, 6]) (.enum (.slice (.var 0) .nob (.var 2))) (.cons (.set 7 (.ife (.cmp .eq (.ix (.var 3) (.lit (.int 0))) (.lit (.str "read"))) (.ix (.var 3) (.lit (.int 2))) (.ife (.cmp .eq (.ix (.var 3) (.lit (.int 0))) (.lit (.str "write"))) (.ix (.var 3) (.lit (.int 1))) (.lit .non)))) (.cons (.set 8 (.ife (.cmp .eq (.ix (.var 6) (.lit (.int 0))) (.lit (.str "read"))) (.ix (.var 6) (.lit (.int 2))) (.ife (.cmp .eq (.ix (.var 6) (.lit (.int 0))) (.lit (.str "write"))) (.ix (.var 6) (.lit (.int 1))) (.lit .non)))) (.cons (.set 9 (.and (.cons (.cmp .isnot (.var 7) (.lit .non)) (.cons (.cmp .eq (.var 7) (.var 8)) (.cons (.cmp .inn (.lit (.str "write")) (.tup (.cons (.ix (.var 3) (.lit (.int 0))) (.cons (.ix (.var 6) (.lit (.int 0))) .nil)))) .nil))))) (.cons (.ift (.or (.cons (.var 9) (.cons (.chain .eq .eq (.ix (.var 3) (.lit (.int 0))) (.lit (.str "out")) (.ix (.var 6) (.lit (.int 0)))) (.cons (.cmp .inn (.call 20 (.cons (.var 6) .nil)) (.call 21 (.cons (.var 3) .nil))) .nil)))) (.cons (.expr (.bmeth .append (.var 4) (.cons (.var 5) .nil))) .nil) .nil) .nil))))) (.cons (.expr (.bmeth .append (.var 1) (.cons (.frz (.var 4)) .nil))) .nil)))) (.cons (.ret (.frz (.var 1))) .nil)))⟩
def f_law_ripe : Fn := ⟨"_law_ripe", "_law_ripe", none, ["hung", "done", "k", "j"], 2, (.cons (.ret (.comp (.var 2) (.nm 2) (.rng1 (.prim .len (.cons (.var 0) .nil))) (.cons (.and (.cons (.cmp .notin (.var 2) (.var 1)) (.cons (.cmp .notin (.lit (.bl false)) (.comp (.cmp .inn (.var 3) (.var 1)) (.nm 3) (.seq (.ix (.var 0) (.var 2))) .nil)) .nil))) .nil))) .nil)⟩
def f_law_renamed : Fn := ⟨"_law_renamed", "_law_renamed", none, ["row", "names"], 2, (.cons (.ift (.cmp .eq (.ix (.var 0) (.lit (.int 0))) (.lit (.str "out"))) (.cons (.ret (.tup (.cons (.lit (.str "out")) (.cons (.ix (.var 1) (.ix (.var 0) (.lit (.int 1)))) .nil)))) .nil) .nil) (.cons (.ift (.cmp .eq (.ix (.var 0) (.lit (.int 0))) (.lit (.str "write"))) (.cons (.ret (.bin .add (.slice (.var 0) .nob (.lit (.int 2))) (.tup (.cons (.ix (.var 1) (.ix (.var 0) (.lit (.int 2)))) .nil)))) .nil) .nil) (.cons (.ift (.cmp .inn (.ix (.var 0) (.lit (.int 0))) (.tup (.cons (.lit (.str "num")) (.cons (.lit (.str "read")) .nil)))) (.cons (.ret (.tup (.cons (.ix (.var 0) (.lit (.int 0))) (.cons (.bmeth .get2 (.var 1) (.cons (.ix (.var 0) (.lit (.int 1))) (.cons (.ix (.var 0) (.lit (.int 1))) .nil))) (.cons (.ix (.var 0) (.lit (.int 2))) .nil))))) .nil) .nil) (.cons (.ret (.tup (.cons (.ix (.var 0) (.lit (.int 0))) (.cons (.bmeth .get2 (.var 1) (.cons (.ix (.var 0) (.lit (.int 1))) (.cons (.ix (.var 0) (.lit (.int 1))) .nil))) (.cons (.ix (.var 1) (.ix (.var 0) (.lit (.int 2)))) (.cons (.ix (.var 1) (.ix (.var 0) (.lit (.int 3)))) .nil)))))) .nil))))⟩
def f_law_ended : Fn := ⟨"_law_ended", "_law_ended", none, ["finish", "names", "found", "k", "part", "name"], 2, (.cons (.set 2 (.alloc (.lst .nil))) (.cons (.for (.tp [3, 4]) (.enum (.var 0)) (.cons (.ift (.prim (.isi [.tTup]) (.cons (.var 4) .nil)) (.cons (.set 4 (.prim .tuple (.cons (.comp (.ix (.var 1) (.var 5)) (.nm 5) (.seq (.var 4)) .nil) .nil))) .nil) .nil) (.cons (.expr (.bmeth .append (.var 2) (.cons (.ife (.and (.cons (.cmp .eq (.ix (.var 0) (.lit (.int 0))) (.lit (.str "when"))) (.cons (.cmp .eq (.var 3) (.lit (.int 1))) .nil))) (.ix (.var 1) (.var 4)) (.var 4)) .nil))) .nil))) (.cons (.ret (.prim .tuple (.cons (.var 2) .nil))) .nil)))⟩
def f_law_plain_block : Fn := ⟨"_law_plain_block", "_law_plain_block", none, ["block", "name", "takes", "rows", "finish", "words", "names", "k", "take", "hung", "done", "found", "best", "row", "rank"], 1, (.cons (.unp [1, 2, 3, 4] (.var 0)) (.cons (.set 5 (.lst (.cons (.lit (.str "num")) (.cons (.lit (.str "add")) (.cons (.lit (.str "less")) (.cons (.lit (.str "times")) (.cons (.lit (.str "min")) (.cons (.lit (.str "read")) (.cons (.lit (.str "write")) (.cons (.lit (.str "out")) .nil)))))))))) (.cons (.set 6 (.prim .dict (.cons (.comp (.tup (.cons (.var 8) (.cons (.ix (.lit (.str "abcdef")) (.var 7)) .nil))) (.tp [7, 8]) (.enum (.var 2)) .nil) .nil))) (.cons (.par [9, 10, 11] (.cons (.call 26 (.cons (.var 3) .nil)) (.cons (.alloc (.lst .nil)) (.cons (.alloc (.lst .nil)) .nil)))) (.cons (.while (.cmp .lt (.prim .len (.cons (.var 10) .nil)) (.prim .len (.cons (.var 3) .nil))) (.cons (.set 12 (.lit .non)) (.cons (.for (.nm 7) (.seq (.call 27 (.cons (.var 9) (.cons (.var 10) .nil)))) (.cons (.set 13 (.call 28 (.cons (.ix (.var 3) (.var 7)) (.cons (.var 6) .nil)))) (.cons (.ift (.and (.cons (.cmp .inn (.ix (.var 13) (.lit (.int 0))) (.tup (.cons (.lit (.str "add")) (.cons (.lit (.str "times")) (.cons (.lit (.str "min")) .nil))))) (.cons (.cmp .gt (.ix (.var 13) (.lit (.int 2))) (.ix (.var 13) (.lit (.int 3)))) .nil))) (.cons (.set 13 (.tup (.cons (.ix (.var 13) (.lit (.int 0))) (.cons (.ix (.var 13) (.lit (.int 1))) (.cons (.ix (.var 13) (.lit (.int 3))) (.cons (.ix (.var 13) (.lit (.int 2))) .nil)))))) .nil) .nil) (.cons (.set 14 (.tup (.cons (.bmeth .index (.var 5) (.cons (.ix (.var 13) (.lit (.int 0))) .nil)) (.cons (.ife (.cmp .is (.call 20 (.cons (.var 13) .nil)) (.lit .non)) (.slice (.var 13) (.lit (.int 1)) .nob) (.slice (.var 13) (.lit (.int 2)) .nob)) .nil)))) (.cons (.ift (.or (.cons (.cmp .is (.var 12) (.lit .non)) (.cons (.cmp .lt (.var 14) (.ix (.var 12) (.lit (.int 0)))) .nil))) (.cons (.set 12 (.tup (.cons (.var 14) (.cons (.var 7) (.cons (.var 13) .nil))))) .nil) .nil) .nil))))) (.cons (.unp [14, 7, 13] (.var 12)) (.cons (.ift (.cmp .isnot (.call 20 (.cons (.var 13) .nil)) (.lit .non)) (.cons (.setix (.var 6) (.ix (.ix (.var 3) (.var 7)) (.lit (.int 1))) (.ix (.lit (.str "abcdefghijklmnopqrstuvwxyz")) (.prim .len (.cons (.var 6) .nil)))) (.cons (.set 13 (.bin .add (.tup (.cons (.ix (.var 13) (.lit (.int 0))) (.cons (.ix (.var 6) (.ix (.ix (.var 3) (.var 7)) (.lit (.int 1)))) .nil))) (.slice (.var 13) (.lit (.int 2)) .nob))) .nil)) .nil) (.cons (.expr (.bmeth .append (.var 10) (.cons (.var 7) .nil))) (.cons (.expr (.bmeth .append (.var 11) (.cons (.var 13) .nil))) .nil))))))) (.cons (.ret (.tup (.cons (.var 1) (.cons (.prim .tuple (.cons (.comp (.ix (.var 6) (.var 8)) (.nm 8) (.seq (.var 2)) .nil) .nil)) (.cons (.prim .tuple (.cons (.var 11) .nil)) (.cons (.call 29 (.cons (.var 4) (.cons (.var 6) .nil))) .nil)))))) .nil))))))⟩
def f_law_plain_text : Fn := ⟨"_law_plain_text", "_law_plain_text", none, ["text", "block"], 1, (.cons (.ret (.prim .tuple (.cons (.comp (.call 30 (.cons (.var 1) .nil)) (.nm 1) (.seq (.var 0)) .nil) .nil))) .nil)⟩
def f_law : Fn := ⟨"law", "law", none, ["script", "pen", "turn", "text", "shown", "due", "found"], 1, (.cons (.set 1 (.call 13 (.cons (.var 0) .nil))) (.cons (.for (.nm 2) (.rng1 (.lit (.int 3))) (.cons (.set 3 (.call 25 (.cons (.var 1) (.cons (.lit (.int 5)) (.cons (.lit (.int 6)) (.cons (.ix (.lst (.cons (.lit (.int 9)) (.cons (.lit (.int 9)) (.cons (.lit (.int 14)) .nil)))) (.call 15 (.cons (.var 1) (.cons (.lit (.int 3)) .nil)))) .nil)))))) (.cons (.set 4 (.prim .repr (.cons (.var 3) .nil))) (.cons (.set 5 (.call 31 (.cons (.var 3) .nil))) (.cons (.set 6 (.call 12 (.cons (.var 3) .nil))) (.cons (.ift (.or (.cons (.not (.call 17 (.cons (.var 6) (.cons (.var 5) .nil)))) (.cons (.not (.call 17 (.cons (.call 12 (.cons (.var 6) .nil)) (.cons (.var 5) .nil)))) (.cons (.cmp .ne (.prim .repr (.cons (.var 3) .nil)) (.var 4)) .nil)))) (.cons (.ret (.lit (.bl false))) .nil) .nil) .nil)))))) (.cons (.ret (.lit (.bl true))) .nil)))⟩
def xcs : List Xc := []
def prog : Pg := ⟨[f_made, f_ends, f_is_even, f_touched, f_with_ends, f_do_clash, f_hangs, f_lettered, f_key_of, f_ended, f_walked, f_plain_block, f_plain, f_law_open, f_law_spread, f_law_take, f_law_one_of, f_law_same, f_law_spelt, f_law_row, f_law_makes, f_law_uses, f_law_worth, f_law_rows, f_law_finish, f_law_any_text, f_law_hung, f_law_ripe, f_law_renamed, f_law_ended, f_law_plain_block, f_law_plain_text, f_law], []⟩
def sg : Sg := ⟨prog, ("MAKERS", .tup ["num", "add", "less", "times", "min", "read"]) :: ("EVEN", .tup ["add", "times", "min"]) :: ("len", .blt) :: ("ends", .fn 1) :: ("touched", .fn 3) :: ("enumerate", .blt) :: ("tuple", .blt) :: ("made", .fn 0) :: ("do_clash", .fn 5) :: ("with_ends", .fn 4) :: ("is_even", .fn 2) :: ("sorted", .blt) :: ("WORDS", .tup ["num", "add", "less", "times", "min", "read", "write", "out"]) :: ("LETTERS", .str "abcdefghijklmnopqrstuvwxyz") :: ("hangs", .fn 6) :: ("range", .blt) :: ("all", .blt) :: ("min", .blt) :: ("key_of", .fn 8) :: ("lettered", .fn 7) :: ("walked", .fn 10) :: ("ended", .fn 9) :: ("plain_block", .fn 11) :: ("list", .blt) :: ("_law_spread", .fn 14) :: ("_law_take", .fn 15) :: ("isinstance", .blt) :: ("bool", .blt) :: ("int", .blt) :: ("str", .blt) :: ("_law_same", .fn 17) :: ("zip", .blt) :: ("_law_one_of", .fn 16) :: ("dict", .blt) :: ("_law_row", .fn 19) :: ("_law_worth", .fn 22) :: ("_law_makes", .fn 20) :: ("_law_spelt", .fn 18) :: ("_law_rows", .fn 23) :: ("_law_finish", .fn 24) :: ("_law_uses", .fn 21) :: ("_law_hung", .fn 26) :: ("_law_ripe", .fn 27) :: ("_law_renamed", .fn 28) :: ("_law_ended", .fn 29) :: ("_law_plain_block", .fn 30) :: ("_law_open", .fn 13) :: ("_law_any_text", .fn 25) :: ("repr", .blt) :: ("_law_plain_text", .fn 31) :: ("plain", .fn 12) :: [], xcs⟩
def sts : List Stmt := [top 4, top 5, top 6, top 7, top 8, top 9, top 10, top 13, top 14, top 15, top 16, top 17, top 18, top 20, top 21, top 22, top 23, top 24, top 25, top 26, top 27, top 28, top 29, top 30, top 31, top 32, top 33, top 34, top 35, top 36, top 37, top 38, top 39]

abbrev i_made : Nat := 0
abbrev i_ends : Nat := 1
abbrev i_is_even : Nat := 2
abbrev i_touched : Nat := 3
abbrev i_with_ends : Nat := 4
abbrev i_do_clash : Nat := 5
abbrev i_hangs : Nat := 6
abbrev i_lettered : Nat := 7
abbrev i_key_of : Nat := 8
abbrev i_ended : Nat := 9
abbrev i_walked : Nat := 10
abbrev i_plain_block : Nat := 11
abbrev i_plain : Nat := 12
abbrev i_law_open : Nat := 13
abbrev i_law_spread : Nat := 14
abbrev i_law_take : Nat := 15
abbrev i_law_one_of : Nat := 16
abbrev i_law_same : Nat := 17
abbrev i_law_spelt : Nat := 18
abbrev i_law_row : Nat := 19
abbrev i_law_makes : Nat := 20
abbrev i_law_uses : Nat := 21
abbrev i_law_worth : Nat := 22
abbrev i_law_rows : Nat := 23
abbrev i_law_finish : Nat := 24
abbrev i_law_any_text : Nat := 25
abbrev i_law_hung : Nat := 26
abbrev i_law_ripe : Nat := 27
abbrev i_law_renamed : Nat := 28
abbrev i_law_ended : Nat := 29
abbrev i_law_plain_block : Nat := 30
abbrev i_law_plain_text : Nat := 31
abbrev i_law : Nat := 32
theorem ok0 : fnB sg f_made (top 4) = true := by decide +kernel
theorem bd0 : BindP "made" "made" (f_made.names.take 1) (top 4) := fun _ _ _ _ _ _ us hl => match us, hl with | [_], _ => rfl
theorem ok1 : fnB sg f_ends (top 5) = true := by decide +kernel
theorem bd1 : BindP "ends" "ends" (f_ends.names.take 1) (top 5) := fun _ _ _ _ _ _ us hl => match us, hl with | [_], _ => rfl
theorem ok2 : fnB sg f_is_even (top 6) = true := by decide +kernel
theorem bd2 : BindP "is_even" "is_even" (f_is_even.names.take 1) (top 6) := fun _ _ _ _ _ _ us hl => match us, hl with | [_], _ => rfl
theorem ok3 : fnB sg f_touched (top 7) = true := by decide +kernel
theorem bd3 : BindP "touched" "touched" (f_touched.names.take 1) (top 7) := fun _ _ _ _ _ _ us hl => match us, hl with | [_], _ => rfl
theorem ok4 : fnB sg f_with_ends (top 8) = true := by decide +kernel
theorem bd4 : BindP "with_ends" "with_ends" (f_with_ends.names.take 2) (top 8) := fun _ _ _ _ _ _ us hl => match us, hl with | [_, _], _ => rfl
theorem ok5 : fnB sg f_do_clash (top 9) = true := by decide +kernel
theorem bd5 : BindP "do_clash" "do_clash" (f_do_clash.names.take 2) (top 9) := fun _ _ _ _ _ _ us hl => match us, hl with | [_, _], _ => rfl
theorem ok6 : fnB sg f_hangs (top 10) = true := by decide +kernel
theorem bd6 : BindP "hangs" "hangs" (f_hangs.names.take 1) (top 10) := fun _ _ _ _ _ _ us hl => match us, hl with | [_], _ => rfl
theorem ok7 : fnB sg f_lettered (top 13) = true := by decide +kernel
theorem bd7 : BindP "lettered" "lettered" (f_lettered.names.take 2) (top 13) := fun _ _ _ _ _ _ us hl => match us, hl with | [_, _], _ => rfl
theorem ok8 : fnB sg f_key_of (top 14) = true := by decide +kernel
theorem bd8 : BindP "key_of" "key_of" (f_key_of.names.take 1) (top 14) := fun _ _ _ _ _ _ us hl => match us, hl with | [_], _ => rfl
theorem ok9 : fnB sg f_ended (top 15) = true := by decide +kernel
theorem bd9 : BindP "ended" "ended" (f_ended.names.take 2) (top 15) := fun _ _ _ _ _ _ us hl => match us, hl with | [_, _], _ => rfl
theorem ok10 : fnB sg f_walked (top 16) = true := by decide +kernel
theorem bd10 : BindP "walked" "walked" (f_walked.names.take 1) (top 16) := fun _ _ _ _ _ _ us hl => match us, hl with | [_], _ => rfl
theorem ok11 : fnB sg f_plain_block (top 17) = true := by decide +kernel
theorem bd11 : BindP "plain_block" "plain_block" (f_plain_block.names.take 1) (top 17) := fun _ _ _ _ _ _ us hl => match us, hl with | [_], _ => rfl
theorem ok12 : fnB sg f_plain (top 18) = true := by decide +kernel
theorem bd12 : BindP "plain" "plain" (f_plain.names.take 1) (top 18) := fun _ _ _ _ _ _ us hl => match us, hl with | [_], _ => rfl
theorem ok13 : fnB sg f_law_open (top 20) = true := by decide +kernel
theorem bd13 : BindP "_law_open" "_law_open" (f_law_open.names.take 1) (top 20) := fun _ _ _ _ _ _ us hl => match us, hl with | [_], _ => rfl
theorem ok14 : fnB sg f_law_spread (top 21) = true := by decide +kernel
theorem bd14 : BindP "_law_spread" "_law_spread" (f_law_spread.names.take 2) (top 21) := fun _ _ _ _ _ _ us hl => match us, hl with | [_, _], _ => rfl
theorem ok15 : fnB sg f_law_take (top 22) = true := by decide +kernel
theorem bd15 : BindP "_law_take" "_law_take" (f_law_take.names.take 2) (top 22) := fun _ _ _ _ _ _ us hl => match us, hl with | [_, _], _ => rfl
theorem ok16 : fnB sg f_law_one_of (top 23) = true := by decide +kernel
theorem bd16 : BindP "_law_one_of" "_law_one_of" (f_law_one_of.names.take 2) (top 23) := fun _ _ _ _ _ _ us hl => match us, hl with | [_, _], _ => rfl
theorem ok17 : fnB sg f_law_same (top 24) = true := by decide +kernel
theorem bd17 : BindP "_law_same" "_law_same" (f_law_same.names.take 2) (top 24) := fun _ _ _ _ _ _ us hl => match us, hl with | [_, _], _ => rfl
theorem ok18 : fnB sg f_law_spelt (top 25) = true := by decide +kernel
theorem bd18 : BindP "_law_spelt" "_law_spelt" (f_law_spelt.names.take 2) (top 25) := fun _ _ _ _ _ _ us hl => match us, hl with | [_, _], _ => rfl
theorem ok19 : fnB sg f_law_row (top 26) = true := by decide +kernel
theorem bd19 : BindP "_law_row" "_law_row" (f_law_row.names.take 4) (top 26) := fun _ _ _ _ _ _ us hl => match us, hl with | [_, _, _, _], _ => rfl
theorem ok20 : fnB sg f_law_makes (top 27) = true := by decide +kernel
theorem bd20 : BindP "_law_makes" "_law_makes" (f_law_makes.names.take 1) (top 27) := fun _ _ _ _ _ _ us hl => match us, hl with | [_], _ => rfl
theorem ok21 : fnB sg f_law_uses (top 28) = true := by decide +kernel
theorem bd21 : BindP "_law_uses" "_law_uses" (f_law_uses.names.take 1) (top 28) := fun _ _ _ _ _ _ us hl => match us, hl with | [_], _ => rfl
theorem ok22 : fnB sg f_law_worth (top 29) = true := by decide +kernel
theorem bd22 : BindP "_law_worth" "_law_worth" (f_law_worth.names.take 3) (top 29) := fun _ _ _ _ _ _ us hl => match us, hl with | [_, _, _], _ => rfl
theorem ok23 : fnB sg f_law_rows (top 30) = true := by decide +kernel
theorem bd23 : BindP "_law_rows" "_law_rows" (f_law_rows.names.take 5) (top 30) := fun _ _ _ _ _ _ us hl => match us, hl with | [_, _, _, _, _], _ => rfl
theorem ok24 : fnB sg f_law_finish (top 31) = true := by decide +kernel
theorem bd24 : BindP "_law_finish" "_law_finish" (f_law_finish.names.take 3) (top 31) := fun _ _ _ _ _ _ us hl => match us, hl with | [_, _, _], _ => rfl
theorem ok25 : fnB sg f_law_any_text (top 32) = true := by decide +kernel
theorem bd25 : BindP "_law_any_text" "_law_any_text" (f_law_any_text.names.take 4) (top 32) := fun _ _ _ _ _ _ us hl => match us, hl with | [_, _, _, _], _ => rfl
theorem ok26 : fnB sg f_law_hung (top 33) = true := by decide +kernel
theorem bd26 : BindP "_law_hung" "_law_hung" (f_law_hung.names.take 1) (top 33) := fun _ _ _ _ _ _ us hl => match us, hl with | [_], _ => rfl
theorem ok27 : fnB sg f_law_ripe (top 34) = true := by decide +kernel
theorem bd27 : BindP "_law_ripe" "_law_ripe" (f_law_ripe.names.take 2) (top 34) := fun _ _ _ _ _ _ us hl => match us, hl with | [_, _], _ => rfl
theorem ok28 : fnB sg f_law_renamed (top 35) = true := by decide +kernel
theorem bd28 : BindP "_law_renamed" "_law_renamed" (f_law_renamed.names.take 2) (top 35) := fun _ _ _ _ _ _ us hl => match us, hl with | [_, _], _ => rfl
theorem ok29 : fnB sg f_law_ended (top 36) = true := by decide +kernel
theorem bd29 : BindP "_law_ended" "_law_ended" (f_law_ended.names.take 2) (top 36) := fun _ _ _ _ _ _ us hl => match us, hl with | [_, _], _ => rfl
theorem ok30 : fnB sg f_law_plain_block (top 37) = true := by decide +kernel
theorem bd30 : BindP "_law_plain_block" "_law_plain_block" (f_law_plain_block.names.take 1) (top 37) := fun _ _ _ _ _ _ us hl => match us, hl with | [_], _ => rfl
theorem ok31 : fnB sg f_law_plain_text (top 38) = true := by decide +kernel
theorem bd31 : BindP "_law_plain_text" "_law_plain_text" (f_law_plain_text.names.take 1) (top 38) := fun _ _ _ _ _ _ us hl => match us, hl with | [_], _ => rfl
theorem ok32 : fnB sg f_law (top 39) = true := by decide +kernel
theorem bd32 : BindP "law" "law" (f_law.names.take 1) (top 39) := fun _ _ _ _ _ _ us hl => match us, hl with | [_], _ => rfl
def fal : List He.Fa := .glo "law" :: sg.G.map faOf
def fnl : List He.DefD := [defOf f_made (top 4), defOf f_ends (top 5), defOf f_is_even (top 6), defOf f_touched (top 7), defOf f_with_ends (top 8), defOf f_do_clash (top 9), defOf f_hangs (top 10), defOf f_lettered (top 13), defOf f_key_of (top 14), defOf f_ended (top 15), defOf f_walked (top 16), defOf f_plain_block (top 17), defOf f_plain (top 18), defOf f_law_open (top 20), defOf f_law_spread (top 21), defOf f_law_take (top 22), defOf f_law_one_of (top 23), defOf f_law_same (top 24), defOf f_law_spelt (top 25), defOf f_law_row (top 26), defOf f_law_makes (top 27), defOf f_law_uses (top 28), defOf f_law_worth (top 29), defOf f_law_rows (top 30), defOf f_law_finish (top 31), defOf f_law_any_text (top 32), defOf f_law_hung (top 33), defOf f_law_ripe (top 34), defOf f_law_renamed (top 35), defOf f_law_ended (top 36), defOf f_law_plain_block (top 37), defOf f_law_plain_text (top 38), defOf f_law (top 39)]
abbrev R : PySem.W.OpenRow := PySem.W.OpenLaw.row PySem.Challenge.rw_codelots_k02_plain_forms
def ex (K : PySem.W.Frag) : Bool := exB xcs none K && gtB sg.G K
abbrev hk : PySem.W.Hook := hookY 6 fal fnl ex
def ob (s : PySem.W.SharedT) : He.AlD × Bool := obsY 6 fal fnl ex (HandSHeadRun.getT s)
theorem ob_eq (s : PySem.W.SharedT) : ob s = hk.obs s.abs := obsY_eq (HandSHeadRun.getT_eq s)
def loose : List PySem.Str := "WORDS" :: "EVEN" :: "MAKERS" :: "made" :: "ends" :: "is_even" :: "touched" :: "with_ends" :: "do_clash" :: "hangs" :: "LETTERS" :: "lettered" :: "key_of" :: "ended" :: "walked" :: "plain_block" :: "plain" :: "_law_open" :: "_law_spread" :: "_law_take" :: "_law_one_of" :: "_law_same" :: "_law_spelt" :: "_law_row" :: "_law_makes" :: "_law_uses" :: "_law_worth" :: "_law_rows" :: "_law_finish" :: "_law_any_text" :: "_law_hung" :: "_law_ripe" :: "_law_renamed" :: "_law_ended" :: "_law_plain_block" :: "_law_plain_text" :: []
theorem run (w : World) : HandSHeadRun.RunEq R (PySem.W.view R.prog [39]) hk ob 4000 loose w := by
  intro os
  kernel_rfl
end K02
end Lot
namespace Lot
namespace K02
open PySem
variable {d : Nat} {m : Mem}
theorem c_made (r : Rw) : prog.call (d + 1) i_made [.p r.p] m = .ok (.p (optP r.mk)) m := by
  refine call_q (q := f_made) rfl rfl ?_
  cases r with
  | op w x y z => cases w <;> kernel_rfl
  | _ => kernel_rfl
theorem c_ends (r : Rw) : prog.call (d + 1) i_ends [.p r.p] m = .ok (.p (tupS r.ends)) m := by
  refine call_q (q := f_ends) rfl rfl ?_
  cases r with
  | op w x y z => cases w <;> kernel_rfl
  | _ => kernel_rfl
theorem c_even (r : Rw) : prog.call (d + 1) i_is_even [.p r.p] m = .ok (.p (.bl r.even)) m := by
  refine call_q (q := f_is_even) rfl rfl ?_
  cases r with
  | op w x y z => cases w <;> kernel_rfl
  | _ => kernel_rfl
theorem c_touched (r : Rw) : prog.call (d + 1) i_touched [.p r.p] m = .ok (.p (optP r.cell)) m := by
  refine call_q (q := f_touched) rfl rfl ?_
  cases r with
  | op w x y z => cases w <;> kernel_rfl
  | _ => kernel_rfl
theorem c_makes (r : Rw) : prog.call (d + 1) i_law_makes [.p r.p] m = .ok (.p (optP r.mk)) m := by
  refine call_q (q := f_law_makes) rfl rfl ?_
  cases r with
  | op w x y z => cases w <;> kernel_rfl
  | _ => kernel_rfl
theorem c_uses (r : Rw) : prog.call (d + 1) i_law_uses [.p r.p] m = .ok (.p (tupS r.ends)) m := by
  refine call_q (q := f_law_uses) rfl rfl ?_
  cases r with
  | op w x y z => cases w <;> kernel_rfl
  | _ => kernel_rfl
end K02
end Lot
namespace Lot
open PySem
def Rw.pre : Rw → List P
  | .num x n => [.str "num", .str x, .int n]
  | .op w x _ _ => [.str w.s, .str x]
  | .read x c => [.str "read", .str x, .str c]
  | .write c _ => [.str "write", .str c]
  | .out _ => [.str "out"]
def Rw.pl : Rw → List P
  | .num x n => [.str "num", .str x, .int n]
  | .op w x y z => [.str w.s, .str x, .str y, .str z]
  | .read x c => [.str "read", .str x, .str c]
  | .write c y => [.str "write", .str c, .str y]
  | .out y => [.str "out", .str y]
theorem Rw.p_pl (r : Rw) : r.p = .tup r.pl := by cases r <;> rfl
theorem Rw.pre_len (r : Rw) : r.pre.length ≤ 3 := by cases r <;> simp [Rw.pre]
namespace K02
variable {d : Nat} {m : Mem}
theorem c_with_ends (r : Rw) (l : List Str) (hl : l.length ≤ 1000) : prog.call (d + 2) i_with_ends [.p r.p, .p (tupS l)] m = .ok (.p (.tup (r.pre ++ l.map .str))) m := by
  refine call_q (q := f_with_ends) rfl rfl ?_
  refine ss_rt (v_ret (e_bin (op := .add) (p := .tup r.pre) (q := tupS l) (e_slice (l := none) (h := some (r.pl.length - r.ends.length)) (m2 := m) (e_var rfl) rfl (bnd_bin (e_sub (e_len (q := r.p) (n := r.pl.length) (e_var rfl) rfl (by rw [Rw.p_pl]; rfl)) (e_len (q := tupS r.ends) (n := r.ends.length) (e_call (es_one (e_var rfl)) (c_ends r)) rfl (by unfold tupS lenP; simp)))) (by cases r with
    | op w x y z => cases w <;> rfl
    | _ => rfl)) (e_var rfl) rfl rfl ?_))
  show (if r.pre.length + (l.map P.str).length ≤ line then some (P.tup (r.pre ++ l.map P.str)) else none) = _
  rw [if_pos]
  have := r.pre_len
  rw [List.length_map]
  unfold line
  omega
theorem c_clash (r o : Rw) : prog.call (d + 2) i_do_clash [.p r.p, .p o.p] m = .ok (.p (.bl (r.clash o))) m := by
  refine call_q (q := f_do_clash) rfl rfl ?_
  have h0 : ∀ {ρ : Env} {k : Nat} {q : Rw}, (ρ[k]?).bind id = some (.p q.p) → evE (prog.call (d + 1)) prog.mt (.cmp .eq (.ix (.var k) (.lit (.int 0))) (.lit (.str "out"))) ρ m = .ok (.p (.bl q.isOut)) m := fun {ρ k q} h => by
    refine e_cmp (x := .p (match q.pl with | x :: _ => x | [] => .non)) (e_ix (e_var h) (e_lit _) (by cases q <;> rfl)) (e_lit _) ?_
    cases q with
    | op w x y z => cases w <;> kernel_rfl
    | _ => kernel_rfl
  have hc := v_ift (cf := prog.call (d + 1)) (mt := prog.mt) (ρ := [some (.p r.p), some (.p o.p), none]) (m := m) (p := .cons (.ret (.lit (.bl true))) .nil) (q := .nil) (c := .and (.cons (.cmp .eq (.ix (.var 0) (.lit (.int 0))) (.lit (.str "out"))) (.cons (.cmp .eq (.ix (.var 1) (.lit (.int 0))) (.lit (.str "out"))) .nil))) (d := .p (.bl (r.isOut && o.isOut))) (m1 := m) (t := r.isOut && o.isOut) (by
    refine (e_and (h0 (q := r) rfl) rfl).trans ?_
    cases hr : r.isOut with
    | false => rfl
    | true => exact (e_and1).trans ((h0 (q := o) rfl).trans (by rw [Bool.true_and]))) rfl
  by_cases h : (r.isOut && o.isOut) = true
  · rw [h] at hc
    unfold Rw.clash
    rw [h]
    exact ss_rt (hc.trans (ss_rt (v_ret (e_lit _))))
  · have h := Bool.eq_false_iff.mpr h
    rw [h] at hc
    refine (ss_nx (hc.trans rfl)).trans ?_
    refine (ss_nx (v_set (e_call (es_one (e_var rfl)) (c_touched r)))).trans ?_
    unfold Rw.clash clB
    rw [h, Bool.false_or]
    refine ss_rt (v_ret ?_)
    cases hr : r.cell with
    | none =>
      refine (e_and (d := .p (.bl false)) (t := false) (e_cmp (e_var rfl) (e_lit _) ?_) rfl).trans rfl
      rfl
    | some c =>
      refine (e_and (d := .p (.bl true)) (t := true) (e_cmp (e_var rfl) (e_lit _) (by rfl)) rfl).trans ?_
      rw [if_pos rfl]
      have hk : ∀ t : Bool, evE (prog.call (d + 1)) prog.mt (.cmp .eq (.var 2) (.call i_touched (.cons (.var 1) .nil))) [some (.p r.p), some (.p o.p), some (.p (optP (some c)))] m = .ok (.p (.bl (eqP (.str c) (optP o.cell)))) m := fun _ => by
        refine e_cmp (e_var rfl) (e_call (es_one (e_var rfl)) (c_touched o)) ?_
        cases o.cell <;> rfl
      refine (e_and (hk true) rfl).trans ?_
      cases ho : o.cell with
      | none => rfl
      | some c' =>
        have e1 : eqP (.str c) (optP (some c')) = (c == c') := rfl
        rw [e1]
        show _ = Out.ok (D.p (P.bl ((c == c') && (r.isW || o.isW)))) m
        cases hcc : c == c' with
        | false => rfl
        | true =>
          rw [if_pos rfl, e_and1]
          have hw : inP (.str "write") (.tup [match r.pl with | x :: _ => x | [] => .non, match o.pl with | x :: _ => x | [] => .non]) = some (r.isW || o.isW) := by
            cases r <;> first | (cases hr; done) | (cases o <;> first | (cases ho; done) | kernel_rfl)
          rw [Bool.true_and]
          refine e_cmp (e_lit _) (e_tup (ps_cons (p := match r.pl with | x :: _ => x | [] => .non) (e_ix (e_var rfl) (e_lit _) (by cases r <;> rfl)) (ps_cons (p := match o.pl with | x :: _ => x | [] => .non) (e_ix (e_var rfl) (e_lit _) (by cases o <;> rfl)) ps_nil)) (by show 2 ≤ line; decide)) ?_
          exact hw
end K02
end Lot
namespace Lot
open PySem
theorem e_gidx {cf : Nat → List D → Mem → Out D} {mt : Nat → Nat → Option Nat} {ρ : Env} {m m1 m2 : Mem} {e : CE} {x : Str} {l : List P} {y r : D} (he : evE cf mt e ρ m = .ok y m1) (h : gindexO l y m1 = .ok r m2) : evE cf mt (.gidx x l e) ρ m = .ok r m2 := by
  show ((evE cf mt e ρ m).bind fun y m1 => gindexO l y m1) = _
  rw [he]; exact h
def Rw.hd : Rw → P
  | .num _ _ => .str "num"
  | .op w _ _ _ => .str w.s
  | .read _ _ => .str "read"
  | .write _ _ => .str "write"
  | .out _ => .str "out"
theorem Rw.hd_ix (r : Rw) (m : Mem) : ixD (.p r.p) (.p (.int 0)) m = some r.hd := by cases r <;> rfl
/-- what is behind a row's own letters -/
theorem Rw.ren_pre (f : Str → Str) (r : Rw) : (r.ren f).pre = r.pre := by cases r <;> rfl
theorem Rw.ends_len (r : Rw) : r.ends.length ≤ 2 := by cases r <;> simp [Rw.ends]
theorem prim_sorted {l k : List P} {m : Mem} (h : sortP l = some k) : primD .sorted [.p (.lst l)] m = .ok (.p (.lst k)) m := by
  show pureO .sorted [.p (.lst l)] m = _
  unfold pureO
  simp [rds, rd, primP, h]
namespace K02
variable {d : Nat} {m : Mem}
theorem c_key (r : Rw) : prog.call (d + 2) i_key_of [.p r.p] m = .ok (.p r.key) m := by
  refine call_q (q := f_key_of) rfl rfl ?_
  refine ss_rt (v_ret (e_tup (xs := [.int r.idx, .tup r.tl]) (ps_cons (m1 := m) (e_gidx (e_ix (e_var rfl) (e_lit _) (r.hd_ix m)) ?_) (ps_cons (m1 := m) (p := .tup r.tl) ?_ ps_nil)) (by show 2 ≤ line; decide)))
  · cases r with
    | op w x y z => cases w <;> kernel_rfl
    | _ => kernel_rfl
  · refine (e_ife (t := r.mk.isNone) (e_cmp (r := r.mk.isNone) (e_call (es_one (e_var rfl)) (c_made r)) (e_lit _) (by cases r <;> rfl)) rfl).trans ?_
    cases r <;> rfl
theorem c_lettered (r : Rw) (f : Str → Str) (dl : D) (h : ∀ v ∈ r.ends, ixD dl (.p (.str v)) m = some (.str (f v))) : prog.call (d + 3) i_lettered [.p r.p, dl] m = .ok (.p ((r.ren f).srt).p) m := by
  refine call_q (q := f_lettered) rfl rfl ?_
  have hc : evE (prog.call (d + 2)) prog.mt (.comp (.ix (.var 1) (.var 3)) (.nm 3) (.seq (.call i_ends (.cons (.var 0) .nil))) .nil) [some (.p r.p), some dl, none, none] m = .ok (.p (.lst (r.ends.flatMap fun v => [.str (f v)]))) m := by
    refine e_compE (enc := P.str) (L := r.ends) (i_seq (e_call (es_one (e_var rfl)) (c_ends r)) rfl rfl) rfl rfl (fun v hv => ?_) ?_
    · exact st_yes rfl if_nil (e_ix (e_var rfl) (e_var rfl) (h v hv))
    · rw [flatMap_one, List.length_map]
      exact Nat.le_trans r.ends_len (by decide)
  rw [flatMap_one] at hc
  refine (ss_nx (v_setc hc)).trans ?_
  have ht : ∃ l : List Str, evE (prog.call (d + 2)) prog.mt (.prim .tuple (.cons (.ife (.call i_is_even (.cons (.var 0) .nil)) (.prim .sorted (.cons (.var 2) .nil)) (.var 2)) .nil)) [some (.p r.p), some dl, some (.p (.lst (r.ends.map fun a => .str (f a)))), none] m = .ok (.p (tupS l)) m ∧ l.length ≤ 1000 ∧ P.tup (r.pre ++ l.map .str) = ((r.ren f).srt).p := by
    have hi := e_ife (cf := prog.call (d + 2)) (mt := prog.mt) (ρ := [some (.p r.p), some dl, some (.p (.lst (r.ends.map fun a => .str (f a)))), none]) (m := m) (t := r.even) (a := .prim .sorted (.cons (.var 2) .nil)) (b := .var 2) (e_call (f := i_is_even) (es := .cons (.var 0) .nil) (es_one (e_var rfl)) (c_even r)) rfl
    cases he : r.even with
    | false =>
      rw [he, if_neg Bool.false_ne_true] at hi
      refine ⟨r.ends.map f, e_prim (es_one (hi.trans (e_var rfl))) ?_, ?_, ?_⟩
      · show Out.ok _ _ = _
        unfold tupS
        rw [List.map_map]
        rfl
      · cases r <;> simp [Rw.ends]
      · cases r with
        | op w x y z =>
          cases w <;> first | (cases he; done) | rfl
        | _ => rfl
    | true =>
      rw [he, if_pos rfl] at hi
      cases r with
      | op w x y z =>
        have hs := e_prim (cf := prog.call (d + 2)) (mt := prog.mt) (ρ := [some (.p (Rw.op w x y z).p), some dl, some (.p (.lst ((Rw.op w x y z).ends.map fun a => .str (f a)))), none]) (m := m) (p := .sorted) (m2 := m) (r := .p (.lst (if ltT (f z) (f y) then [.str (f z), .str (f y)] else [.str (f y), .str (f z)]))) (es_one (e := .var 2) (e_var rfl)) (prim_sorted (sort2 (f y) (f z)))
        refine ⟨if ltT (f z) (f y) then [f z, f y] else [f y, f z], e_prim (es_one (hi.trans hs)) ?_, by split <;> simp, ?_⟩
        · cases ltT (f z) (f y) <;> rfl
        · have hw : w.even = true := he
          simp only [Rw.ren, Rw.srt, hw, Bool.true_and]
          cases ltT (f z) (f y) <;> rfl
      | _ => cases he
  obtain ⟨l, h1, h2, h3⟩ := ht
  refine ss_rt (v_ret (e_call (es_two (e_var rfl) h1) ?_))
  rw [← h3]
  exact c_with_ends r l h2
end K02
end Lot
namespace Lot
open PySem
def natP (l : List Nat) : List P := l.map fun (k : Nat) => P.int k
theorem depsOf_len (r : Rw) : ∀ (L : List Rw) (k : Nat), (depsOf r k L).length ≤ L.length
  | [], _ => Nat.le_refl _
  | o :: L, k => by
    have := depsOf_len r L (k + 1)
    unfold depsOf
    split <;> simp <;> omega
theorem flatI_deps (r : Rw) : ∀ (L : List Rw) (k : Nat), flatI (fun (k : Nat) (o : Rw) => if r.dep o then [P.int k] else []) k L = natP (depsOf r k L)
  | [], _ => rfl
  | o :: L, k => by
    unfold flatI depsOf
    rw [flatI_deps r L (k + 1)]
    split <;> rfl
theorem any_str (x : Str) : ∀ l : List Str, ((l.map P.str).any fun z => eqP z (.str x)) = l.contains x
  | [] => rfl
  | a :: l => by
    rw [List.map_cons, List.any_cons, any_str x l, List.contains_cons]
    have : eqP (.str a) (.str x) = (x == a) := by
      show (a == x) = (x == a)
      rw [Bool.eq_iff_iff]
      simp only [beq_iff_eq]
      exact eq_comm
    rw [this]
theorem all_sc : ∀ l : List Str, (l.map P.str).all sc = true
  | [] => rfl
  | a :: l => by rw [List.map_cons, List.all_cons, all_sc l]; rfl
theorem in_tupS (o : Option Str) (l : List Str) : inP (optP o) (tupS l) = some (hasO l o) := by
  cases o with
  | some x =>
    show (if ((true && (l.map P.str).all sc) || _) = true then some ((l.map P.str).any fun z => eqP z (.str x)) else none) = _
    rw [all_sc, if_pos (by simp), any_str]
    rfl
  | none =>
    show (if ((true && (l.map P.str).all sc) || _) = true then some ((l.map P.str).any fun z => eqP z .non) else none) = _
    rw [all_sc, if_pos (by simp)]
    have : ∀ l : List Str, ((l.map P.str).any fun z => eqP z .non) = false := fun l => by
      induction l with
      | nil => rfl
      | cons a l ih => rw [List.map_cons, List.any_cons, ih]; rfl
    rw [this]
    rfl
theorem cut_hi {α : Type} {xs : List α} {i : Nat} (h : i ≤ xs.length) : cut xs none (some (i : Int)) = xs.take i := by
  unfold cut
  have e1 : sIx xs.length 0 none = 0 := rfl
  have e2 : sIx xs.length xs.length (some (i : Int)) = i := by
    unfold sIx
    dsimp only
    rw [if_neg (by omega)]
    simp
    omega
  rw [e1, e2]
  simp
def rowsP (rows : List Rw) : P := .tup (rows.map Rw.p)
theorem slice_rows {rows : List Rw} {i : Nat} {m : Mem} (h : i ≤ rows.length) : sliceD (.p (rowsP rows)) none (some (i : Int)) m = some (rowsP (rows.take i)) := by
  show some (P.tup (cut (rows.map Rw.p) none (some (i : Int)))) = _
  rw [cut_hi (by rw [List.length_map]; exact h), ← List.map_take]
  rfl
theorem enumL_get' {l : List P} {i : Nat} {x : P} (h : (enumL 0 l)[i]? = some x) : ∃ y, l[i]? = some y ∧ x = .tup [.int (i : Nat), y] := by
  obtain ⟨y, h1, h2⟩ := enumL_get h
  rw [Nat.zero_add] at h2
  exact ⟨y, h1, h2⟩
namespace K02
variable {d : Nat} {m : Mem}
/-- the hungs so far -/
def hangT (rows : List Rw) (n : Nat) : List P := (List.range n).map fun i => P.tup (natP (hung rows i))
def hangL (rows : List Rw) (n : Nat) : List P := (List.range n).map fun i => P.lst (natP (hung rows i))
theorem c_hangs (rows : List Rw) (hl : rows.length ≤ 100) : prog.call (d + 3) i_hangs [.p (rowsP rows)] m = .ok (.p (.lst (hangT rows rows.length))) m := by
  refine call_l (q := f_hangs) (B := m) (objs := [.dead]) rfl rfl ?_ rfl
  refine (ss_nx (v_set (e_alloc (e_lst ps_nil (Nat.zero_le _))))).trans ?_
  obtain ⟨ρ', m', hf, ⟨a, b, c, e, f, h1, h2⟩⟩ := for_inv (g := stays (.p (rowsP rows), rowsP rows)) (step := fun x ρ m => match bindTg (.tp [2, 3]) x ρ with
    | some ρ1 => evSs (prog.call (d + 2)) prog.mt (.cons (.set 4 (.call i_ends (.cons (.var 3) .nil))) (.cons (.expr (.bmeth .append (.var 1) (.cons (.prim .tuple (.cons (.comp (.var 5) (.tp [5, 6]) (.enum (.slice (.var 0) .nob (.var 2))) (.cons (.or (.cons (.cmp .inn (.call i_made (.cons (.var 6) .nil)) (.var 4)) (.cons (.call i_do_clash (.cons (.var 3) (.cons (.var 6) .nil))) .nil))) .nil)) .nil)) .nil))) .nil)) ρ1 m
    | none => .bad) (fun n ρ M => ∃ a b c e f, ρ = [some (.p (rowsP rows)), some (.ref m.length 0), a, b, c, e, f] ∧ M = m ++ [.val (.lst (hangT rows n))]) (enumL 0 (rows.map Rw.p)) [some (.p (rowsP rows)), some (.ref m.length 0), none, none, none, none, none] (m ++ [.val (.lst [])]) 0 (by
      intro i x ρ M hx ⟨a, b, c, e, f, h1, h2⟩
      rw [Nat.zero_add] at h2
      subst h1; subst h2
      refine ⟨rfl, ?_⟩
      obtain ⟨y, hy, rfl⟩ := enumL_get' hx
      obtain ⟨r, hr, rfl⟩ := List.getElem?_map .. ▸ hy |> Option.map_eq_some_iff.mp
      have hi : i < rows.length := (List.getElem?_eq_some_iff.mp hr).1
      refine ⟨_, _, ?_, some (.p (.int (i : Nat))), some (.p r.p), some (.p (tupS r.ends)), e, f, rfl, rfl⟩
      show evSs _ _ _ [some (.p (rowsP rows)), some (.ref m.length 0), some (.p (.int (i : Nat))), some (.p r.p), c, e, f] _ = _
      refine (ss_nx (v_set (e_call (es_one (e_var rfl)) (c_ends r)))).trans ?_
      have hc : evE (prog.call (d + 2)) prog.mt (.comp (.var 5) (.tp [5, 6]) (.enum (.slice (.var 0) .nob (.var 2))) (.cons (.or (.cons (.cmp .inn (.call i_made (.cons (.var 6) .nil)) (.var 4)) (.cons (.call i_do_clash (.cons (.var 3) (.cons (.var 6) .nil))) .nil))) .nil)) [some (.p (rowsP rows)), some (.ref m.length 0), some (.p (.int (i : Nat))), some (.p r.p), some (.p (tupS r.ends)), e, f] (m ++ [.val (.lst (hangT rows i))]) = .ok (.p (.lst (flatI (fun (k : Nat) (o : Rw) => if r.dep o then [P.int k] else []) 0 (rows.take i)))) (m ++ [.val (.lst (hangT rows i))]) := by
        refine e_compI (enc := Rw.p) (L := rows.take i) (i_enum (q := rowsP (rows.take i)) (e_slice (e_var rfl) rfl (bnd_var (e_var rfl)) (slice_rows (by omega))) (.inr rfl) rfl) rfl rfl (fun k o hk => ?_) ?_
        · have ho : evE (prog.call (d + 2)) prog.mt (.or (.cons (.cmp .inn (.call i_made (.cons (.var 6) .nil)) (.var 4)) (.cons (.call i_do_clash (.cons (.var 3) (.cons (.var 6) .nil))) .nil))) [some (.p (rowsP rows)), some (.ref m.length 0), some (.p (.int (i : Nat))), some (.p r.p), some (.p (tupS r.ends)), some (.p (.int (k : Nat))), some (.p o.p)] (m ++ [.val (.lst (hangT rows i))]) = .ok (.p (.bl (r.dep o))) (m ++ [.val (.lst (hangT rows i))]) := by
            refine (e_or (e_cmp (e_call (es_one (e_var rfl)) (c_made o)) (e_var rfl) (show cmpD .inn (.p (optP o.mk)) (.p (tupS r.ends)) _ = some _ from in_tupS o.mk r.ends)) rfl).trans ?_
            unfold Rw.dep
            cases hasO r.ends o.mk with
            | true => rfl
            | false => exact (e_or1).trans (e_call (es_two (e_var rfl) (e_var rfl)) (c_clash r o))
          cases hd : r.dep o with
          | true => rw [hd] at ho; exact st_yes rfl (if_one ho rfl) (e_var rfl)
          | false => rw [hd] at ho; exact st_no rfl (if_one ho rfl)
        · rw [flatI_deps]
          unfold natP
          rw [List.length_map]
          have := depsOf_len r (rows.take i) 0
          rw [List.length_take] at this
          unfold line
          omega
      rw [flatI_deps] at hc
      refine (ss_nx (v_expr (e_bm (e_var rfl) (bmT_loc (i := 0) rfl rfl) (es_one (e_prim (r := .p (.tup (natP (hung rows i)))) (es_one hc) ?_)) (app_loc (i := 0) (objs := [.val (.lst (hangT rows i))]) rfl ?_)))).trans ?_
      · unfold hung
        rw [hr]
        rfl
      · unfold hangT line
        simp
        omega
      · refine (ss_nil).trans ?_
        have e1 : hangT rows (i + 1) = hangT rows i ++ [.tup (natP (hung rows i))] := by
          unfold hangT
          rw [List.range_succ, List.map_append]
          rfl
        rw [Nat.zero_add, e1]
        rfl) (by intro ρ M _; rfl) ⟨none, none, none, none, none, rfl, rfl⟩
  refine (ss_nx (v_for (i_enum (q := rowsP rows) (e_var rfl) (.inr rfl) rfl) hf)).trans ?_
  subst h1; subst h2
  rw [Nat.zero_add, enumL_len, List.length_map]
  refine ss_rt (v_ret ?_)
  refine (e_frz (n := m.length) (l := hangT rows rows.length) (e_var rfl) (getM_loc (i := 0))).trans ?_
  exact congrArg (Out.ok _) (set_loc (i := 0))
end K02
end Lot
/-! TxE: numbers and names as data. -/
namespace Lot
open PySem
theorem any_nat (k : Nat) : ∀ l : List Nat, ((natP l).any fun z => eqP z (.int k)) = l.contains k
  | [] => rfl
  | a :: l => by
    have e : natP (a :: l) = .int a :: natP l := rfl
    rw [e, List.any_cons, any_nat k l, List.contains_cons]
    have : eqP (.int (a : Int)) (.int k) = (k == a) := by
      show ((a : Int) == (k : Int)) = (k == a)
      rw [Bool.eq_iff_iff]
      simp only [beq_iff_eq]
      omega
    rw [this]
theorem sc_nat : ∀ l : List Nat, (natP l).all sc = true
  | [] => rfl
  | a :: l => by
    have e : natP (a :: l) = .int a :: natP l := rfl
    rw [e, List.all_cons, sc_nat l]; rfl
theorem in_nat (k : Nat) (l : List Nat) : inP (.int k) (.lst (natP l)) = some (l.contains k) := by
  show (if ((true && (natP l).all sc) || _) = true then some ((natP l).any fun z => eqP z (.int k)) else none) = _
  rw [sc_nat, if_pos (by simp), any_nat]
theorem asBls_map {α : Type} (f : α → Bool) : ∀ l : List α, asBls (l.map fun a => P.bl (f a)) = some (l.map f)
  | [] => rfl
  | a :: l => by
    rw [List.map_cons]
    unfold asBls
    rw [asBls_map f l]
    rfl
theorem prim_all {α : Type} (f : α → Bool) (l : List α) (m : Mem) : primD .all [.p (.lst (l.map fun a => P.bl (f a)))] m = .ok (.p (.bl (l.all f))) m := by
  show pureO .all [.p (.lst (l.map fun a => P.bl (f a)))] m = _
  unfold pureO
  simp only [rds, rd, primP, asBls_map, Option.map_some, Out.of_some, Out.bind_ok, List.all_map]
  rfl
theorem atI_nat {α : Type} {l : List α} {i : Nat} {x : α} (h : l[i]? = some x) : atI l (i : Int) = some x := by
  have hl := (List.getElem?_eq_some_iff.mp h).1
  obtain ⟨y, h1, _, h2⟩ := atI_of (l := l) (i := (i : Int)) (by omega) (by omega)
  rw [h1, ← h2]
  rw [show ((i : Int)).toNat = i by omega, h]
theorem ixD_lst {l : List P} {i : Nat} {x : P} {m : Mem} (h : l[i]? = some x) : ixD (.p (.lst l)) (.p (.int i)) m = some x := atI_nat h
theorem ixD_tup {l : List P} {i : Nat} {x : P} {m : Mem} (h : l[i]? = some x) : ixD (.p (.tup l)) (.p (.int i)) m = some x := atI_nat h
theorem ixD_rows {rows : List Rw} {i : Nat} {r : Rw} {m : Mem} (h : rows[i]? = some r) : ixD (.p (rowsP rows)) (.p (.int i)) m = some r.p := ixD_tup (by rw [List.getElem?_map, h]; rfl)
theorem ixD_lets {i : Nat} {m : Mem} (h : i < 26) : ixD (.p (.str lets)) (.p (.int i)) m = some (.str (letter i)) := by
  have hl : lets.cps.toList.length = 26 := by decide
  have hg : lets.cps.toList[i]? = some (lets.cps.toList[i]'(by omega)) := List.getElem?_eq_getElem _
  show (if lets.length ≤ line then (atI lets.cps.toList (i : Int)).map fun c => P.str ⟨#[c]⟩ else none) = _
  rw [if_pos (by decide), atI_nat hg]
  unfold letter
  rw [hg]
  rfl
/-- names as a dict's items -/
def encN (nm : List (Str × Str)) : List (Str × P) := nm.map fun kv => (kv.1, .str kv.2)
theorem encN_lookup {x : Str} : ∀ nm : List (Str × Str), (encN nm).lookup x = (nm.lookup x).map P.str
  | [] => rfl
  | (k, v) :: nm => by
    have e : encN ((k, v) :: nm) = (k, .str v) :: encN nm := rfl
    rw [e, List.lookup_cons, List.lookup_cons, encN_lookup nm]
    cases x == k <;> rfl
theorem encN_keys (nm : List (Str × Str)) : (encN nm).map (·.1) = nm.map (·.1) := by
  unfold encN
  rw [List.map_map]
  rfl
theorem encN_len (nm : List (Str × Str)) : (encN nm).length = nm.length := by unfold encN; simp
theorem encN_app (nm : List (Str × Str)) (x v : Str) : encN (nm ++ [(x, v)]) = encN nm ++ [(x, .str v)] := by unfold encN; simp
theorem ren_mk (f : Str → Str) (r : Rw) : ((r.ren f).srt).mk = r.mk := by
  cases r with
  | op w x y z => simp only [Rw.ren, Rw.srt]; split <;> rfl
  | _ => rfl
theorem sl1 (r : Rw) (m : Mem) : sliceD (.p r.p) none (some 1) m = some (.tup [r.hd]) := by cases r <;> rfl
theorem sl2 {r : Rw} {x : Str} (h : r.mk = some x) (m : Mem) : sliceD (.p r.p) (some 2) none m = some (.tup r.tl) := by
  cases r <;> first | (cases h; done) | rfl
theorem re_p {r : Rw} {x : Str} (h : r.mk = some x) (a : Str) : P.tup ((r.hd :: [P.str a]) ++ r.tl) = (r.re a).p := by
  cases r <;> first | (cases h; done) | rfl
theorem add_tup {a b : List P} (h : a.length + b.length ≤ 100) : addP (.tup a) (.tup b) = some (.tup (a ++ b)) := by
  show (if a.length + b.length ≤ line then some (P.tup (a ++ b)) else none) = _
  rw [if_pos (by unfold line; omega)]
theorem tl_len (r : Rw) : r.tl.length ≤ 2 := by cases r <;> simp [Rw.tl]
def F0 : P → List P
  | .tup [.int i, y] => [.tup [y, .str (letter i.toNat)]]
  | _ => []
theorem flat_F0 : ∀ (takes : List Str) (k : Nat), (enumL k (takes.map P.str)).flatMap F0 = dcl (encN ((takes.zipIdx k).map fun (x : Str × Nat) => (x.1, letter x.2)))
  | [], _ => rfl
  | t :: takes, k => by
    rw [List.map_cons]
    show F0 (.tup [.int (k : Nat), .str t]) ++ (enumL (k + 1) (takes.map P.str)).flatMap F0 = _
    rw [flat_F0 takes (k + 1)]
    rfl
end Lot
namespace Lot
open PySem
theorem bind_ok_of {α β : Type} {o : Out α} {a : α} {m : Mem} {f : α → Mem → Out β} (h : o = .ok a m) : o.bind f = f a m := by rw [h]; rfl
theorem deps_app (r : Rw) (o : Rw) : ∀ (L : List Rw) (k : Nat), depsOf r k (L ++ [o]) = depsOf r k L ++ (if r.dep o then [k + L.length] else [])
  | [], k => by
    show (if r.dep o then k :: depsOf r (k + 1) [] else depsOf r (k + 1) []) = _
    simp [depsOf]
  | q :: L, k => by
    rw [List.cons_append]
    unfold depsOf
    rw [deps_app r o L (k + 1), List.length_cons, show k + 1 + L.length = k + (L.length + 1) by omega]
    split <;> rfl
namespace K02
variable {d : Nat} {m : Mem}
def inB : CSs := match f_law_hung.body with
  | .cons _ (.cons (.for _ _ (.cons _ (.cons (.for _ _ b) _))) _) => b
  | _ => .nil
def outB : CSs := match f_law_hung.body with
  | .cons _ (.cons (.for _ _ b) _) => b
  | _ => .nil
theorem cell_ev {cf : Nat → List D → Mem → Out D} {mt : Nat → Nat → Option Nat} (r : Rw) {ρ : Env} {k : Nat} (h : (ρ[k]?).bind id = some (.p r.p)) : evE cf mt (.ife (.cmp .eq (.ix (.var k) (.lit (.int 0))) (.lit (.str "read"))) (.ix (.var k) (.lit (.int 2))) (.ife (.cmp .eq (.ix (.var k) (.lit (.int 0))) (.lit (.str "write"))) (.ix (.var k) (.lit (.int 1))) (.lit .non))) ρ m = .ok (.p (optP r.cell)) m := by
  have h0 : ∀ s : Str, eqP r.hd (.str s) = (match r.hd with | .str z => z == s | _ => false) := fun s => by cases r <;> rfl
  have h1 : ∀ s : Str, evE cf mt (.cmp .eq (.ix (.var k) (.lit (.int 0))) (.lit (.str s))) ρ m = .ok (.p (.bl (eqP r.hd (.str s)))) m := fun s => e_cmp (e_ix (e_var h) (e_lit _) (r.hd_ix m)) (e_lit _) (by cases r <;> rfl)
  refine (e_ife (h1 "read") rfl).trans ?_
  cases r with
  | read x c => exact e_ix (e_var h) (e_lit _) rfl
  | write c y =>
    have e : eqP (Rw.write c y).hd (.str "read") = false := by kernel_rfl
    rw [e, if_neg Bool.false_ne_true]
    refine (e_ife (h1 "write") rfl).trans ?_
    have e : eqP (Rw.write c y).hd (.str "write") = true := by kernel_rfl
    rw [e, if_pos rfl]
    exact e_ix (e_var h) (e_lit _) rfl
  | num x n =>
    have e : eqP (Rw.num x n).hd (.str "read") = false := by kernel_rfl
    rw [e, if_neg Bool.false_ne_true]
    refine (e_ife (h1 "write") rfl).trans ?_
    have e : eqP (Rw.num x n).hd (.str "write") = false := by kernel_rfl
    rw [e, if_neg Bool.false_ne_true]
    rfl
  | out y =>
    have e : eqP (Rw.out y).hd (.str "read") = false := by kernel_rfl
    rw [e, if_neg Bool.false_ne_true]
    refine (e_ife (h1 "write") rfl).trans ?_
    have e : eqP (Rw.out y).hd (.str "write") = false := by kernel_rfl
    rw [e, if_neg Bool.false_ne_true]
    rfl
  | op w x y z =>
    have e : eqP (Rw.op w x y z).hd (.str "read") = false := by cases w <;> kernel_rfl
    rw [e, if_neg Bool.false_ne_true]
    refine (e_ife (h1 "write") rfl).trans ?_
    have e : eqP (Rw.op w x y z).hd (.str "write") = false := by cases w <;> kernel_rfl
    rw [e, if_neg Bool.false_ne_true]
    rfl
theorem hd_out (r : Rw) : eqP r.hd (.str "out") = r.isOut := by
  cases r with
  | op w x y z => cases w <;> kernel_rfl
  | _ => kernel_rfl
theorem hd_out' (r : Rw) : eqP (.str "out") r.hd = r.isOut := by
  cases r with
  | op w x y z => cases w <;> kernel_rfl
  | _ => kernel_rfl
theorem in_w (r o : Rw) (hr : r.cell ≠ none) (ho : o.cell ≠ none) : inP (.str "write") (.tup [r.hd, o.hd]) = some (r.isW || o.isW) := by
  cases r <;> first | (exact absurd rfl hr) | (cases o <;> first | (exact absurd rfl ho) | kernel_rfl)
/-- one turn of the inner loop -/
theorem in_turn (rows : List Rw) (r o : Rw) (i j : Nat) (B objs : Mem) (q : Nat) (l : List P) (hq : objs[q]? = some (.val (.lst l))) (hl : l.length < 1000) (s1 s7 s8 s9 : Option D) :
    evSs (prog.call (d + 1)) prog.mt inB [some (.p (rowsP rows)), s1, some (.p (.int (i : Nat))), some (.p r.p), some (.ref (B.length + q) 0), some (.p (.int (j : Nat))), some (.p o.p), s7, s8, s9] (B ++ objs)
      = .ok (.nx [some (.p (rowsP rows)), s1, some (.p (.int (i : Nat))), some (.p r.p), some (.ref (B.length + q) 0), some (.p (.int (j : Nat))), some (.p o.p), some (.p (optP r.cell)), some (.p (optP o.cell)), some (.p (.bl (clB r o)))]) (B ++ objs.set q (.val (.lst (l ++ if r.dep o then [P.int (j : Nat)] else [])))) := by
  refine (ss_nx (v_set (cell_ev r rfl))).trans ?_
  refine (ss_nx (v_set (cell_ev o rfl))).trans ?_
  have hc : evE (prog.call (d + 1)) prog.mt (.and (.cons (.cmp .isnot (.var 7) (.lit .non)) (.cons (.cmp .eq (.var 7) (.var 8)) (.cons (.cmp .inn (.lit (.str "write")) (.tup (.cons (.ix (.var 3) (.lit (.int 0))) (.cons (.ix (.var 6) (.lit (.int 0))) .nil)))) .nil)))) [some (.p (rowsP rows)), s1, some (.p (.int (i : Nat))), some (.p r.p), some (.ref (B.length + q) 0), some (.p (.int (j : Nat))), some (.p o.p), some (.p (optP r.cell)), some (.p (optP o.cell)), s9] (B ++ objs) = .ok (.p (.bl (clB r o))) (B ++ objs) := by
    unfold clB
    cases hr : r.cell with
    | none => exact (e_and (t := false) (d := .p (.bl false)) (e_cmp (e_var rfl) (e_lit _) rfl) rfl).trans rfl
    | some a =>
      refine (e_and (t := true) (d := .p (.bl true)) (e_cmp (e_var rfl) (e_lit _) rfl) rfl).trans ?_
      rw [if_pos rfl]
      refine (e_and (t := eqP (.str a) (optP o.cell)) (e_cmp (e_var rfl) (e_var rfl) (by cases o.cell <;> rfl)) rfl).trans ?_
      cases ho : o.cell with
      | none => rfl
      | some b =>
        have e1 : eqP (.str a) (optP (some b)) = (a == b) := rfl
        rw [e1]
        show _ = Out.ok (D.p (P.bl ((a == b) && (r.isW || o.isW)))) (B ++ objs)
        cases a == b with
        | false => rfl
        | true =>
          rw [if_pos rfl, Bool.true_and]
          exact (e_and1).trans (e_cmp (e_lit _) (e_tup (ps_cons (e_ix (e_var rfl) (e_lit _) (r.hd_ix _)) (ps_cons (e_ix (e_var rfl) (e_lit _) (o.hd_ix _)) ps_nil)) (by show 2 ≤ line; decide)) (show cmpD .inn (.p (.str "write")) (.p (.tup [r.hd, o.hd])) _ = some _ from in_w r o (by rw [hr]; simp) (by rw [ho]; simp)))
  refine (ss_nx (v_set hc)).trans ?_
  have ho : evE (prog.call (d + 1)) prog.mt (.or (.cons (.var 9) (.cons (.chain .eq .eq (.ix (.var 3) (.lit (.int 0))) (.lit (.str "out")) (.ix (.var 6) (.lit (.int 0)))) (.cons (.cmp .inn (.call i_law_makes (.cons (.var 6) .nil)) (.call i_law_uses (.cons (.var 3) .nil))) .nil)))) [some (.p (rowsP rows)), s1, some (.p (.int (i : Nat))), some (.p r.p), some (.ref (B.length + q) 0), some (.p (.int (j : Nat))), some (.p o.p), some (.p (optP r.cell)), some (.p (optP o.cell)), some (.p (.bl (clB r o)))] (B ++ objs) = .ok (.p (.bl (r.dep o))) (B ++ objs) := by
    have hdep : r.dep o = (clB r o || ((r.isOut && o.isOut) || hasO r.ends o.mk)) := by
      unfold Rw.dep Rw.clash
      cases hasO r.ends o.mk <;> cases (r.isOut && o.isOut) <;> cases clB r o <;> rfl
    rw [hdep]
    refine (e_or (e_var rfl) rfl).trans ?_
    cases clB r o with
    | true => rfl
    | false =>
      rw [if_neg Bool.false_ne_true, Bool.false_or]
      have hch : evE (prog.call (d + 1)) prog.mt (.chain .eq .eq (.ix (.var 3) (.lit (.int 0))) (.lit (.str "out")) (.ix (.var 6) (.lit (.int 0)))) [some (.p (rowsP rows)), s1, some (.p (.int (i : Nat))), some (.p r.p), some (.ref (B.length + q) 0), some (.p (.int (j : Nat))), some (.p o.p), some (.p (optP r.cell)), some (.p (optP o.cell)), some (.p (.bl false))] (B ++ objs) = .ok (.p (.bl (r.isOut && o.isOut))) (B ++ objs) := by
        show ((evE (prog.call (d + 1)) prog.mt (.ix (.var 3) (.lit (.int 0))) _ _).bind fun x m1 => (evE (prog.call (d + 1)) prog.mt (.lit (.str "out")) _ m1).bind fun y m2 => (Out.of (cmpD .eq x y m2) m2).bind fun r m3 => if r then (evE (prog.call (d + 1)) prog.mt (.ix (.var 6) (.lit (.int 0))) _ m3).bind fun z m4 => (Out.of (cmpD .eq y z m4) m4).bind fun r m5 => Out.ok (D.p (P.bl r)) m5 else Out.ok (D.p (P.bl false)) m3) = _
        rw [bind_ok_of (e_ix (e_var rfl) (e_lit _) (r.hd_ix _)), bind_ok_of (e_lit _)]
        have c1 : cmpD .eq (.p r.hd) (.p (.str "out")) (B ++ objs) = some r.isOut := by
          rw [← hd_out]
          cases r <;> rfl
        rw [c1]
        cases r.isOut with
        | false => rfl
        | true =>
          show ((evE (prog.call (d + 1)) prog.mt (.ix (.var 6) (.lit (.int 0))) _ _).bind fun z m4 => (Out.of (cmpD .eq (.p (.str "out")) z m4) m4).bind fun r m5 => Out.ok (D.p (P.bl r)) m5) = _
          rw [bind_ok_of (e_ix (e_var rfl) (e_lit _) (o.hd_ix _))]
          have c2 : cmpD .eq (.p (.str "out")) (.p o.hd) (B ++ objs) = some o.isOut := by
            rw [← hd_out']
            cases o <;> rfl
          rw [c2]
          rfl
      refine (e_or hch rfl).trans ?_
      cases (r.isOut && o.isOut) with
      | true => rfl
      | false =>
        rw [if_neg Bool.false_ne_true, Bool.false_or]
        exact (e_or1).trans (e_cmp (e_call (es_one (e_var rfl)) (c_makes o)) (e_call (es_one (e_var rfl)) (c_uses r)) (show cmpD .inn (.p (optP o.mk)) (.p (tupS r.ends)) _ = some _ from in_tupS o.mk r.ends))
  cases hd : r.dep o with
  | true =>
    rw [hd] at ho
    refine (ss_nx ((v_ift_t ho rfl).trans ((ss_nx (v_expr (e_bm (e_var rfl) (bmT_loc hq rfl) (es_one (e_var rfl)) (app_loc hq (by unfold line; omega))))).trans ss_nil))).trans ?_
    rfl
  | false =>
    rw [hd] at ho
    refine (ss_nx ((v_ift_f ho rfl).trans ss_nil)).trans ?_
    have : objs.set q (.val (.lst (l ++ []))) = objs := by
      rw [List.append_nil]
      exact set_same hq
    simp only [Bool.false_eq_true, if_false]
    rw [this]
    rfl
end K02
end Lot
namespace Lot
open PySem
theorem depsOf_take (r : Rw) {L : List Rw} {j : Nat} {o : Rw} (h : L[j]? = some o) : natP (depsOf r 0 (L.take (j + 1))) = natP (depsOf r 0 (L.take j)) ++ (if r.dep o then [P.int (j : Nat)] else []) := by
  obtain ⟨hj, e⟩ := List.getElem?_eq_some_iff.mp h
  rw [List.take_add_one, h]
  show natP (depsOf r 0 (L.take j ++ [o])) = _
  rw [deps_app, List.length_take]
  have : min j L.length = j := by omega
  rw [this, Nat.zero_add]
  unfold natP
  rw [List.map_append]
  split <;> rfl
namespace K02
variable {d : Nat} {m : Mem}
theorem hangL_succ {rows : List Rw} {i : Nat} {r : Rw} (h : rows[i]? = some r) : hangL rows (i + 1) = hangL rows i ++ [.lst (natP (depsOf r 0 (rows.take i)))] := by
  unfold hangL
  rw [List.range_succ, List.map_append]
  show _ ++ [P.lst (natP (hung rows i))] = _
  unfold hung
  rw [h]
theorem out_turn (rows : List Rw) (hl : rows.length ≤ 100) {i : Nat} {r : Rw} (hr : rows[i]? = some r) (ds : Mem) (s4 s5 s6 s7 s8 s9 : Option D) :
    ∃ ds' t4 t5 t6 t7 t8 t9, evSs (prog.call (d + 1)) prog.mt outB [some (.p (rowsP rows)), some (.ref m.length 0), some (.p (.int (i : Nat))), some (.p r.p), s4, s5, s6, s7, s8, s9] (m ++ (.val (.lst (hangL rows i)) :: ds))
      = .ok (.nx [some (.p (rowsP rows)), some (.ref m.length 0), some (.p (.int (i : Nat))), some (.p r.p), t4, t5, t6, t7, t8, t9]) (m ++ (.val (.lst (hangL rows (i + 1))) :: ds')) := by
  have hi : i < rows.length := (List.getElem?_eq_some_iff.mp hr).1
  let q := ds.length + 1
  let M0 : Mem := m ++ (.val (.lst (hangL rows i)) :: (ds ++ [.val (.lst [])]))
  have z0 : evS (prog.call (d + 1)) prog.mt (.set 4 (.alloc (.lst .nil))) [some (.p (rowsP rows)), some (.ref m.length 0), some (.p (.int (i : Nat))), some (.p r.p), s4, s5, s6, s7, s8, s9] (m ++ (.val (.lst (hangL rows i)) :: ds)) = .ok (.nx [some (.p (rowsP rows)), some (.ref m.length 0), some (.p (.int (i : Nat))), some (.p r.p), some (.ref (m.length + q) 0), s5, s6, s7, s8, s9]) M0 := by
    refine (v_set (e_alloc (e_lst ps_nil (Nat.zero_le _)))).trans ?_
    have e1 : (m ++ (Obj.val (.lst (hangL rows i)) :: ds)).length = m.length + q := by simp [q]
    rw [e1]
    show Out.ok _ ((m ++ (Obj.val (.lst (hangL rows i)) :: ds)) ++ [Obj.val (.lst [])]) = Out.ok _ M0
    rw [List.append_assoc]
    rfl
  obtain ⟨ρ', m', hf, ⟨s5', s6', s7', s8', s9', h1, h2⟩⟩ := for_inv (g := stays (.p (rowsP (rows.take i)), rowsP (rows.take i))) (step := fun x ρ M => match bindTg (.tp [5, 6]) x ρ with
    | some ρ1 => evSs (prog.call (d + 1)) prog.mt inB ρ1 M
    | none => .bad) (fun n ρ M => ∃ s5 s6 s7 s8 s9, ρ = [some (.p (rowsP rows)), some (.ref m.length 0), some (.p (.int (i : Nat))), some (.p r.p), some (.ref (m.length + q) 0), s5, s6, s7, s8, s9] ∧ M = m ++ (.val (.lst (hangL rows i)) :: (ds ++ [.val (.lst (natP (depsOf r 0 ((rows.take i).take n))))])))
    (enumL 0 ((rows.take i).map Rw.p)) [some (.p (rowsP rows)), some (.ref m.length 0), some (.p (.int (i : Nat))), some (.p r.p), some (.ref (m.length + q) 0), s5, s6, s7, s8, s9] M0 0 (by
      intro j x ρ M hx ⟨s5, s6, s7, s8, s9, h1, h2⟩
      rw [Nat.zero_add] at h2
      subst h1; subst h2
      refine ⟨rfl, ?_⟩
      obtain ⟨y, hy, rfl⟩ := enumL_get' hx
      obtain ⟨o, ho, rfl⟩ := List.getElem?_map .. ▸ hy |> Option.map_eq_some_iff.mp
      have hj : j < (rows.take i).length := (List.getElem?_eq_some_iff.mp ho).1
      rw [List.length_take] at hj
      have hq : (Obj.val (.lst (hangL rows i)) :: (ds ++ [Obj.val (.lst (natP (depsOf r 0 ((rows.take i).take j))))]))[q]? = some (.val (.lst (natP (depsOf r 0 ((rows.take i).take j))))) := by
        simp [q]
      have ht := in_turn (d := d) rows r o i j m _ q _ hq (by
        have := depsOf_len r ((rows.take i).take j) 0
        unfold natP
        rw [List.length_map]
        rw [List.length_take, List.length_take] at this
        omega) (some (.ref m.length 0)) s7 s8 s9
      refine ⟨_, _, ht, _, _, _, _, _, rfl, ?_⟩
      rw [Nat.zero_add, ← depsOf_take r ho]
      have e : (Obj.val (.lst (hangL rows i)) :: (ds ++ [Obj.val (.lst (natP (depsOf r 0 ((rows.take i).take j))))])).set q (.val (.lst (natP (depsOf r 0 ((rows.take i).take (j + 1)))))) = Obj.val (.lst (hangL rows i)) :: (ds ++ [Obj.val (.lst (natP (depsOf r 0 ((rows.take i).take (j + 1)))))]) := by
        show (_ :: (ds ++ [_]).set ds.length _) = _
        rw [List.set_append_right _ _ (Nat.le_refl _), Nat.sub_self]
        rfl
      rw [e]) (by intro ρ M _; rfl) ⟨s5, s6, s7, s8, s9, rfl, rfl⟩
  have z1 := v_for (cf := prog.call (d + 1)) (mt := prog.mt) (ρ := [some (.p (rowsP rows)), some (.ref m.length 0), some (.p (.int (i : Nat))), some (.p r.p), some (.ref (m.length + q) 0), s5, s6, s7, s8, s9]) (m := M0) (tg := .tp [5, 6]) (it := .enum (.slice (.var 0) .nob (.var 2))) (body := inB) (i_enum (q := rowsP (rows.take i)) (e_slice (e_var rfl) rfl (bnd_var (e_var rfl)) (slice_rows (by omega))) (.inr rfl) rfl) hf
  subst h1; subst h2
  rw [Nat.zero_add, enumL_len, List.length_map, List.take_length] at z1
  have hq : (Obj.val (.lst (hangL rows i)) :: (ds ++ [Obj.val (.lst (natP (depsOf r 0 (rows.take i))))]))[q]? = some (.val (.lst (natP (depsOf r 0 (rows.take i))))) := by simp [q]
  have z2 : evS (prog.call (d + 1)) prog.mt (.expr (.bmeth .append (.var 1) (.cons (.frz (.var 4)) .nil))) [some (.p (rowsP rows)), some (.ref m.length 0), some (.p (.int (i : Nat))), some (.p r.p), some (.ref (m.length + q) 0), s5', s6', s7', s8', s9'] (m ++ (.val (.lst (hangL rows i)) :: (ds ++ [.val (.lst (natP (depsOf r 0 (rows.take i))))]))) = .ok (.nx [some (.p (rowsP rows)), some (.ref m.length 0), some (.p (.int (i : Nat))), some (.p r.p), some (.ref (m.length + q) 0), s5', s6', s7', s8', s9']) (m ++ (.val (.lst (hangL rows (i + 1))) :: (ds ++ [.dead]))) := by
    refine v_expr (d := .p .non) (e_bm (e_var rfl) (bmT_loc (i := 0) (objs := .val (.lst (hangL rows i)) :: _) rfl rfl) (es_one (e_frz (n := m.length + q) (l := natP (depsOf r 0 (rows.take i))) (e_var rfl) (by rw [getM_loc, hq]; rfl))) ?_)
    rw [set_loc]
    have e : (Obj.val (.lst (hangL rows i)) :: (ds ++ [Obj.val (.lst (natP (depsOf r 0 (rows.take i))))])).set q .dead = Obj.val (.lst (hangL rows i)) :: (ds ++ [Obj.dead]) := by
      show (_ :: (ds ++ [_]).set ds.length _) = _
      rw [List.set_append_right _ _ (Nat.le_refl _), Nat.sub_self]
      rfl
    rw [e]
    refine (app_loc (i := 0) (objs := .val (.lst (hangL rows i)) :: (ds ++ [.dead])) rfl ?_).trans ?_
    · unfold hangL line
      simp
      omega
    · rw [← hangL_succ hr]
      rfl
  exact ⟨ds ++ [.dead], _, _, _, _, _, _, (ss_nx z0).trans ((ss_nx z1).trans ((ss_nx z2).trans ss_nil))⟩
theorem c_hung (rows : List Rw) (hl : rows.length ≤ 100) : prog.call (d + 2) i_law_hung [.p (rowsP rows)] m = .ok (.p (.lst (hangL rows rows.length))) m := by
  obtain ⟨ρ', m', hf, ⟨ds, s2, s3, s4, s5, s6, s7, s8, s9, h1, h2⟩⟩ := for_inv (g := stays (.p (rowsP rows), rowsP rows)) (step := fun x ρ M => match bindTg (.tp [2, 3]) x ρ with
    | some ρ1 => evSs (prog.call (d + 1)) prog.mt outB ρ1 M
    | none => .bad) (fun n ρ M => ∃ ds s2 s3 s4 s5 s6 s7 s8 s9, ρ = [some (.p (rowsP rows)), some (.ref m.length 0), s2, s3, s4, s5, s6, s7, s8, s9] ∧ M = m ++ (.val (.lst (hangL rows n)) :: ds)) (enumL 0 (rows.map Rw.p)) [some (.p (rowsP rows)), some (.ref m.length 0), none, none, none, none, none, none, none, none] (m ++ [.val (.lst [])]) 0 (by
      intro i x ρ M hx ⟨ds, s2, s3, s4, s5, s6, s7, s8, s9, h1, h2⟩
      rw [Nat.zero_add] at h2
      subst h1; subst h2
      refine ⟨rfl, ?_⟩
      obtain ⟨y, hy, rfl⟩ := enumL_get' hx
      obtain ⟨r, hr, rfl⟩ := List.getElem?_map .. ▸ hy |> Option.map_eq_some_iff.mp
      obtain ⟨ds', t4, t5, t6, t7, t8, t9, ht⟩ := out_turn (d := d) (m := m) rows hl hr ds s4 s5 s6 s7 s8 s9
      exact ⟨_, _, ht, ds', _, _, _, _, _, _, _, _, rfl, by rw [Nat.zero_add]⟩) (by intro ρ M _; rfl) ⟨[], none, none, none, none, none, none, none, none, rfl, rfl⟩
  refine call_l (q := f_law_hung) (B := m) (objs := .dead :: ds) rfl rfl ?_ rfl
  refine (ss_nx (v_set (e_alloc (e_lst ps_nil (Nat.zero_le _))))).trans ?_
  refine (ss_nx (v_for (i_enum (q := rowsP rows) (e_var rfl) (.inr rfl) rfl) hf)).trans ?_
  subst h1; subst h2
  rw [Nat.zero_add, enumL_len, List.length_map]
  refine ss_rt (v_ret ?_)
  refine (e_frz (n := m.length) (l := hangL rows rows.length) (e_var rfl) (getM_loc (i := 0))).trans ?_
  exact congrArg (Out.ok _) (set_loc (i := 0))
end K02
end Lot
namespace Lot
open PySem
namespace K02
variable {d : Nat} {m : Mem}
theorem hangT_at {rows : List Rw} {k : Nat} (h : k < rows.length) : (hangT rows rows.length)[k]? = some (.tup (natP (hung rows k))) := by
  unfold hangT
  rw [List.getElem?_map, List.getElem?_range h]
  rfl
theorem hangL_at {rows : List Rw} {k : Nat} (h : k < rows.length) : (hangL rows rows.length)[k]? = some (.lst (natP (hung rows k))) := by
  unfold hangL
  rw [List.getElem?_map, List.getElem?_range h]
  rfl
def wB : CSs := match f_walked.body with
  | .cons _ (.cons _ (.cons _ (.cons _ (.cons (.while _ b) _)))) => b
  | _ => .nil
/-- the memory of walked -/
abbrev wM (m : Mem) (s : St) : Mem := m ++ [.val (.dic false (dcl (encN s.nm))), .val (.lst (natP s.dn)), .val (.lst (s.fd.map Rw.p))]
section
variable {takes : List Str} {rows : List Rw} {s : St} {t0 t1 t2 t4 t6 t7 t11 t12 t13 t14 : Option D}
abbrev wR (rows : List Rw) (m : Mem) (t0 t1 t2 t4 t6 t7 t11 t12 t13 t14 : Option D) : Env := [t0, t1, t2, some (.p (rowsP rows)), t4, some (.ref m.length 0), t6, t7, some (.p (.lst (hangT rows rows.length))), some (.ref (m.length + 1) 0), some (.ref (m.length + 2) 0), t11, t12, t13, t14]
theorem w_ready (hr : rows.length ≤ 14) : evE (prog.call (d + 5)) prog.mt (.comp (.var 6) (.nm 6) (.rng1 (.prim .len (.cons (.var 3) .nil))) (.cons (.and (.cons (.cmp .notin (.var 6) (.var 9)) (.cons (.prim .all (.cons (.comp (.cmp .inn (.var 14) (.var 9)) (.nm 14) (.seq (.ix (.var 8) (.var 6))) .nil) .nil)) .nil))) .nil)) (wR rows m t0 t1 t2 t4 t6 t7 t11 t12 t13 t14) (wM m s) = .ok (.p (.lst (natP (ripe rows s.dn)))) (wM m s) := by
  have hi := i_rng1 (cf := prog.call (d + 5)) (mt := prog.mt) (ρ := wR rows m t0 t1 t2 t4 t6 t7 t11 t12 t13 t14) (m := wM m s) (e_len (a := .var 3) (q := rowsP rows) (n := ((rows.map Rw.p).length : Nat)) (e_var rfl) rfl rfl) (by rw [List.length_map]; omega)
  have e := e_compE (elt := .var 6) (tg := .nm 6) (ifs := .cons (.and (.cons (.cmp .notin (.var 6) (.var 9)) (.cons (.prim .all (.cons (.comp (.cmp .inn (.var 14) (.var 9)) (.nm 14) (.seq (.ix (.var 8) (.var 6))) .nil) .nil)) .nil))) .nil) (enc := fun (k : Nat) => P.int k) (L := List.range rows.length) (f := fun k => if (!s.dn.contains k && (hung rows k).all fun j => s.dn.contains j) then [P.int (k : Nat)] else []) hi (by rw [List.length_map]; exact rngL0 rows.length) rfl (fun k hk => ?_) ?_
  · rw [e, flatMap_if]
    rfl
  · have hk := List.mem_range.mp hk
    have ht : evE (prog.call (d + 5)) prog.mt (.and (.cons (.cmp .notin (.var 6) (.var 9)) (.cons (.prim .all (.cons (.comp (.cmp .inn (.var 14) (.var 9)) (.nm 14) (.seq (.ix (.var 8) (.var 6))) .nil) .nil)) .nil))) (wR rows m t0 t1 t2 t4 (some (.p (.int (k : Nat)))) t7 t11 t12 t13 t14) (wM m s) = .ok (.p (.bl (!s.dn.contains k && (hung rows k).all fun j => s.dn.contains j))) (wM m s) := by
      have hc : cell (wM m s) (m.length + 1) 0 = some (.lst (natP s.dn)) := cell_loc (i := 1) rfl
      refine (e_and (t := !s.dn.contains k) (e_cmp (x := .p (.int (k : Nat))) (y := .ref (m.length + 1) 0) (e_var rfl) (e_var rfl) (by
        unfold cmpD
        rw [show rg (.ref (m.length + 1) 0) (wM m s) = some (.lst (natP s.dn)) from hc]
        show (inP (.int (k : Nat)) (.lst (natP s.dn))).map not = _
        rw [in_nat]
        rfl)) rfl).trans ?_
      cases !s.dn.contains k with
      | false => rfl
      | true =>
        rw [if_pos rfl, Bool.true_and, e_and1]
        have e2 := e_compE (cf := prog.call (d + 5)) (mt := prog.mt) (ρ := wR rows m t0 t1 t2 t4 (some (.p (.int (k : Nat)))) t7 t11 t12 t13 t14) (m := wM m s) (elt := .cmp .inn (.var 14) (.var 9)) (tg := .nm 14) (ifs := .nil) (it := .seq (.ix (.var 8) (.var 6))) (enc := fun (k : Nat) => P.int k) (L := hung rows k) (f := fun j => [P.bl (s.dn.contains j)]) (i_seq (q := .tup (natP (hung rows k))) (e_ix (e_var rfl) (e_var rfl) (ixD_lst (hangT_at hk))) rfl rfl) rfl rfl (fun j hj => ?_) ?_
        · rw [flatMap_one] at e2
          exact e_prim (es_one e2) (prim_all _ _ _)
        · refine st_yes rfl if_nil (e_cmp (x := .p (.int (j : Nat))) (y := .ref (m.length + 1) 0) (e_var rfl) (e_var rfl) ?_)
          unfold cmpD
          rw [show rg (.ref (m.length + 1) 0) (wM m s) = some (.lst (natP s.dn)) from hc]
          exact in_nat j s.dn
        · rw [flatMap_one, List.length_map]
          have := depsOf_len (rows[k]) (rows.take k) 0
          unfold hung
          rw [List.getElem?_eq_getElem hk]
          rw [List.length_take] at this
          show (depsOf rows[k] 0 (rows.take k)).length ≤ line
          unfold line
          omega
    show stp (prog.call (d + 5)) prog.mt _ _ _ _ _ _ = Out.ok (if (!s.dn.contains k && (hung rows k).all fun j => s.dn.contains j) = true then [P.int (k : Nat)] else []) _
    cases hq : (!s.dn.contains k && (hung rows k).all fun j => s.dn.contains j) with
    | true => rw [hq] at ht; exact st_yes rfl (if_one ht rfl) (e_var rfl)
    | false => rw [hq] at ht; exact st_no rfl (if_one ht rfl)
  · rw [flatMap_if, List.length_map]
    have := List.length_filter_le (fun k => !s.dn.contains k && (hung rows k).all fun j => s.dn.contains j) (List.range rows.length)
    rw [List.length_range] at this
    unfold line
    omega
theorem w_lettered (W : WfB takes rows) (K : Ok takes rows s) {k : Nat} (hk : k ∈ ripe rows s.dn) : prog.call (d + 3) i_lettered [.p ((rows[k]?).elim .non Rw.p), .ref m.length 0] (wM m s) = .ok (.p (cand rows s.nm k).p) (wM m s) := by
  have hlt := (mem_ripe.mp hk).1
  have hr := List.getElem?_eq_getElem hlt
  unfold cand
  rw [hr]
  refine c_lettered rows[k] (fN s.nm) (.ref m.length 0) fun v hv => ?_
  have hc : cell (wM m s) m.length 0 = some (.dic false (dcl (encN s.nm))) := cell_loc (i := 0) rfl
  refine ixD_dic hc ?_
  rw [encN_lookup, (fN_ok K (known W K hk hr hv)).1]
  rfl
theorem w_min (W : WfB takes rows) (K : Ok takes rows s) {b : Nat} {ks : List Nat} (hb : ripe rows s.dn = b :: ks) : evE (prog.call (d + 5)) prog.mt (.prim .min (.cons (.comp (.tup (.cons (.call i_key_of (.cons (.call i_lettered (.cons (.ix (.var 3) (.var 6)) (.cons (.var 5) .nil))) .nil)) (.cons (.var 6) .nil))) (.nm 6) (.seq (.var 11)) .nil) .nil)) (wR rows m t0 t1 t2 t4 t6 t7 (some (.p (.lst (natP (ripe rows s.dn))))) t12 t13 t14) (wM m s) = .ok (.p (pk rows s.nm (sel rows s.nm b ks))) (wM m s) := by
  have e := e_compE (cf := prog.call (d + 5)) (mt := prog.mt) (ρ := wR rows m t0 t1 t2 t4 t6 t7 (some (.p (.lst (natP (ripe rows s.dn))))) t12 t13 t14) (m := wM m s) (elt := .tup (.cons (.call i_key_of (.cons (.call i_lettered (.cons (.ix (.var 3) (.var 6)) (.cons (.var 5) .nil))) .nil)) (.cons (.var 6) .nil))) (tg := .nm 6) (it := .seq (.var 11)) (ifs := .nil) (enc := fun (k : Nat) => P.int k) (L := ripe rows s.dn) (f := fun k => [pk rows s.nm k]) (i_seq (q := .lst (natP (ripe rows s.dn))) (e_var rfl) rfl rfl) rfl rfl (fun k hk => ?_) ?_
  · rw [flatMap_one] at e
    refine e_prim (es_one e) ?_
    rw [hb, List.map_cons]
    have hc : ((pk rows s.nm b :: ks.map (pk rows s.nm)).all fun x => isTupP x && (pk rows s.nm b :: ks.map (pk rows s.nm)).all fun y => (ltP x y).isSome) = true := by
      have hm : ∀ x ∈ pk rows s.nm b :: ks.map (pk rows s.nm), ∃ k, x = pk rows s.nm k ∧ k ∈ ripe rows s.dn := fun x hx => by
        rw [← List.map_cons (f := pk rows s.nm), ← hb] at hx
        obtain ⟨k, h1, h2⟩ := List.mem_map.mp hx
        exact ⟨k, h2.symm, h1⟩
      rw [List.all_eq_true]
      intro x hx
      rw [Bool.and_eq_true, List.all_eq_true]
      obtain ⟨k, rfl, hk⟩ := hm x hx
      refine ⟨rfl, fun y hy => ?_⟩
      obtain ⟨j, rfl, hj⟩ := hm y hy
      obtain ⟨t, ht, _⟩ := pk_lt (cand_tl W K hk) (cand_tl W K hj)
      rw [ht]; rfl
    have hp : primP .min [.lst (pk rows s.nm b :: ks.map (pk rows s.nm))] = some (minW (pk rows s.nm b) (ks.map (pk rows s.nm))) := if_pos hc
    have hw : minW (pk rows s.nm b) (ks.map (pk rows s.nm)) = pk rows s.nm (sel rows s.nm b ks) := minW_sel ks b (fun k hk => cand_tl W K (by rw [hb]; exact hk)) (by rw [← hb]; exact ripe_pw rows s.dn)
    rw [hw] at hp
    show pureO .min [.p (.lst (pk rows s.nm b :: ks.map (pk rows s.nm)))] _ = _
    unfold pureO
    simp only [rds, rd, hp, Out.of_some, Out.bind_ok]
  · have hlt := (mem_ripe.mp hk).1
    have hr := List.getElem?_eq_getElem hlt
    have hl := w_lettered (d := d + 2) (m := m) W K hk
    rw [hr] at hl
    exact st_yes rfl if_nil (e_tup (ps_cons (e_call (es_one (e_call (es_two (e_ix (e_var rfl) (e_var rfl) (ixD_rows hr)) (e_var rfl)) hl)) (c_key _)) (ps_cons (e_var rfl) ps_nil)) (by show 2 ≤ line; decide))
  · rw [flatMap_one, List.length_map]
    have := List.length_filter_le (fun k => !s.dn.contains k && (hung rows k).all fun j => s.dn.contains j) (List.range rows.length)
    rw [List.length_range] at this
    have := W.nr
    unfold ripe line
    omega
end
end K02
end Lot
namespace Lot
open PySem
def finS (nm : List (Str × Str)) : List (Str × P) := encN nm
namespace K02
variable {d : Nat} {m : Mem}
section
variable {takes : List Str} {rows : List Rw} {s : St} {t0 t1 t2 t4 t6 t7 t11 t12 t13 t14 : Option D}
theorem bnd_lit (i : Int) {cf : Nat → List D → Mem → Out D} {mt : Nat → Nat → Option Nat} {ρ : Env} : bnd (.lit (.int i)) (evE cf mt (.lit (.int i)) ρ m) = .ok (some i) m := rfl
theorem len_dic {n : Nat} {M : Mem} {l : List (Str × P)} (h : cell M n 0 = some (.dic false (dcl l))) {cf : Nat → List D → Mem → Out D} {mt : Nat → Nat → Option Nat} {ρ : Env} {v : Nat} (hv : (ρ[v]?).bind id = some (.ref n 0)) : evE cf mt (.prim .len (.cons (.var v) .nil)) ρ M = .ok (.p (.int (l.length : Nat))) M := by
  refine e_len (q := .dic false (dcl l)) (e_var hv) h ?_
  show some (((dcl l).length : Nat) : Int) = _
  rw [dcl_len]
theorem w_turn (W : WfB takes rows) (K : Ok takes rows s) (hl : s.dn.length < rows.length) (hf : s.fd.length ≤ 14) :
    ∃ u6 u11 u12 u13, evSs (prog.call (d + 5)) prog.mt wB (wR rows m t0 t1 t2 t4 t6 t7 t11 t12 t13 t14) (wM m s) = .ok (.nx (wR rows m t0 t1 t2 t4 u6 t7 u11 u12 u13 t14)) (wM m (nxt rows s)) := by
  obtain ⟨b, ks, hb, hn, hm, hK, hlen⟩ := ok_nxt W K hl
  generalize hk : sel rows s.nm b ks = k at hn hm
  have hlt := (mem_ripe.mp hm).1
  have hr := List.getElem?_eq_getElem hlt
  have hdl : s.dn.length ≤ 14 := by have := W.nr; omega
  have hnl : s.nm.length ≤ 20 := by have := keys_len K; have := W.nt; omega
  have z0 := v_setc (k := 11) (w_ready (d := d) (m := m) (s := s) (t0 := t0) (t1 := t1) (t2 := t2) (t4 := t4) (t6 := t6) (t7 := t7) (t11 := t11) (t12 := t12) (t13 := t13) (t14 := t14) W.nr)
  have z1 := v_unp (is := [13, 6]) (w_min (d := d) (m := m) (t0 := t0) (t1 := t1) (t2 := t2) (t4 := t4) (t6 := t6) (t7 := t7) (t12 := t12) (t13 := t13) (t14 := t14) W K hb) (xs := [(cand rows s.nm k).key, .int (k : Nat)]) (by rw [hk]; rfl) rfl
  have hlet := w_lettered (d := d + 2) (m := m) W K hm
  rw [hr] at hlet
  generalize hc : cand rows s.nm k = c at hlet z1
  have z2 : evS (prog.call (d + 5)) prog.mt (.set 12 (.call i_lettered (.cons (.ix (.var 3) (.var 6)) (.cons (.var 5) .nil)))) (wR rows m t0 t1 t2 t4 (some (.p (.int (k : Nat)))) t7 (some (.p (.lst (natP (ripe rows s.dn))))) t12 (some (.p c.key)) t14) (wM m s) = .ok (.nx (wR rows m t0 t1 t2 t4 (some (.p (.int (k : Nat)))) t7 (some (.p (.lst (natP (ripe rows s.dn))))) (some (.p c.p)) (some (.p c.key)) t14)) (wM m s) := v_set (e_call (es_two (e_ix (e_var rfl) (e_var rfl) (ixD_rows hr)) (e_var rfl)) hlet)
  have hmk : c.mk = mkAt rows k := by
    rw [← hc]
    unfold cand
    rw [hr, mkAt_some hr]
    exact ren_mk _ _
  have hcd : cell (wM m s) m.length 0 = some (.dic false (dcl (encN s.nm))) := cell_loc (i := 0) rfl
  -- the new row and the names behind it
  have z3 : ∃ c' nm', putR rows s k = ⟨s.dn ++ [k], nm', s.fd ++ [c']⟩ ∧ evS (prog.call (d + 5)) prog.mt (getS 3 wB) (wR rows m t0 t1 t2 t4 (some (.p (.int (k : Nat)))) t7 (some (.p (.lst (natP (ripe rows s.dn))))) (some (.p c.p)) (some (.p c.key)) t14) (wM m s) = .ok (.nx (wR rows m t0 t1 t2 t4 (some (.p (.int (k : Nat)))) t7 (some (.p (.lst (natP (ripe rows s.dn))))) (some (.p c'.p)) (some (.p c.key)) t14)) (wM m ⟨s.dn, nm', s.fd⟩) := by
    unfold putR
    rw [hc]
    have ht : evE (prog.call (d + 5)) prog.mt (.cmp .isnot (.call i_made (.cons (.var 12) .nil)) (.lit .non)) (wR rows m t0 t1 t2 t4 (some (.p (.int (k : Nat)))) t7 (some (.p (.lst (natP (ripe rows s.dn))))) (some (.p c.p)) (some (.p c.key)) t14) (wM m s) = .ok (.p (.bl c.mk.isSome)) (wM m s) := e_cmp (e_call (es_one (e_var rfl)) (c_made c)) (e_lit _) (by cases c.mk <;> rfl)
    rw [hmk] at ht
    cases hx : mkAt rows k with
    | none =>
      rw [hx] at ht
      exact ⟨c, s.nm, rfl, (v_ift_f ht rfl).trans rfl⟩
    | some x =>
      rw [hx] at ht hmk
      refine ⟨c.re (letter s.nm.length), s.nm ++ [(x, letter s.nm.length)], rfl, (v_ift_t ht rfl).trans ?_⟩
      have hmade : ∀ {M : Mem}, evE (prog.call (d + 5)) prog.mt (.call i_made (.cons (.var 12) .nil)) (wR rows m t0 t1 t2 t4 (some (.p (.int (k : Nat)))) t7 (some (.p (.lst (natP (ripe rows s.dn))))) (some (.p c.p)) (some (.p c.key)) t14) M = .ok (.p (.str x)) M := fun {M} => by
        refine (e_call (es_one (e_var rfl)) (c_made c)).trans ?_
        rw [hmk]
        rfl
      have hfr := fresh W K (mem_ripe.mp hm).2.1 hx
      have hlk : (encN s.nm).lookup x = none := lookup_none (by rw [encN_keys]; exact hfr)
      have hs := setix_dic (B := m) (objs := [.val (.dic false (dcl (encN s.nm))), .val (.lst (natP s.dn)), .val (.lst (s.fd.map Rw.p))]) (i := 0) (k := .str x) (v := .str (letter s.nm.length)) rfl rfl (by rw [dcl_len, encN_len]; unfold line; omega)
      rw [put_dcl, putS_new hlk, ← encN_app] at hs
      refine (ss_nx (v_setix (m1 := wM m s) (m2 := wM m s) (m3 := wM m s) (e_ix (y := .p (.int (s.nm.length : Nat))) rfl ((len_dic hcd rfl).trans (by rw [encN_len])) (ixD_lets (by omega))) (e_var rfl) hmade hs)).trans ?_
      have hcd2 : cell (wM m ⟨s.dn, s.nm ++ [(x, letter s.nm.length)], s.fd⟩) m.length 0 = some (.dic false (dcl (encN (s.nm ++ [(x, letter s.nm.length)])))) := cell_loc (i := 0) rfl
      have hix : ixD (.ref m.length 0) (.p (.str x)) (wM m ⟨s.dn, s.nm ++ [(x, letter s.nm.length)], s.fd⟩) = some (.str (letter s.nm.length)) := by
        refine ixD_dic hcd2 ?_
        rw [encN_app, lookup_app, hlk]
        simp
      have hadd : evE (prog.call (d + 5)) prog.mt (.bin .add (.bin .add (.slice (.var 12) .nob (.lit (.int 1))) (.tup (.cons (.ix (.var 5) (.call i_made (.cons (.var 12) .nil))) .nil))) (.slice (.var 12) (.lit (.int 2)) .nob)) (wR rows m t0 t1 t2 t4 (some (.p (.int (k : Nat)))) t7 (some (.p (.lst (natP (ripe rows s.dn))))) (some (.p c.p)) (some (.p c.key)) t14) (wM m ⟨s.dn, s.nm ++ [(x, letter s.nm.length)], s.fd⟩) = .ok (.p (c.re (letter s.nm.length)).p) (wM m ⟨s.dn, s.nm ++ [(x, letter s.nm.length)], s.fd⟩) := by
        rw [← re_p hmk]
        refine e_bin (op := .add) (p := .tup [c.hd, .str (letter s.nm.length)]) (q := .tup c.tl) (e_bin (op := .add) (p := .tup [c.hd]) (q := .tup [.str (letter s.nm.length)]) (e_slice (e_var rfl) rfl rfl (sl1 c _)) (e_tup (ps_cons (e_ix (e_var rfl) hmade hix) ps_nil) (by show 1 ≤ line; decide)) rfl rfl (show binP .add (.tup [c.hd]) (.tup [.str (letter s.nm.length)]) = some (.tup [c.hd, .str (letter s.nm.length)]) from add_tup (a := [c.hd]) (b := [.str (letter s.nm.length)]) (by show 2 ≤ 100; decide))) (e_slice (e_var rfl) rfl rfl (sl2 hmk _)) rfl rfl ?_
        exact add_tup (by have := tl_len c; simp; omega)
      exact (ss_nx (v_set hadd)).trans rfl
  obtain ⟨c', nm', hp, z3⟩ := z3
  have z4 : evS (prog.call (d + 5)) prog.mt (.expr (.bmeth .append (.var 9) (.cons (.var 6) .nil))) (wR rows m t0 t1 t2 t4 (some (.p (.int (k : Nat)))) t7 (some (.p (.lst (natP (ripe rows s.dn))))) (some (.p c'.p)) (some (.p c.key)) t14) (wM m ⟨s.dn, nm', s.fd⟩) = .ok (.nx (wR rows m t0 t1 t2 t4 (some (.p (.int (k : Nat)))) t7 (some (.p (.lst (natP (ripe rows s.dn))))) (some (.p c'.p)) (some (.p c.key)) t14)) (wM m ⟨s.dn ++ [k], nm', s.fd⟩) := by
    have ha := app_loc (B := m) (objs := [.val (.dic false (dcl (encN nm'))), .val (.lst (natP s.dn)), .val (.lst (s.fd.map Rw.p))]) (i := 1) (l := natP s.dn) (y := .int (k : Nat)) rfl (by unfold natP line; rw [List.length_map]; omega)
    have e : natP s.dn ++ [.int (k : Nat)] = natP (s.dn ++ [k]) := by unfold natP; simp
    rw [e] at ha
    exact v_expr (e_bm (e_var rfl) (bmT_loc (B := m) (i := 1) (l := natP s.dn) rfl rfl) (es_one (e_var rfl)) ha)
  have z5 : evS (prog.call (d + 5)) prog.mt (.expr (.bmeth .append (.var 10) (.cons (.var 12) .nil))) (wR rows m t0 t1 t2 t4 (some (.p (.int (k : Nat)))) t7 (some (.p (.lst (natP (ripe rows s.dn))))) (some (.p c'.p)) (some (.p c.key)) t14) (wM m ⟨s.dn ++ [k], nm', s.fd⟩) = .ok (.nx (wR rows m t0 t1 t2 t4 (some (.p (.int (k : Nat)))) t7 (some (.p (.lst (natP (ripe rows s.dn))))) (some (.p c'.p)) (some (.p c.key)) t14)) (wM m ⟨s.dn ++ [k], nm', s.fd ++ [c']⟩) := by
    have ha := app_loc (B := m) (objs := [.val (.dic false (dcl (encN nm'))), .val (.lst (natP (s.dn ++ [k]))), .val (.lst (s.fd.map Rw.p))]) (i := 2) (l := s.fd.map Rw.p) (y := c'.p) rfl (by unfold line; rw [List.length_map]; omega)
    have e : s.fd.map Rw.p ++ [c'.p] = (s.fd ++ [c']).map Rw.p := by simp
    rw [e] at ha
    exact v_expr (e_bm (e_var rfl) (bmT_loc (B := m) (i := 2) (l := s.fd.map Rw.p) rfl rfl) (es_one (e_var rfl)) ha)
  rw [hn, hp]
  exact ⟨_, _, _, _, (ss_nx z0).trans ((ss_nx z1).trans ((ss_nx z2).trans ((ss_nx z3).trans ((ss_nx z4).trans ((ss_nx z5).trans ss_nil)))))⟩
end
end K02
end Lot
/-! TxF: finishes, blocks, their plain forms. -/
namespace Lot
open PySem
inductive Fi where
  | stop (l : List Str) | go (n : Str) (l : List Str) | whn (x n : Str) (l : List Str) (k : Str) (q : List Str)
def Fi.p : Fi → P
  | .stop l => .tup [.str "stop", tupS l]
  | .go n l => .tup [.str "go", .str n, tupS l]
  | .whn x n l k q => .tup [.str "when", .str x, .str n, tupS l, .str k, tupS q]
def Fi.vals : Fi → List Str
  | .stop l => l
  | .go _ l => l
  | .whn x _ l _ q => x :: (l ++ q)
def Fi.ren (f : Str → Str) : Fi → Fi
  | .stop l => .stop (l.map f)
  | .go n l => .go n (l.map f)
  | .whn x n l k q => .whn (f x) n (l.map f) k (q.map f)
/-- the names of blocks in it -/
def Fi.nms : Fi → List Str
  | .stop _ => []
  | .go n _ => [n]
  | .whn _ n _ k _ => [n, k]
def Fi.short : Fi → Prop
  | .stop l => l.length ≤ 20
  | .go _ l => l.length ≤ 20
  | .whn _ _ l _ q => l.length ≤ 20 ∧ q.length ≤ 20
structure Blk where
  name : Str
  takes : List Str
  rows : List Rw
  fin : Fi
def Blk.p (b : Blk) : P := .tup [.str b.name, tupS b.takes, rowsP b.rows, b.fin.p]
structure BOk (b : Blk) : Prop where
  wf : WfB b.takes b.rows
  vals : ∀ v ∈ b.fin.vals, v ∈ b.takes ++ b.rows.filterMap Rw.mk
  short : b.fin.short
  nok : sOk b.name
  fok : ∀ v ∈ b.fin.nms, sOk v
def endSt (takes : List Str) (rows : List Rw) : St := runN rows rows.length (st0 takes)
/-- the plain form -/
def Blk.pb (b : Blk) : Blk := ⟨b.name, (List.range b.takes.length).map letter, (endSt b.takes b.rows).fd, b.fin.ren (fN (endSt b.takes b.rows).nm)⟩
theorem nxt_pre (rows : List Rw) (s : St) : ∃ more, (nxt rows s).nm = s.nm ++ more := by
  unfold nxt
  cases ripe rows s.dn with
  | nil => exact ⟨[], by simp⟩
  | cons b ks =>
    show ∃ more, (putR rows s _).nm = s.nm ++ more
    unfold putR
    cases mkAt rows (sel rows s.nm b ks) with
    | some x => exact ⟨_, rfl⟩
    | none => exact ⟨[], by simp⟩
theorem run_pre (rows : List Rw) : ∀ (n : Nat) (s : St), ∃ more, (runN rows n s).nm = s.nm ++ more
  | 0, s => ⟨[], by simp [runN]⟩
  | n + 1, s => by
    obtain ⟨a, ha⟩ := nxt_pre rows s
    obtain ⟨b, hb⟩ := run_pre rows n (nxt rows s)
    exact ⟨a ++ b, by show (runN rows n (nxt rows s)).nm = _; rw [hb, ha, List.append_assoc]⟩
theorem takes_letters : ∀ (takes : List Str) (k : Nat) (more : List (Str × Str)), takes.Nodup → takes.map (fN (((takes.zipIdx k).map fun (x : Str × Nat) => (x.1, letter x.2)) ++ more)) = (List.range' k takes.length).map letter
  | [], _, _, _ => rfl
  | t :: ts, k, more, nd => by
    rw [List.nodup_cons] at nd
    have ih := takes_letters ts (k + 1) more nd.2
    rw [List.length_cons, List.range'_succ, List.map_cons, List.map_cons, ← ih]
    have e : (((t :: ts).zipIdx k).map fun (x : Str × Nat) => (x.1, letter x.2)) = (t, letter k) :: ((ts.zipIdx (k + 1)).map fun (x : Str × Nat) => (x.1, letter x.2)) := rfl
    rw [e]
    congr 1
    · unfold fN
      rw [List.cons_append, List.lookup_cons]
      simp
    · apply List.map_congr_left
      intro v hv
      unfold fN
      rw [List.cons_append, List.lookup_cons]
      have : (v == t) = false := by have : v ≠ t := fun e => nd.1 (by rw [← e]; exact hv); simpa using this
      rw [this]
section
variable {takes : List Str} {rows : List Rw}
theorem run_ok (W : WfB takes rows) : ∀ (n : Nat) (s : St), Ok takes rows s → s.dn.length + n = rows.length → Ok takes rows (runN rows n s) ∧ (runN rows n s).dn.length = rows.length
  | 0, s, K, h => ⟨K, by show s.dn.length = _; omega⟩
  | n + 1, s, K, h => by
    obtain ⟨b, ks, _, _, _, K', l'⟩ := ok_nxt W K (by omega)
    exact run_ok W n (nxt rows s) K' (by omega)
theorem end_ok (W : WfB takes rows) : Ok takes rows (endSt takes rows) ∧ (endSt takes rows).dn.length = rows.length := run_ok W _ _ ok_st0 (by show 0 + _ = _; omega)
theorem end_all (W : WfB takes rows) {v : Str} (h : v ∈ takes ++ rows.filterMap Rw.mk) : v ∈ (endSt takes rows).nm.map (·.1) := by
  obtain ⟨K, hl⟩ := end_ok W
  rw [K.keys]
  rcases List.mem_append.mp h with h | h
  · exact List.mem_append.mpr (.inl h)
  · refine List.mem_append.mpr (.inr ?_)
    obtain ⟨r, h1, h2⟩ := List.mem_filterMap.mp h
    obtain ⟨k, h3⟩ := List.getElem?_of_mem h1
    have hk : k < rows.length := (List.getElem?_eq_some_iff.mp h3).1
    have hm : k ∈ (endSt takes rows).dn := by
      apply Classical.byContradiction
      intro q
      have := nd_le (k :: (endSt takes rows).dn) (List.range rows.length) (List.nodup_cons.mpr ⟨q, K.nd⟩) fun j hj => by
        rcases List.mem_cons.mp hj with rfl | hj
        · exact List.mem_range.mpr hk
        · exact List.mem_range.mpr (K.lt j hj)
      rw [List.length_range, List.length_cons, hl] at this
      omega
    exact List.mem_filterMap.mpr ⟨k, hm, by rw [mkAt_some h3]; exact h2⟩
theorem end_takes (W : WfB takes rows) : takes.map (fN (endSt takes rows).nm) = (List.range takes.length).map letter := by
  obtain ⟨more, hm⟩ := run_pre rows rows.length (st0 takes)
  have nd := W.nd
  rw [List.nodup_append] at nd
  unfold endSt
  rw [hm, List.range_eq_range']
  exact takes_letters takes 0 more nd.1
end
end Lot
namespace Lot
open PySem
namespace K02
variable {d : Nat} {m : Mem}
theorem walk_run {takes : List Str} {rows : List Rw} (W : WfB takes rows) (t0 t1 t2 t4 t6 t7 t11 t12 t13 t14 : Option D) :
    ∃ u6 u11 u12 u13, evS (prog.call (d + 5)) prog.mt (.while (.cmp .lt (.prim .len (.cons (.var 9) .nil)) (.prim .len (.cons (.var 3) .nil))) wB) (wR rows m t0 t1 t2 t4 t6 t7 t11 t12 t13 t14) (wM m (st0 takes)) = .ok (.nx (wR rows m t0 t1 t2 t4 u6 t7 u11 u12 u13 t14)) (wM m (endSt takes rows)) := by
  have htest : ∀ (s : St) (u6 u11 u12 u13 : Option D), (evE (prog.call (d + 5)) prog.mt (.cmp .lt (.prim .len (.cons (.var 9) .nil)) (.prim .len (.cons (.var 3) .nil))) (wR rows m t0 t1 t2 t4 u6 t7 u11 u12 u13 t14) (wM m s)).bind truthO = .ok (decide (s.dn.length < rows.length)) (wM m s) := fun s u6 u11 u12 u13 => by
    have hc : cell (wM m s) (m.length + 1) 0 = some (.lst (natP s.dn)) := cell_loc (i := 1) rfl
    rw [bind_ok_of (e_cmp (r := decide (s.dn.length < rows.length)) (e_len (n := ((natP s.dn).length : Nat)) (q := .lst (natP s.dn)) (x := .ref (m.length + 1) 0) (e_var rfl) (show rg (.ref (m.length + 1) 0) (wM m s) = _ from hc) rfl) (e_len (n := ((rows.map Rw.p).length : Nat)) (q := rowsP rows) (e_var rfl) rfl rfl) (by
      show some (decide (((natP s.dn).length : Int) < ((rows.map Rw.p).length : Nat))) = _
      unfold natP
      rw [List.length_map, List.length_map]
      congr 1
      rw [decide_eq_decide]
      omega))]
    rfl
  obtain ⟨ρ', M', hw, ⟨s, u6, u11, u12, u13, hK, hl, hrun, hfd, h1, h2⟩⟩ := while_inv (test := fun ρ m => (evE (prog.call (d + 5)) prog.mt (.cmp .lt (.prim .len (.cons (.var 9) .nil)) (.prim .len (.cons (.var 3) .nil))) ρ m).bind truthO) (body := fun ρ m => evSs (prog.call (d + 5)) prog.mt wB ρ m)
    (fun k ρ M => ∃ s u6 u11 u12 u13, Ok takes rows s ∧ s.dn.length + k = rows.length ∧ runN rows k s = endSt takes rows ∧ s.fd.length = s.dn.length ∧ ρ = wR rows m t0 t1 t2 t4 u6 t7 u11 u12 u13 t14 ∧ M = wM m s) rows.length fuel (wR rows m t0 t1 t2 t4 t6 t7 t11 t12 t13 t14) (wM m (st0 takes)) (by have := W.nr; unfold fuel; omega) (by
      rintro k ρ M ⟨s, u6, u11, u12, u13, hK, hl, hrun, hfd, rfl, rfl⟩
      have hlt : s.dn.length < rows.length := by omega
      refine ⟨?_, ?_⟩
      · show (evE _ _ _ _ _).bind truthO = _
        rw [htest, decide_eq_true hlt]
      · have := W.nr
        obtain ⟨v6, v11, v12, v13, hb⟩ := w_turn (d := d) (m := m) (t0 := t0) (t1 := t1) (t2 := t2) (t4 := t4) (t6 := u6) (t7 := t7) (t11 := u11) (t12 := u12) (t13 := u13) (t14 := t14) W hK hlt (by omega)
        obtain ⟨b, ks, _, hn, _, K', l'⟩ := ok_nxt W hK hlt
        refine ⟨_, _, hb, nxt rows s, v6, v11, v12, v13, K', by omega, hrun, ?_, rfl, rfl⟩
        rw [l', hn]
        unfold putR
        cases mkAt rows (sel rows s.nm b ks) <;> (show (s.fd ++ [_]).length = _; rw [List.length_append, hfd]; rfl)) (by
      rintro ρ M ⟨s, u6, u11, u12, u13, hK, hl, hrun, hfd, rfl, rfl⟩
      show (evE _ _ _ _ _).bind truthO = _
      rw [htest, decide_eq_false (by omega)]) ⟨st0 takes, t6, t11, t12, t13, ok_st0, by show 0 + _ = _; omega, rfl, rfl, rfl, rfl⟩
  subst h1; subst h2
  have hrun : s = endSt takes rows := hrun
  subst hrun
  exact ⟨u6, u11, u12, u13, v_while hw⟩
theorem c_walked (b : Blk) (B : BOk b) : prog.call (d + 6) i_walked [.p b.p] m = .ok (.p (.tup [.lst (natP (endSt b.takes b.rows).dn), .lst ((endSt b.takes b.rows).fd.map Rw.p), .dic false (dcl (encN (endSt b.takes b.rows).nm))])) m := by
  have W := B.wf
  refine call_l (q := f_walked) (B := m) (objs := [.dead, .dead, .dead]) rfl rfl ?_ rfl
  refine (ss_nx (v_unp (xs := [.str b.name, tupS b.takes, rowsP b.rows, b.fin.p]) (e_var rfl) rfl rfl)).trans ?_
  have nd : b.takes.Nodup := by have := W.nd; rw [List.nodup_append] at this; exact this.1
  have hd := e_dcompP (cf := prog.call (d + 5)) (mt := prog.mt) (ρ := [some (.p b.p), some (.p (.str b.name)), some (.p (tupS b.takes)), some (.p (rowsP b.rows)), some (.p b.fin.p), none, none, none, none, none, none, none, none, none, none]) (m := m) (k := .var 7) (v := .ix (.gstr "LETTERS" "abcdefghijklmnopqrstuvwxyz") (.var 6)) (tg := .tp [6, 7]) (it := .enum (.var 2)) (ifs := .nil) (L := enumL 0 (b.takes.map P.str)) F0 (i_enum (q := tupS b.takes) (e_var rfl) (.inr rfl) rfl) rfl (fun x hx => by
    obtain ⟨i, hi⟩ := List.getElem?_of_mem hx
    obtain ⟨y, hy, rfl⟩ := enumL_get' hi
    obtain ⟨t, ht, rfl⟩ := List.getElem?_map .. ▸ hy |> Option.map_eq_some_iff.mp
    have hlt := (List.getElem?_eq_some_iff.mp ht).1
    have := W.nt
    exact sd_yes (y := .str t) (z := .str (letter i)) rfl if_nil (e_var rfl) (e_ix (x := .p (.str lets)) rfl (e_var rfl) (ixD_lets (by omega))) rfl) (by
    rw [flat_F0, dcl_len, encN_len]
    have := W.nt
    rw [List.length_map, List.length_zipIdx]
    unfold line
    omega)
  have hfold : foldD ((enumL 0 (b.takes.map P.str)).flatMap F0) [] = dcl (encN (st0 b.takes).nm) := by
    rw [flat_F0]
    have := foldD_new (encN ((b.takes.zipIdx 0).map fun (x : Str × Nat) => (x.1, letter x.2))) [] (by
      rw [List.nil_append, encN_keys, List.map_map]
      show (b.takes.zipIdx.map Prod.fst).Nodup
      rw [List.zipIdx_map_fst]
      exact nd)
    rw [List.nil_append] at this
    exact this
  rw [hfold] at hd
  refine (ss_nx (v_set hd)).trans ?_
  refine (ss_nx (v_set (e_call (es_one (e_var rfl)) (c_hangs b.rows (by have := W.nr; omega))))).trans ?_
  refine (ss_nx (v_par (es_two (e_alloc (e_lst ps_nil (Nat.zero_le _))) (e_alloc (e_lst ps_nil (Nat.zero_le _)))) ⟨rfl, by show 2 ≤ 1000; decide⟩)).trans ?_
  obtain ⟨u6, u11, u12, u13, hw⟩ := walk_run (d := d) (m := m) W (some (.p b.p)) (some (.p (.str b.name))) (some (.p (tupS b.takes))) (some (.p b.fin.p)) none none none none none none
  have e1 : (m ++ [Obj.val (.dic false (dcl (encN (st0 b.takes).nm)))]).length = m.length + 1 := by simp
  have e2 : ((m ++ [Obj.val (.dic false (dcl (encN (st0 b.takes).nm)))]) ++ [Obj.val (.lst [])]).length = m.length + 2 := by simp
  rw [e1, e2]
  have e3 : ((m ++ [Obj.val (.dic false (dcl (encN (st0 b.takes).nm)))]) ++ [Obj.val (.lst [])]) ++ [Obj.val (.lst [])] = wM m (st0 b.takes) := by
    rw [List.append_assoc, List.append_assoc]
    rfl
  rw [e3]
  refine (ss_nx hw).trans ?_
  generalize endSt b.takes b.rows = s
  refine ss_rt (v_ret (e_tup (ps_cons (e_frz (n := m.length + 1) (l := natP s.dn) (e_var rfl) (getM_loc (i := 1))) (ps_cons (m1 := m ++ [.val (.dic false (dcl (encN s.nm))), .dead, .dead]) ?_ (ps_cons (m1 := m ++ [.dead, .dead, .dead]) ?_ ps_nil))) (by show 3 ≤ line; decide)))
  · refine (e_frz (n := m.length + 2) (l := s.fd.map Rw.p) (e_var rfl) ?_).trans ?_
    · rw [set_loc (i := 1)]
      exact getM_loc (i := 2)
    · rw [set_loc (i := 1), set_loc (i := 2)]
      rfl
  · refine (e_frzD (n := m.length) (l := dcl (encN s.nm)) (e_var rfl) (getM_loc (i := 0))).trans ?_
    exact congrArg (Out.ok _) (set_loc (i := 0))
end K02
end Lot
namespace Lot
open PySem
theorem prim_tupL {l : List P} {m : Mem} : primD .tuple [.p (.lst l)] m = .ok (.p (.tup l)) m := rfl
theorem names_tup {cf : Nat → List D → Mem → Out D} {mt : Nat → Nat → Option Nat} {ρ : Env} {m : Mem} {dl : D} {l : List Str} {f : Str → Str} {v w : Nat} {e : CE} (hv : v < ρ.length) (hw : (ρ[w]?).bind id = some dl) (hvw : v ≠ w) (he : evE cf mt e ρ m = .ok (.p (tupS l)) m) (h : ∀ x ∈ l, ixD dl (.p (.str x)) m = some (.str (f x))) (hl : l.length ≤ 1000) :
    evE cf mt (.prim .tuple (.cons (.comp (.ix (.var w) (.var v)) (.nm v) (.seq e) .nil) .nil)) ρ m = .ok (.p (tupS (l.map f))) m := by
  have hc := e_compE (elt := .ix (.var w) (.var v)) (tg := .nm v) (ifs := .nil) (enc := P.str) (L := l) (f := fun x => [P.str (f x)]) (i_seq he rfl rfl) rfl rfl (fun x hx => by
    refine st_yes (ρ1 := (ρ.set v none).set v (some (.p (.str x)))) rfl if_nil (e_ix (x := dl) (y := .p (.str x)) (e_var ?_) (e_var ?_) (h x hx))
    · rw [List.getElem?_set_ne hvw, List.getElem?_set_ne hvw]
      exact hw
    · rw [List.getElem?_set_self (by rw [List.length_set]; exact hv)]
      rfl) (by rw [flatMap_one, List.length_map]; unfold line; omega)
  rw [flatMap_one] at hc
  refine (e_prim (es_one hc) prim_tupL).trans ?_
  unfold tupS
  rw [List.map_map]
  rfl
theorem tupS_ix {n : P} {m : Mem} : True := trivial
namespace K02
variable {d : Nat} {m : Mem}
theorem c_ended (b : Fi) (hs : b.short) (f : Str → Str) (dl : D) (h : ∀ v ∈ b.vals, ixD dl (.p (.str v)) m = some (.str (f v))) : prog.call (d + 1) i_ended [.p b.p, dl] m = .ok (.p (b.ren f).p) m := by
  refine call_q (q := f_ended) rfl rfl ?_
  have ht : ∀ (s : Str) (ρ : Env), (ρ[0]?).bind id = some (.p b.p) → evE (prog.call d) prog.mt (.cmp .eq (.ix (.var 0) (.lit (.int 0))) (.lit (.str s))) ρ m = .ok (.p (.bl (eqP (match b with | .stop _ => .str "stop" | .go _ _ => .str "go" | .whn _ _ _ _ _ => .str "when") (.str s)))) m := fun s ρ hρ => by
    cases b <;> exact e_cmp (e_ix (e_var hρ) (e_lit _) rfl) (e_lit _) rfl
  cases b with
  | stop l =>
    refine ss_rt ((v_ift_t (ht "stop" _ rfl) (by kernel_rfl)).trans (ss_rt (v_ret ?_)))
    exact e_tup (xs := [.str "stop", tupS (l.map f)]) (ps_cons (e_lit _) (ps_cons (names_tup (v := 2) (w := 1) (by show 2 < 5; decide) rfl (by decide) (e_ix (e_var rfl) (e_lit _) rfl) h (by have : l.length ≤ 20 := hs; omega)) ps_nil)) (by show 2 ≤ line; decide)
  | go n l =>
    refine (ss_nx ((v_ift_f (ht "stop" _ rfl) (by kernel_rfl)).trans ss_nil)).trans ?_
    refine ss_rt ((v_ift_t (ht "go" _ rfl) (by kernel_rfl)).trans (ss_rt (v_ret ?_)))
    have hn := names_tup (cf := prog.call d) (mt := prog.mt) (ρ := [some (.p (Fi.go n l).p), some dl, none, none, none]) (m := m) (dl := dl) (l := l) (f := f) (v := 2) (w := 1) (e := .ix (.var 0) (.lit (.int 2))) (by show 2 < 5; decide) rfl (by decide) (e_ix (e_var rfl) (e_lit _) rfl) h (by have : l.length ≤ 20 := hs; omega)
    exact e_bin (op := .add) (p := .tup [.str "go", .str n]) (q := .tup [tupS (l.map f)]) (e_slice (x := .p (Fi.go n l).p) (e_var rfl) rfl rfl rfl) (e_tup (ps_cons hn ps_nil) (by show 1 ≤ line; decide)) rfl rfl rfl
  | whn x n l k q =>
    refine (ss_nx ((v_ift_f (ht "stop" _ rfl) (by kernel_rfl)).trans ss_nil)).trans ?_
    refine (ss_nx ((v_ift_f (ht "go" _ rfl) (by kernel_rfl)).trans ss_nil)).trans ?_
    have hx : ∀ v ∈ x :: (l ++ q), ixD dl (.p (.str v)) m = some (.str (f v)) := h
    have h1 := names_tup (cf := prog.call d) (mt := prog.mt) (ρ := [some (.p (Fi.whn x n l k q).p), some dl, none, none, none]) (m := m) (dl := dl) (l := l) (f := f) (v := 2) (w := 1) (e := .ix (.var 0) (.lit (.int 3))) (by show 2 < 5; decide) rfl (by decide) (e_ix (e_var rfl) (e_lit _) rfl) (fun v hv => hx v (List.mem_cons_of_mem _ (List.mem_append.mpr (.inl hv)))) (by have : l.length ≤ 20 := hs.1; omega)
    refine (ss_nx (v_set h1)).trans ?_
    have h2 := names_tup (cf := prog.call d) (mt := prog.mt) (ρ := [some (.p (Fi.whn x n l k q).p), some dl, none, some (.p (tupS (l.map f))), none]) (m := m) (dl := dl) (l := q) (f := f) (v := 2) (w := 1) (e := .ix (.var 0) (.lit (.int 5))) (by show 2 < 5; decide) rfl (by decide) (e_ix (e_var rfl) (e_lit _) rfl) (fun v hv => hx v (List.mem_cons_of_mem _ (List.mem_append.mpr (.inr hv)))) (by have : q.length ≤ 20 := hs.2; omega)
    refine (ss_nx (v_set h2)).trans ?_
    exact ss_rt (v_ret (e_tup (xs := [.str "when", .str (f x), .str n, tupS (l.map f), .str k, tupS (q.map f)]) (ps_cons (e_lit _) (ps_cons (e_ix (x := dl) (y := .p (.str x)) (e_var rfl) (e_ix (e_var rfl) (e_lit _) rfl) (hx x (List.mem_cons_self ..))) (ps_cons (e_ix (e_var rfl) (e_lit _) rfl) (ps_cons (e_var rfl) (ps_cons (e_ix (e_var rfl) (e_lit _) rfl) (ps_cons (e_var rfl) ps_nil)))))) (by show 6 ≤ line; decide)))
theorem lets_cut {n : Nat} (h : n ≤ 6) : ∃ s, sliceP (.str lets) none (some (n : Int)) = some (.str s) ∧ s.length ≤ 1000 ∧ signs s = ((List.range n).map letter).map P.str := by
  match n, h with
  | 0, _ => exact ⟨_, rfl, by decide, by kernel_rfl⟩
  | 1, _ => exact ⟨_, rfl, by decide, by kernel_rfl⟩
  | 2, _ => exact ⟨_, rfl, by decide, by kernel_rfl⟩
  | 3, _ => exact ⟨_, rfl, by decide, by kernel_rfl⟩
  | 4, _ => exact ⟨_, rfl, by decide, by kernel_rfl⟩
  | 5, _ => exact ⟨_, rfl, by decide, by kernel_rfl⟩
  | 6, _ => exact ⟨_, rfl, by decide, by kernel_rfl⟩
theorem c_plain_block (b : Blk) (B : BOk b) : prog.call (d + 7) i_plain_block [.p b.p] m = .ok (.p b.pb.p) m := by
  refine call_q (q := f_plain_block) rfl rfl ?_
  refine (ss_nx (v_unp (e_call (es_one (e_var rfl)) (c_walked b B)) rfl rfl)).trans ?_
  have hk : ∀ v ∈ b.takes ++ b.rows.filterMap Rw.mk, v ∈ (endSt b.takes b.rows).nm.map (fun (kv : Str × Str) => kv.1) := fun v hv => end_all B.wf hv
  have hend := (end_ok B.wf).1
  have hnt := B.wf.nt
  have hln : (endSt b.takes b.rows).fd.length ≤ 1000 ∨ True := .inr trivial
  unfold Blk.pb
  generalize endSt b.takes b.rows = s at hk hend
  obtain ⟨z, hz, zl, zs⟩ := lets_cut hnt
  have h1 : evE (prog.call (d + 6)) prog.mt (.prim .tuple (.cons (.slice (.gstr "LETTERS" "abcdefghijklmnopqrstuvwxyz") .nob (.prim .len (.cons (.ix (.var 0) (.lit (.int 1))) .nil))) .nil)) [some (.p b.p), some (.p (.lst (natP s.dn))), some (.p (.lst (s.fd.map Rw.p))), some (.p (.dic false (dcl (encN s.nm))))] m = .ok (.p (tupS ((List.range b.takes.length).map letter))) m := by
    refine e_prim (es_one (e_slice (x := .p (.str lets)) (l := none) (h := some (b.takes.length : Int)) (m2 := m) (m3 := m) rfl rfl ?_ hz)) ?_
    · rw [e_len (a := .ix (.var 0) (.lit (.int 1))) (q := tupS b.takes) (n := ((b.takes.map P.str).length : Nat)) (e_ix (e_var rfl) (e_lit _) rfl) rfl rfl, List.length_map]
      rfl
    · show ((Out.of (if z.length ≤ 1000 then some (P.tup (signs z)) else none) m).bind fun x m => Out.ok (D.p x) m) = _
      rw [if_pos zl, zs]
      rfl
  have h2 : evE (prog.call (d + 6)) prog.mt (.call i_ended (.cons (.ix (.var 0) (.lit (.int 3))) (.cons (.var 3) .nil))) [some (.p b.p), some (.p (.lst (natP s.dn))), some (.p (.lst (s.fd.map Rw.p))), some (.p (.dic false (dcl (encN s.nm))))] m = .ok (.p (b.fin.ren (fN s.nm)).p) m := by
    refine e_call (es_two (e_ix (e_var rfl) (e_lit _) rfl) (e_var rfl)) (c_ended b.fin B.short (fN s.nm) _ fun v hv => ?_)
    refine ixD_dicP ?_
    rw [encN_lookup, (fN_ok hend (hk v (B.vals v hv))).1]
    rfl
  exact ss_rt (v_ret (e_tup (xs := [.str b.name, tupS ((List.range b.takes.length).map letter), rowsP s.fd, (b.fin.ren (fN s.nm)).p]) (ps_cons (e_ix (e_var rfl) (e_lit _) rfl) (ps_cons h1 (ps_cons (e_prim (es_one (e_var rfl)) prim_tupL) (ps_cons h2 ps_nil)))) (by show 4 ≤ line; decide)))
def textP (t : List Blk) : P := .tup (t.map Blk.p)
theorem c_plain (t : List Blk) (ht : ∀ b ∈ t, BOk b) (hl : t.length ≤ 100) : prog.call (d + 8) i_plain [.p (textP t)] m = .ok (.p (textP (t.map Blk.pb))) m := by
  refine call_q (q := f_plain) rfl rfl ?_
  have hc := e_compE (cf := prog.call (d + 7)) (mt := prog.mt) (ρ := [some (.p (textP t)), none]) (m := m) (elt := .call i_plain_block (.cons (.var 1) .nil)) (tg := .nm 1) (it := .seq (.var 0)) (ifs := .nil) (enc := Blk.p) (L := t) (f := fun b => [b.pb.p]) (i_seq (q := textP t) (e_var rfl) rfl rfl) rfl rfl (fun b hb => st_yes rfl if_nil (e_call (es_one (e_var rfl)) (c_plain_block b (ht b hb)))) (by rw [flatMap_one, List.length_map]; unfold line; omega)
  rw [flatMap_one] at hc
  refine ss_rt (v_ret ((e_prim (es_one hc) prim_tupL).trans ?_))
  unfold textP
  rw [List.map_map]
  rfl
end K02
end Lot
namespace Lot
open PySem
theorem get2_dic {n k : Nat} {m : Mem} {L : List (Str × P)} {x : Str} {z : P} (hc : cell m n k = some (.dic false (dcl L))) : bmD .get2 (.ref n k) [.p (.str x), .p z] m = .ok (.p ((L.lookup x).getD z)) m := by
  show getO2 (.ref n k) [.p (.str x), .p z] m = _
  unfold getO2
  rw [show rd (.ref n k) m = some (.dic false (dcl L)) from hc]
  show (if kOk false (.str x) = true then Out.ok (D.p ((findK false (dcl L) (.str x)).getD z)) m else .bad) = _
  rw [if_pos (show kOk false (P.str x) = true from rfl), find_dcl]
theorem bmT_dic {n k : Nat} {m : Mem} {L : List P} {w : Bm} (hc : cell m n k = some (.dic false L)) (hw : bmTy w = 1) : bmT w (.ref n k) m = true := by
  unfold bmT
  rw [show rd (.ref n k) m = some (.dic false L) from hc]
  simp [hw]
theorem any_false {α : Type} (f : α → Bool) : ∀ l : List α, ((l.map fun a => P.bl (f a)).any fun z => eqP z (.bl false)) = !(l.all f)
  | [] => rfl
  | a :: l => by
    rw [List.map_cons, List.any_cons, any_false f l, List.all_cons]
    have : eqP (.bl (f a)) (.bl false) = !f a := by
      show (f a == false) = !f a
      cases f a <;> rfl
    rw [this]
    cases f a <;> simp
theorem sc_bls {α : Type} (f : α → Bool) : ∀ l : List α, (l.map fun a => P.bl (f a)).all sc = true
  | [] => rfl
  | a :: l => by rw [List.map_cons, List.all_cons, sc_bls f l]; rfl
theorem notin_false {α : Type} (f : α → Bool) (l : List α) : (inP (.bl false) (.lst (l.map fun a => P.bl (f a)))).map not = some (l.all f) := by
  have : inP (.bl false) (.lst (l.map fun a => P.bl (f a))) = some (!(l.all f)) := by
    show (if ((true && (l.map fun a => P.bl (f a)).all sc) || _) = true then some ((l.map fun a => P.bl (f a)).any fun z => eqP z (.bl false)) else none) = _
    rw [sc_bls, if_pos (by simp), any_false]
  rw [this]
  simp
namespace K02
variable {d : Nat} {m : Mem}
theorem c_renamed (r : Rw) (f : Str → Str) {n k : Nat} {L : List (Str × P)} (hc : cell m n k = some (.dic false (dcl L))) (hx : ∀ x, r.mk = some x → L.lookup x = none) (hv : ∀ v ∈ r.ends, L.lookup v = some (.str (f v))) : prog.call (d + 1) i_law_renamed [.p r.p, .ref n k] m = .ok (.p (r.ren f).p) m := by
  refine call_q (q := f_law_renamed) rfl rfl ?_
  have ht : ∀ s : Str, evE (prog.call d) prog.mt (.cmp .eq (.ix (.var 0) (.lit (.int 0))) (.lit (.str s))) [some (.p r.p), some (.ref n k)] m = .ok (.p (.bl (eqP r.hd (.str s)))) m := fun s => e_cmp (e_ix (e_var rfl) (e_lit _) (r.hd_ix m)) (e_lit _) (by cases r <;> rfl)
  have hg : ∀ x, r.mk = some x → ixD (.p r.p) (.p (.int 1)) m = some (.str x) → evE (prog.call d) prog.mt (.bmeth .get2 (.var 1) (.cons (.ix (.var 0) (.lit (.int 1))) (.cons (.ix (.var 0) (.lit (.int 1))) .nil))) [some (.p r.p), some (.ref n k)] m = .ok (.p (.str x)) m := fun x h1 h2 => by
    refine (e_bm (e_var rfl) (bmT_dic hc rfl) (es_two (e_ix (e_var rfl) (e_lit _) h2) (e_ix (e_var rfl) (e_lit _) h2)) (get2_dic hc)).trans ?_
    rw [hx x h1]
    rfl
  have hn : ∀ v ∈ r.ends, ∀ {e : CE}, evE (prog.call d) prog.mt e [some (.p r.p), some (.ref n k)] m = .ok (.p (.str v)) m → evE (prog.call d) prog.mt (.ix (.var 1) e) [some (.p r.p), some (.ref n k)] m = .ok (.p (.str (f v))) m := fun v hv' {e} he => e_ix (e_var rfl) he (ixD_dic hc (hv v hv'))
  have hin : evE (prog.call d) prog.mt (.cmp .inn (.ix (.var 0) (.lit (.int 0))) (.tup (.cons (.lit (.str "num")) (.cons (.lit (.str "read")) .nil)))) [some (.p r.p), some (.ref n k)] m = .ok (.p (.bl (match r with | .num _ _ => true | .read _ _ => true | _ => false))) m := by
    refine e_cmp (e_ix (e_var rfl) (e_lit _) (r.hd_ix m)) (e_tup (xs := [.str "num", .str "read"]) (ps_cons (e_lit _) (ps_cons (e_lit _) ps_nil)) (by show 2 ≤ line; decide)) ?_
    cases r with
    | op w x y z => cases w <;> kernel_rfl
    | _ => kernel_rfl
  cases r with
  | out y =>
    refine ss_rt ((v_ift_t (ht "out") (by kernel_rfl)).trans (ss_rt (v_ret ?_)))
    exact e_tup (xs := [.str "out", .str (f y)]) (ps_cons (e_lit _) (ps_cons (hn y (by simp [Rw.ends]) (e_ix (e_var rfl) (e_lit _) rfl)) ps_nil)) (by show 2 ≤ line; decide)
  | write c y =>
    refine (ss_nx ((v_ift_f (ht "out") (by kernel_rfl)).trans ss_nil)).trans ?_
    refine ss_rt ((v_ift_t (ht "write") (by kernel_rfl)).trans (ss_rt (v_ret ?_)))
    exact e_bin (op := .add) (p := .tup [.str "write", .str c]) (q := .tup [.str (f y)]) (e_slice (x := .p (Rw.write c y).p) (e_var rfl) rfl rfl rfl) (e_tup (ps_cons (hn y (by simp [Rw.ends]) (e_ix (e_var rfl) (e_lit _) rfl)) ps_nil) (by show 1 ≤ line; decide)) rfl rfl rfl
  | num x q =>
    refine (ss_nx ((v_ift_f (ht "out") (by kernel_rfl)).trans ss_nil)).trans ?_
    refine (ss_nx ((v_ift_f (ht "write") (by kernel_rfl)).trans ss_nil)).trans ?_
    refine ss_rt ((v_ift_t hin rfl).trans (ss_rt (v_ret ?_)))
    exact e_tup (xs := [.str "num", .str x, .int q]) (ps_cons (e_ix (e_var rfl) (e_lit _) rfl) (ps_cons (hg x rfl rfl) (ps_cons (e_ix (e_var rfl) (e_lit _) rfl) ps_nil))) (by show 3 ≤ line; decide)
  | read x c =>
    refine (ss_nx ((v_ift_f (ht "out") (by kernel_rfl)).trans ss_nil)).trans ?_
    refine (ss_nx ((v_ift_f (ht "write") (by kernel_rfl)).trans ss_nil)).trans ?_
    refine ss_rt ((v_ift_t hin rfl).trans (ss_rt (v_ret ?_)))
    exact e_tup (xs := [.str "read", .str x, .str c]) (ps_cons (e_ix (e_var rfl) (e_lit _) rfl) (ps_cons (hg x rfl rfl) (ps_cons (e_ix (e_var rfl) (e_lit _) rfl) ps_nil))) (by show 3 ≤ line; decide)
  | op w x y z =>
    refine (ss_nx ((v_ift_f (ht "out") (by cases w <;> kernel_rfl)).trans ss_nil)).trans ?_
    refine (ss_nx ((v_ift_f (ht "write") (by cases w <;> kernel_rfl)).trans ss_nil)).trans ?_
    refine (ss_nx ((v_ift_f hin rfl).trans ss_nil)).trans ?_
    refine ss_rt (v_ret ?_)
    exact e_tup (xs := [.str w.s, .str x, .str (f y), .str (f z)]) (ps_cons (e_ix (e_var rfl) (e_lit _) rfl) (ps_cons (hg x rfl rfl) (ps_cons (hn y (by simp [Rw.ends]) (e_ix (e_var rfl) (e_lit _) rfl)) (ps_cons (hn z (by simp [Rw.ends]) (e_ix (e_var rfl) (e_lit _) rfl)) ps_nil)))) (by show 4 ≤ line; decide)
theorem c_ripe {rows : List Rw} {s : St} (hr : rows.length ≤ 14) : prog.call (d + 1) i_law_ripe [.p (.lst (hangL rows rows.length)), .ref (m.length + 1) 0] (wM m s) = .ok (.p (.lst (natP (ripe rows s.dn)))) (wM m s) := by
  refine call_q (q := f_law_ripe) rfl rfl (ss_rt (v_ret ?_))
  have hc : cell (wM m s) (m.length + 1) 0 = some (.lst (natP s.dn)) := cell_loc (i := 1) rfl
  have hi := i_rng1 (cf := prog.call d) (mt := prog.mt) (ρ := [some (.p (.lst (hangL rows rows.length))), some (.ref (m.length + 1) 0), none, none]) (m := wM m s) (e_len (a := .var 0) (q := .lst (hangL rows rows.length)) (n := ((hangL rows rows.length).length : Nat)) (e_var rfl) rfl rfl) (by unfold hangL; simp; omega)
  have e := e_compE (elt := .var 2) (tg := .nm 2) (ifs := .cons (.and (.cons (.cmp .notin (.var 2) (.var 1)) (.cons (.cmp .notin (.lit (.bl false)) (.comp (.cmp .inn (.var 3) (.var 1)) (.nm 3) (.seq (.ix (.var 0) (.var 2))) .nil)) .nil))) .nil) (enc := fun (k : Nat) => P.int k) (L := List.range rows.length) (f := fun k => if (!s.dn.contains k && (hung rows k).all fun j => s.dn.contains j) then [P.int (k : Nat)] else []) hi (by
      have : (hangL rows rows.length).length = rows.length := by unfold hangL; simp
      rw [this]
      exact rngL0 rows.length) rfl (fun k hk => ?_) ?_
  · rw [flatMap_if] at e
    exact e
  · have hk := List.mem_range.mp hk
    have ht : evE (prog.call d) prog.mt (.and (.cons (.cmp .notin (.var 2) (.var 1)) (.cons (.cmp .notin (.lit (.bl false)) (.comp (.cmp .inn (.var 3) (.var 1)) (.nm 3) (.seq (.ix (.var 0) (.var 2))) .nil)) .nil))) [some (.p (.lst (hangL rows rows.length))), some (.ref (m.length + 1) 0), some (.p (.int (k : Nat))), none] (wM m s) = .ok (.p (.bl (!s.dn.contains k && (hung rows k).all fun j => s.dn.contains j))) (wM m s) := by
      refine (e_and (t := !s.dn.contains k) (e_cmp (x := .p (.int (k : Nat))) (y := .ref (m.length + 1) 0) (e_var rfl) (e_var rfl) (by
        unfold cmpD
        rw [show rg (.ref (m.length + 1) 0) (wM m s) = some (.lst (natP s.dn)) from hc]
        show (inP (.int (k : Nat)) (.lst (natP s.dn))).map not = _
        rw [in_nat]
        rfl)) rfl).trans ?_
      cases !s.dn.contains k with
      | false => rfl
      | true =>
        rw [if_pos rfl, Bool.true_and, e_and1]
        have e2 := e_compE (cf := prog.call d) (mt := prog.mt) (ρ := [some (.p (.lst (hangL rows rows.length))), some (.ref (m.length + 1) 0), some (.p (.int (k : Nat))), none]) (m := wM m s) (elt := .cmp .inn (.var 3) (.var 1)) (tg := .nm 3) (ifs := .nil) (it := .seq (.ix (.var 0) (.var 2))) (enc := fun (k : Nat) => P.int k) (L := hung rows k) (f := fun j => [P.bl (s.dn.contains j)]) (i_seq (q := .lst (natP (hung rows k))) (e_ix (e_var rfl) (e_var rfl) (ixD_lst (hangL_at hk))) rfl rfl) rfl rfl (fun j hj => ?_) ?_
        · rw [flatMap_one] at e2
          refine e_cmp (e_lit _) e2 ?_
          exact notin_false _ _
        · refine st_yes rfl if_nil (e_cmp (x := .p (.int (j : Nat))) (y := .ref (m.length + 1) 0) (e_var rfl) (e_var rfl) ?_)
          unfold cmpD
          rw [show rg (.ref (m.length + 1) 0) (wM m s) = some (.lst (natP s.dn)) from hc]
          exact in_nat j s.dn
        · rw [flatMap_one, List.length_map]
          have := depsOf_len (rows[k]) (rows.take k) 0
          unfold hung
          rw [List.getElem?_eq_getElem hk]
          rw [List.length_take] at this
          show (depsOf rows[k] 0 (rows.take k)).length ≤ line
          unfold line
          omega
    show stp (prog.call d) prog.mt _ _ _ _ _ _ = Out.ok (if (!s.dn.contains k && (hung rows k).all fun j => s.dn.contains j) = true then [P.int (k : Nat)] else []) _
    cases hq : (!s.dn.contains k && (hung rows k).all fun j => s.dn.contains j) with
    | true => rw [hq] at ht; exact st_yes rfl (if_one ht rfl) (e_var rfl)
    | false => rw [hq] at ht; exact st_no rfl (if_one ht rfl)
  · rw [flatMap_if, List.length_map]
    have := List.length_filter_le (fun k => !s.dn.contains k && (hung rows k).all fun j => s.dn.contains j) (List.range rows.length)
    rw [List.length_range] at this
    unfold line
    omega
end K02
end Lot
namespace Lot
open PySem
namespace K02
variable {d : Nat} {m : Mem}
def lW : CSs := match f_law_plain_block.body with
  | .cons _ (.cons _ (.cons _ (.cons _ (.cons (.while _ b) _)))) => b
  | _ => .nil
def lI : CSs := match lW with
  | .cons _ (.cons (.for _ _ b) _) => b
  | _ => .nil
def wordsL : List P := [.str "num", .str "add", .str "less", .str "times", .str "min", .str "read", .str "write", .str "out"]
abbrev lR (rows : List Rw) (m : Mem) (t0 t1 t2 t4 t7 t8 t12 t13 t14 : Option D) : Env := [t0, t1, t2, some (.p (rowsP rows)), t4, some (.p (.lst wordsL)), some (.ref m.length 0), t7, t8, some (.p (.lst (hangL rows rows.length))), some (.ref (m.length + 1) 0), some (.ref (m.length + 2) 0), t12, t13, t14]
def bestP (rows : List Rw) (nm : List (Str × Str)) (k : Nat) : P := .tup [(cand rows nm k).key, .int (k : Nat), (cand rows nm k).p]
/-- the best of so many that were looked at -/
def bestN (rows : List Rw) (nm : List (Str × Str)) (ks : List Nat) : P := match ks with
  | [] => .non
  | b :: ks => bestP rows nm (sel rows nm b ks)
theorem bestN_app (rows : List Rw) (nm : List (Str × Str)) (k : Nat) : ∀ ks : List Nat, bestN rows nm (ks ++ [k]) = match ks with
    | [] => bestP rows nm k
    | b :: ks => bestP rows nm (if less rows nm k (sel rows nm b ks) then k else sel rows nm b ks)
  | [] => rfl
  | b :: ks => by
    show bestP rows nm (sel rows nm b (ks ++ [k])) = _
    unfold sel
    rw [List.foldl_append]
    rfl
theorem gt_str (y z : Str) (M : Mem) : cmpD .gt (.p (.str y)) (.p (.str z)) M = some (ltT z y) := rfl
section
variable {takes : List Str} {rows : List Rw} {s : St} {t0 t1 t2 t4 t7 t8 t12 t13 t14 : Option D}
theorem l_swap (r : Rw) {M : Mem} : evS (prog.call (d + 2)) prog.mt (getS 1 lI) (lR rows m t0 t1 t2 t4 t7 t8 t12 (some (.p r.p)) t14) M = .ok (.nx (lR rows m t0 t1 t2 t4 t7 t8 t12 (some (.p r.srt.p)) t14)) M := by
  have h1 : evE (prog.call (d + 2)) prog.mt (.cmp .inn (.ix (.var 13) (.lit (.int 0))) (.tup (.cons (.lit (.str "add")) (.cons (.lit (.str "times")) (.cons (.lit (.str "min")) .nil))))) (lR rows m t0 t1 t2 t4 t7 t8 t12 (some (.p r.p)) t14) M = .ok (.p (.bl r.even)) M := by
    refine e_cmp (e_ix (e_var rfl) (e_lit _) (r.hd_ix _)) (e_tup (xs := [.str "add", .str "times", .str "min"]) (ps_cons (e_lit _) (ps_cons (e_lit _) (ps_cons (e_lit _) ps_nil))) (by show 3 ≤ line; decide)) ?_
    cases r with
    | op w x y z => cases w <;> kernel_rfl
    | _ => kernel_rfl
  cases he : r.even with
  | false =>
    rw [he] at h1
    have : r.srt = r := by
      cases r with
      | op w x y z =>
        have he : w.even = false := he
        simp [Rw.srt, he]
      | _ => rfl
    rw [this]
    exact (v_ift_f ((e_and h1 rfl).trans rfl) rfl).trans rfl
  | true =>
    rw [he] at h1
    cases r with
    | op w x y z =>
      have h2 : evE (prog.call (d + 2)) prog.mt (.cmp .gt (.ix (.var 13) (.lit (.int 2))) (.ix (.var 13) (.lit (.int 3)))) (lR rows m t0 t1 t2 t4 t7 t8 t12 (some (.p (Rw.op w x y z).p)) t14) M = .ok (.p (.bl (ltT z y))) M := e_cmp (x := .p (.str y)) (y := .p (.str z)) (e_ix (e_var rfl) (e_lit _) rfl) (e_ix (e_var rfl) (e_lit _) rfl) (gt_str y z M)
      have h3 := (e_and (b := .cmp .gt (.ix (.var 13) (.lit (.int 2))) (.ix (.var 13) (.lit (.int 3)))) (es := .nil) h1 rfl).trans ((if_pos rfl).trans (e_and1.trans h2))
      have he : w.even = true := he
      cases hl : ltT z y with
      | false =>
        rw [hl] at h3
        have : (Rw.op w x y z).srt = .op w x y z := by simp [Rw.srt, he, hl]
        rw [this]
        exact (v_ift_f h3 rfl).trans rfl
      | true =>
        rw [hl] at h3
        have : (Rw.op w x y z).srt = .op w x z y := by simp [Rw.srt, he, hl]
        rw [this]
        refine (v_ift_t h3 rfl).trans ((ss_nx (v_set (e_tup (xs := [.str w.s, .str x, .str z, .str y]) (ps_cons (e_ix (e_var rfl) (e_lit _) rfl) (ps_cons (e_ix (e_var rfl) (e_lit _) rfl) (ps_cons (e_ix (e_var rfl) (e_lit _) rfl) (ps_cons (e_ix (e_var rfl) (e_lit _) rfl) ps_nil)))) (by show 4 ≤ line; decide)))).trans rfl)
    | _ => cases he
theorem l_rank (r : Rw) {M : Mem} : evS (prog.call (d + 2)) prog.mt (getS 2 lI) (lR rows m t0 t1 t2 t4 t7 t8 t12 (some (.p r.p)) t14) M = .ok (.nx (lR rows m t0 t1 t2 t4 t7 t8 t12 (some (.p r.p)) (some (.p r.key)))) M := by
  refine v_set (e_tup (xs := [.int r.idx, .tup r.tl]) (ps_cons (m1 := M) (e_bm (d := .p (.lst wordsL)) (ds := [.p r.hd]) (m1 := M) (m2 := M) rfl rfl (es_one (e_ix (e_var rfl) (e_lit _) (r.hd_ix _))) ?_) (ps_cons (m1 := M) (p := .tup r.tl) ?_ ps_nil)) (by show 2 ≤ line; decide))
  · cases r with
    | op w x y z => cases w <;> kernel_rfl
    | _ => kernel_rfl
  · refine (e_ife (t := r.mk.isNone) (e_cmp (r := r.mk.isNone) (e_call (es_one (e_var rfl)) (c_makes r)) (e_lit _) (by cases r <;> rfl)) rfl).trans ?_
    cases r <;> rfl
theorem l_inner (W : WfB takes rows) (K : Ok takes rows s) : ∃ u7 u13 u14, evS (prog.call (d + 2)) prog.mt (.for (.nm 7) (.seq (.call i_law_ripe (.cons (.var 9) (.cons (.var 10) .nil)))) lI) (lR rows m t0 t1 t2 t4 t7 t8 (some (.p .non)) t13 t14) (wM m s) = .ok (.nx (lR rows m t0 t1 t2 t4 u7 t8 (some (.p (bestN rows s.nm (ripe rows s.dn)))) u13 u14)) (wM m s) := by
  obtain ⟨ρ', M', hf, ⟨u7, u13, u14, h1, h2⟩⟩ := for_inv (g := stays (.p (.lst (natP (ripe rows s.dn))), .lst (natP (ripe rows s.dn)))) (step := fun x ρ m => match bindTg (.nm 7) x ρ with
    | some ρ1 => evSs (prog.call (d + 2)) prog.mt lI ρ1 m
    | none => .bad) (fun n ρ M => ∃ u7 u13 u14, ρ = lR rows m t0 t1 t2 t4 u7 t8 (some (.p (bestN rows s.nm ((ripe rows s.dn).take n)))) u13 u14 ∧ M = wM m s) (natP (ripe rows s.dn)) (lR rows m t0 t1 t2 t4 t7 t8 (some (.p .non)) t13 t14) (wM m s) 0 (by
      rintro i x ρ M hx ⟨u7, u13, u14, rfl, rfl⟩
      rw [Nat.zero_add]
      refine ⟨rfl, ?_⟩
      obtain ⟨k, hk, rfl⟩ := List.getElem?_map .. ▸ hx |> Option.map_eq_some_iff.mp
      have hm := List.mem_of_getElem? hk
      have hlt := (mem_ripe.mp hm).1
      have hr := List.getElem?_eq_getElem hlt
      have hcd : cell (wM m s) m.length 0 = some (.dic false (dcl (encN s.nm))) := cell_loc (i := 0) rfl
      have hren := c_renamed (d := d + 1) (m := wM m s) rows[k] (fN s.nm) hcd (fun x hx => lookup_none (by rw [encN_keys]; exact fresh W K (mem_ripe.mp hm).2.1 (by rw [mkAt_some hr]; exact hx))) (fun v hv => by rw [encN_lookup, (fN_ok K (known W K hm hr hv)).1]; rfl)
      have hcand : ((rows[k]).ren (fN s.nm)).srt = cand rows s.nm k := by unfold cand; rw [hr]
      have htk : (ripe rows s.dn).take (i + 1) = (ripe rows s.dn).take i ++ [k] := by rw [List.take_add_one, hk]; rfl
      have a0 : evS (prog.call (d + 2)) prog.mt (getS 0 lI) (lR rows m t0 t1 t2 t4 (some (.p (.int (k : Nat)))) t8 (some (.p (bestN rows s.nm ((ripe rows s.dn).take i)))) u13 u14) (wM m s) = .ok (.nx (lR rows m t0 t1 t2 t4 (some (.p (.int (k : Nat)))) t8 (some (.p (bestN rows s.nm ((ripe rows s.dn).take i)))) (some (.p ((rows[k]).ren (fN s.nm)).p)) u14)) (wM m s) := v_set (e_call (es_two (e_ix (e_var rfl) (e_var rfl) (ixD_rows hr)) (e_var rfl)) hren)
      have a1 := l_swap (d := d) (rows := rows) (m := m) (t0 := t0) (t1 := t1) (t2 := t2) (t4 := t4) (t7 := some (.p (.int (k : Nat)))) (t8 := t8) (t12 := some (.p (bestN rows s.nm ((ripe rows s.dn).take i)))) (t14 := u14) ((rows[k]).ren (fN s.nm)) (M := wM m s)
      rw [hcand] at a1
      have a2 := l_rank (d := d) (rows := rows) (m := m) (t0 := t0) (t1 := t1) (t2 := t2) (t4 := t4) (t7 := some (.p (.int (k : Nat)))) (t8 := t8) (t12 := some (.p (bestN rows s.nm ((ripe rows s.dn).take i)))) (t14 := u14) (cand rows s.nm k) (M := wM m s)
      have hset : evE (prog.call (d + 2)) prog.mt (.tup (.cons (.var 14) (.cons (.var 7) (.cons (.var 13) .nil)))) (lR rows m t0 t1 t2 t4 (some (.p (.int (k : Nat)))) t8 (some (.p (bestN rows s.nm ((ripe rows s.dn).take i)))) (some (.p (cand rows s.nm k).p)) (some (.p (cand rows s.nm k).key))) (wM m s) = .ok (.p (bestP rows s.nm k)) (wM m s) := e_tup (ps_cons (e_var rfl) (ps_cons (e_var rfl) (ps_cons (e_var rfl) ps_nil))) (by show 3 ≤ line; decide)
      have a3 : evS (prog.call (d + 2)) prog.mt (getS 3 lI) (lR rows m t0 t1 t2 t4 (some (.p (.int (k : Nat)))) t8 (some (.p (bestN rows s.nm ((ripe rows s.dn).take i)))) (some (.p (cand rows s.nm k).p)) (some (.p (cand rows s.nm k).key))) (wM m s) = .ok (.nx (lR rows m t0 t1 t2 t4 (some (.p (.int (k : Nat)))) t8 (some (.p (bestN rows s.nm ((ripe rows s.dn).take (i + 1))))) (some (.p (cand rows s.nm k).p)) (some (.p (cand rows s.nm k).key)))) (wM m s) := by
        rw [htk, bestN_app]
        cases hts : (ripe rows s.dn).take i with
        | nil =>
          refine (v_ift_t (d := .p (.bl true)) (m1 := wM m s) ?_ rfl).trans ((ss_nx (v_set (by rw [hts] at hset; exact hset))).trans rfl)
          exact (e_or (t := true) (d := .p (.bl true)) (e_cmp (x := .p .non) (e_var rfl) (e_lit _) rfl) rfl).trans rfl
        | cons b ts =>
          have hbm : sel rows s.nm b ts ∈ ripe rows s.dn := by
            have : sel rows s.nm b ts ∈ (ripe rows s.dn).take i := by rw [hts]; exact sel_mem
            exact List.mem_of_mem_take this
          obtain ⟨t, ht⟩ := key_cmp (cand_tl W K hm) (cand_tl W K hbm)
          have hls : less rows s.nm k (sel rows s.nm b ts) = t := by unfold less; rw [ht]; cases t <;> rfl
          have ho : evE (prog.call (d + 2)) prog.mt (.or (.cons (.cmp .is (.var 12) (.lit .non)) (.cons (.cmp .lt (.var 14) (.ix (.var 12) (.lit (.int 0)))) .nil))) (lR rows m t0 t1 t2 t4 (some (.p (.int (k : Nat)))) t8 (some (.p (bestP rows s.nm (sel rows s.nm b ts)))) (some (.p (cand rows s.nm k).p)) (some (.p (cand rows s.nm k).key))) (wM m s) = .ok (.p (.bl t)) (wM m s) := by
            refine (e_or (t := false) (d := .p (.bl false)) (e_cmp (x := .p (bestP rows s.nm (sel rows s.nm b ts))) (e_var rfl) (e_lit _) rfl) rfl).trans ?_
            rw [if_neg Bool.false_ne_true, e_or1]
            refine e_cmp (x := .p (cand rows s.nm k).key) (y := .p (cand rows s.nm (sel rows s.nm b ts)).key) (e_var rfl) (e_ix (e_var rfl) (e_lit _) rfl) ?_
            exact ht
          show evS _ _ _ (lR rows m t0 t1 t2 t4 _ t8 (some (.p (bestP rows s.nm (sel rows s.nm b ts)))) _ _) _ = Out.ok (.nx (lR rows m t0 t1 t2 t4 _ t8 (some (.p (bestP rows s.nm (if less rows s.nm k (sel rows s.nm b ts) then k else sel rows s.nm b ts)))) _ _)) _
          rw [hls]
          cases t with
          | true => exact (v_ift_t ho rfl).trans ((ss_nx (v_set (by rw [hts] at hset; exact hset))).trans rfl)
          | false => exact (v_ift_f ho rfl).trans rfl
      exact ⟨_, _, (ss_nx a0).trans ((ss_nx a1).trans ((ss_nx a2).trans ((ss_nx a3).trans rfl))), _, _, _, rfl, rfl⟩) (by rintro ρ M ⟨_, _, _, rfl, rfl⟩; rfl) ⟨t7, t13, t14, rfl, rfl⟩
  subst h1; subst h2
  rw [Nat.zero_add] at hf
  have hl : (natP (ripe rows s.dn)).length = (ripe rows s.dn).length := by unfold natP; rw [List.length_map]
  rw [hl, List.take_length] at hf
  exact ⟨u7, u13, u14, v_for (i_seq (q := .lst (natP (ripe rows s.dn))) (e_call (es_two (e_var rfl) (e_var rfl)) (c_ripe W.nr)) rfl rfl) hf⟩
end
end K02
end Lot
namespace Lot
open PySem
namespace K02
variable {d : Nat} {m : Mem}
section
variable {takes : List Str} {rows : List Rw} {s : St} {t0 t1 t2 t4 t7 t8 t12 t13 t14 : Option D}
theorem l_turn (W : WfB takes rows) (K : Ok takes rows s) (hl : s.dn.length < rows.length) (hf : s.fd.length ≤ 14) :
    ∃ u7 u12 u13 u14, evSs (prog.call (d + 2)) prog.mt lW (lR rows m t0 t1 t2 t4 t7 t8 t12 t13 t14) (wM m s) = .ok (.nx (lR rows m t0 t1 t2 t4 u7 t8 u12 u13 u14)) (wM m (nxt rows s)) := by
  obtain ⟨b, ks, hb, hn, hm, hK, hlen⟩ := ok_nxt W K hl
  obtain ⟨u7, u13, u14, z1⟩ := l_inner (d := d) (m := m) (t0 := t0) (t1 := t1) (t2 := t2) (t4 := t4) (t7 := t7) (t8 := t8) (t13 := t13) (t14 := t14) W K
  rw [hb] at z1
  have z1 : evS (prog.call (d + 2)) prog.mt (getS 1 lW) (lR rows m t0 t1 t2 t4 t7 t8 (some (.p .non)) t13 t14) (wM m s) = .ok (.nx (lR rows m t0 t1 t2 t4 u7 t8 (some (.p (bestP rows s.nm (sel rows s.nm b ks)))) u13 u14)) (wM m s) := z1
  generalize hk : sel rows s.nm b ks = k at hn hm z1
  have hlt := (mem_ripe.mp hm).1
  have hr := List.getElem?_eq_getElem hlt
  have hdl : s.dn.length ≤ 14 := by have := W.nr; omega
  have hnl : s.nm.length ≤ 20 := by have := keys_len K; have := W.nt; omega
  have z0 : evS (prog.call (d + 2)) prog.mt (getS 0 lW) (lR rows m t0 t1 t2 t4 t7 t8 t12 t13 t14) (wM m s) = .ok (.nx (lR rows m t0 t1 t2 t4 t7 t8 (some (.p .non)) t13 t14)) (wM m s) := v_set (e_lit _)
  generalize hc : cand rows s.nm k = c
  have hbp : bestP rows s.nm k = .tup [c.key, .int (k : Nat), c.p] := by unfold bestP; rw [hc]
  rw [hbp] at z1
  have z2 : evS (prog.call (d + 2)) prog.mt (getS 2 lW) (lR rows m t0 t1 t2 t4 u7 t8 (some (.p (.tup [c.key, .int (k : Nat), c.p]))) u13 u14) (wM m s) = .ok (.nx (lR rows m t0 t1 t2 t4 (some (.p (.int (k : Nat)))) t8 (some (.p (.tup [c.key, .int (k : Nat), c.p]))) (some (.p c.p)) (some (.p c.key)))) (wM m s) := v_unp (is := [14, 7, 13]) (xs := [c.key, .int (k : Nat), c.p]) (e_var rfl) rfl rfl
  generalize P.tup [c.key, .int (k : Nat), c.p] = best at z1 z2
  have hmk : c.mk = mkAt rows k := by
    rw [← hc]
    unfold cand
    rw [hr, mkAt_some hr]
    exact ren_mk _ _
  have hcd : cell (wM m s) m.length 0 = some (.dic false (dcl (encN s.nm))) := cell_loc (i := 0) rfl
  have z3 : ∃ c' nm', putR rows s k = ⟨s.dn ++ [k], nm', s.fd ++ [c']⟩ ∧ evS (prog.call (d + 2)) prog.mt (getS 3 lW) (lR rows m t0 t1 t2 t4 (some (.p (.int (k : Nat)))) t8 (some (.p best)) (some (.p c.p)) (some (.p c.key))) (wM m s) = .ok (.nx (lR rows m t0 t1 t2 t4 (some (.p (.int (k : Nat)))) t8 (some (.p best)) (some (.p c'.p)) (some (.p c.key)))) (wM m ⟨s.dn, nm', s.fd⟩) := by
    unfold putR
    rw [hc]
    have ht : evE (prog.call (d + 2)) prog.mt (.cmp .isnot (.call i_law_makes (.cons (.var 13) .nil)) (.lit .non)) (lR rows m t0 t1 t2 t4 (some (.p (.int (k : Nat)))) t8 (some (.p best)) (some (.p c.p)) (some (.p c.key))) (wM m s) = .ok (.p (.bl c.mk.isSome)) (wM m s) := e_cmp (e_call (es_one (e_var rfl)) (c_makes c)) (e_lit _) (by cases c.mk <;> rfl)
    rw [hmk] at ht
    cases hx : mkAt rows k with
    | none =>
      rw [hx] at ht
      exact ⟨c, s.nm, rfl, (v_ift_f ht rfl).trans rfl⟩
    | some x =>
      rw [hx] at ht hmk
      refine ⟨c.re (letter s.nm.length), s.nm ++ [(x, letter s.nm.length)], rfl, (v_ift_t ht rfl).trans ?_⟩
      have hrx : (rows[k]).mk = some x := by rw [← mkAt_some hr]; exact hx
      have hrow : ∀ {M : Mem}, evE (prog.call (d + 2)) prog.mt (.ix (.ix (.var 3) (.var 7)) (.lit (.int 1))) (lR rows m t0 t1 t2 t4 (some (.p (.int (k : Nat)))) t8 (some (.p best)) (some (.p c.p)) (some (.p c.key))) M = .ok (.p (.str x)) M := fun {M} => e_ix (e_ix (e_var rfl) (e_var rfl) (ixD_rows hr)) (e_lit _) (by
        generalize rows[k] = r at hrx
        cases r <;> first | (cases hrx; done) | (cases hrx; rfl))
      have hfr := fresh W K (mem_ripe.mp hm).2.1 hx
      have hlk : (encN s.nm).lookup x = none := lookup_none (by rw [encN_keys]; exact hfr)
      have hs := setix_dic (B := m) (objs := [.val (.dic false (dcl (encN s.nm))), .val (.lst (natP s.dn)), .val (.lst (s.fd.map Rw.p))]) (i := 0) (k := .str x) (v := .str (letter s.nm.length)) rfl rfl (by rw [dcl_len, encN_len]; unfold line; omega)
      rw [put_dcl, putS_new hlk, ← encN_app] at hs
      refine (ss_nx (v_setix (m1 := wM m s) (m2 := wM m s) (m3 := wM m s) (e_ix (x := .p (.str lets)) (y := .p (.int (s.nm.length : Nat))) rfl ((len_dic hcd rfl).trans (by rw [encN_len])) (ixD_lets (by omega))) (e_var rfl) hrow hs)).trans ?_
      have hcd2 : cell (wM m ⟨s.dn, s.nm ++ [(x, letter s.nm.length)], s.fd⟩) m.length 0 = some (.dic false (dcl (encN (s.nm ++ [(x, letter s.nm.length)])))) := cell_loc (i := 0) rfl
      have hix : ixD (.ref m.length 0) (.p (.str x)) (wM m ⟨s.dn, s.nm ++ [(x, letter s.nm.length)], s.fd⟩) = some (.str (letter s.nm.length)) := by
        refine ixD_dic hcd2 ?_
        rw [encN_app, lookup_app, hlk]
        simp
      have hadd : evE (prog.call (d + 2)) prog.mt (.bin .add (.tup (.cons (.ix (.var 13) (.lit (.int 0))) (.cons (.ix (.var 6) (.ix (.ix (.var 3) (.var 7)) (.lit (.int 1)))) .nil))) (.slice (.var 13) (.lit (.int 2)) .nob)) (lR rows m t0 t1 t2 t4 (some (.p (.int (k : Nat)))) t8 (some (.p best)) (some (.p c.p)) (some (.p c.key))) (wM m ⟨s.dn, s.nm ++ [(x, letter s.nm.length)], s.fd⟩) = .ok (.p (c.re (letter s.nm.length)).p) (wM m ⟨s.dn, s.nm ++ [(x, letter s.nm.length)], s.fd⟩) := by
        rw [← re_p hmk]
        refine e_bin (op := .add) (p := .tup [c.hd, .str (letter s.nm.length)]) (q := .tup c.tl) (e_tup (ps_cons (e_ix (e_var rfl) (e_lit _) (c.hd_ix _)) (ps_cons (e_ix (e_var rfl) hrow hix) ps_nil)) (by show 2 ≤ line; decide)) (e_slice (e_var rfl) rfl rfl (sl2 hmk _)) rfl rfl ?_
        exact add_tup (by have := tl_len c; simp; omega)
      exact (ss_nx (v_set hadd)).trans rfl
  obtain ⟨c', nm', hp, z3⟩ := z3
  have z4 : evS (prog.call (d + 2)) prog.mt (getS 4 lW) (lR rows m t0 t1 t2 t4 (some (.p (.int (k : Nat)))) t8 (some (.p best)) (some (.p c'.p)) (some (.p c.key))) (wM m ⟨s.dn, nm', s.fd⟩) = .ok (.nx (lR rows m t0 t1 t2 t4 (some (.p (.int (k : Nat)))) t8 (some (.p best)) (some (.p c'.p)) (some (.p c.key)))) (wM m ⟨s.dn ++ [k], nm', s.fd⟩) := by
    have ha := app_loc (B := m) (objs := [.val (.dic false (dcl (encN nm'))), .val (.lst (natP s.dn)), .val (.lst (s.fd.map Rw.p))]) (i := 1) (l := natP s.dn) (y := .int (k : Nat)) rfl (by unfold natP line; rw [List.length_map]; omega)
    have e : natP s.dn ++ [.int (k : Nat)] = natP (s.dn ++ [k]) := by unfold natP; simp
    rw [e] at ha
    exact v_expr (e_bm (e_var rfl) (bmT_loc (B := m) (i := 1) (l := natP s.dn) rfl rfl) (es_one (e_var rfl)) ha)
  have z5 : evS (prog.call (d + 2)) prog.mt (getS 5 lW) (lR rows m t0 t1 t2 t4 (some (.p (.int (k : Nat)))) t8 (some (.p best)) (some (.p c'.p)) (some (.p c.key))) (wM m ⟨s.dn ++ [k], nm', s.fd⟩) = .ok (.nx (lR rows m t0 t1 t2 t4 (some (.p (.int (k : Nat)))) t8 (some (.p best)) (some (.p c'.p)) (some (.p c.key)))) (wM m ⟨s.dn ++ [k], nm', s.fd ++ [c']⟩) := by
    have ha := app_loc (B := m) (objs := [.val (.dic false (dcl (encN nm'))), .val (.lst (natP (s.dn ++ [k]))), .val (.lst (s.fd.map Rw.p))]) (i := 2) (l := s.fd.map Rw.p) (y := c'.p) rfl (by unfold line; rw [List.length_map]; omega)
    have e : s.fd.map Rw.p ++ [c'.p] = (s.fd ++ [c']).map Rw.p := by simp
    rw [e] at ha
    exact v_expr (e_bm (e_var rfl) (bmT_loc (B := m) (i := 2) (l := s.fd.map Rw.p) rfl rfl) (es_one (e_var rfl)) ha)
  rw [hn, hp]
  exact ⟨_, _, _, _, (ss_nx z0).trans ((ss_nx z1).trans ((ss_nx z2).trans ((ss_nx z3).trans ((ss_nx z4).trans ((ss_nx z5).trans rfl)))))⟩
theorem l_run (W : WfB takes rows) (t0 t1 t2 t4 t7 t8 t12 t13 t14 : Option D) :
    ∃ u7 u12 u13 u14, evS (prog.call (d + 2)) prog.mt (.while (.cmp .lt (.prim .len (.cons (.var 10) .nil)) (.prim .len (.cons (.var 3) .nil))) lW) (lR rows m t0 t1 t2 t4 t7 t8 t12 t13 t14) (wM m (st0 takes)) = .ok (.nx (lR rows m t0 t1 t2 t4 u7 t8 u12 u13 u14)) (wM m (endSt takes rows)) := by
  have htest : ∀ (s : St) (u7 u12 u13 u14 : Option D), (evE (prog.call (d + 2)) prog.mt (.cmp .lt (.prim .len (.cons (.var 10) .nil)) (.prim .len (.cons (.var 3) .nil))) (lR rows m t0 t1 t2 t4 u7 t8 u12 u13 u14) (wM m s)).bind truthO = .ok (decide (s.dn.length < rows.length)) (wM m s) := fun s u7 u12 u13 u14 => by
    have hc : cell (wM m s) (m.length + 1) 0 = some (.lst (natP s.dn)) := cell_loc (i := 1) rfl
    rw [bind_ok_of (e_cmp (r := decide (s.dn.length < rows.length)) (e_len (n := ((natP s.dn).length : Nat)) (q := .lst (natP s.dn)) (x := .ref (m.length + 1) 0) (e_var rfl) (show rg (.ref (m.length + 1) 0) (wM m s) = _ from hc) rfl) (e_len (n := ((rows.map Rw.p).length : Nat)) (q := rowsP rows) (e_var rfl) rfl rfl) (by
      show some (decide (((natP s.dn).length : Int) < ((rows.map Rw.p).length : Nat))) = _
      unfold natP
      rw [List.length_map, List.length_map]
      congr 1
      rw [decide_eq_decide]
      omega))]
    rfl
  obtain ⟨ρ', M', hw, ⟨s, u7, u12, u13, u14, hK, hl, hrun, hfd, h1, h2⟩⟩ := while_inv (test := fun ρ m => (evE (prog.call (d + 2)) prog.mt (.cmp .lt (.prim .len (.cons (.var 10) .nil)) (.prim .len (.cons (.var 3) .nil))) ρ m).bind truthO) (body := fun ρ m => evSs (prog.call (d + 2)) prog.mt lW ρ m)
    (fun k ρ M => ∃ s u7 u12 u13 u14, Ok takes rows s ∧ s.dn.length + k = rows.length ∧ runN rows k s = endSt takes rows ∧ s.fd.length = s.dn.length ∧ ρ = lR rows m t0 t1 t2 t4 u7 t8 u12 u13 u14 ∧ M = wM m s) rows.length fuel (lR rows m t0 t1 t2 t4 t7 t8 t12 t13 t14) (wM m (st0 takes)) (by have := W.nr; unfold fuel; omega) (by
      rintro k ρ M ⟨s, u7, u12, u13, u14, hK, hl, hrun, hfd, rfl, rfl⟩
      have hlt : s.dn.length < rows.length := by omega
      refine ⟨?_, ?_⟩
      · show (evE _ _ _ _ _).bind truthO = _
        rw [htest, decide_eq_true hlt]
      · have := W.nr
        obtain ⟨v7, v12, v13, v14, hb⟩ := l_turn (d := d) (m := m) (t0 := t0) (t1 := t1) (t2 := t2) (t4 := t4) (t7 := u7) (t8 := t8) (t12 := u12) (t13 := u13) (t14 := u14) W hK hlt (by omega)
        obtain ⟨b, ks, _, hn, _, K', l'⟩ := ok_nxt W hK hlt
        refine ⟨_, _, hb, nxt rows s, v7, v12, v13, v14, K', by omega, hrun, ?_, rfl, rfl⟩
        rw [l', hn]
        unfold putR
        cases mkAt rows (sel rows s.nm b ks) <;> (show (s.fd ++ [_]).length = _; rw [List.length_append, hfd]; rfl)) (by
      rintro ρ M ⟨s, u7, u12, u13, u14, hK, hl, hrun, hfd, rfl, rfl⟩
      show (evE _ _ _ _ _).bind truthO = _
      rw [htest, decide_eq_false (by omega)]) ⟨st0 takes, t7, t12, t13, t14, ok_st0, by show 0 + _ = _; omega, rfl, rfl, rfl, rfl⟩
  subst h1; subst h2
  have hrun : s = endSt takes rows := hrun
  subst hrun
  exact ⟨u7, u12, u13, u14, v_while hw⟩
end
end K02
end Lot
namespace Lot
open PySem
theorem for_cons {g : Mem → Bool} {step : P → Env → Mem → Out Fl} {x : P} {L : List P} {ρ ρ1 : Env} {m m1 : Mem} {r : Out Fl} (hg : g m = true) (h : step x ρ m = .ok (.nx ρ1) m1) (h2 : forL g step L ρ1 m1 = r) : forL g step (x :: L) ρ m = r := by
  show (if g m = true then (step x ρ m).bind _ else .bad) = r
  rw [if_pos hg, h]; exact h2
theorem for_nil {g : Mem → Bool} {step : P → Env → Mem → Out Fl} {ρ : Env} {m : Mem} (hg : g m = true) : forL g step [] ρ m = .ok (.nx ρ) m := by
  unfold forL
  rw [if_pos hg]
theorem cell_app {M objs : Mem} {n k : Nat} (h : n < M.length) : cell (M ++ objs) n k = cell M n k := by
  unfold cell
  have : getM (M ++ objs) n = getM M n := by
    unfold getM
    rw [List.getElem?_append_left h]
  rw [this]
namespace K02
variable {d : Nat} {M : Mem}
def leB : CSs := match f_law_ended.body with
  | .cons _ (.cons (.for _ _ b) _) => b
  | _ => .nil
abbrev leR (F : P) (n : Nat) (M : Mem) (t3 t4 t5 : Option D) : Env := [some (.p F), some (.ref n 0), some (.ref M.length 0), t3, t4, t5]
theorem le_app {n : Nat} {F : P} {acc : List P} {o : P} {t3 t4 t5 : Option D} {e : CE} (he : evE (prog.call d) prog.mt e (leR F n M t3 t4 t5) (M ++ [.val (.lst acc)]) = .ok (.p o) (M ++ [.val (.lst acc)])) (hl : acc.length < 100) : evS (prog.call d) prog.mt (.expr (.bmeth .append (.var 2) (.cons e .nil))) (leR F n M t3 t4 t5) (M ++ [.val (.lst acc)]) = .ok (.nx (leR F n M t3 t4 t5)) (M ++ [.val (.lst (acc ++ [o]))]) :=
  v_expr (e_bm (e_var rfl) (bmT_loc (B := M) (i := 0) (l := acc) rfl rfl) (es_one he) (app_loc (B := M) (i := 0) (objs := [.val (.lst acc)]) rfl (by unfold line; omega)))
/-- a part that stays: a text -/
theorem le_str {n : Nat} {F : P} {h : Str} {xs : List P} {acc : List P} {s : Str} {k : Nat} {t4 t5 : Option D} (hF : F = .tup (.str h :: xs)) (hk : (h == ("when" : Str) && decide (k = 1)) = false) (hl : acc.length < 100) :
    evSs (prog.call d) prog.mt leB (leR F n M (some (.p (.int (k : Nat)))) (some (.p (.str s))) t5) (M ++ [.val (.lst acc)]) = .ok (.nx (leR F n M (some (.p (.int (k : Nat)))) (some (.p (.str s))) t5)) (M ++ [.val (.lst (acc ++ [.str s]))]) := by
  subst hF
  refine (ss_nx (s := getS 0 leB) ((v_ift_f (d := .p (.bl false)) (m1 := M ++ [.val (.lst acc)]) (e_prim (es_one (e_var rfl)) rfl) rfl).trans ss_nil)).trans ?_
  refine (ss_nx (le_app (o := .str s) ?_ hl)).trans rfl
  have ht : evE (prog.call d) prog.mt (.and (.cons (.cmp .eq (.ix (.var 0) (.lit (.int 0))) (.lit (.str "when"))) (.cons (.cmp .eq (.var 3) (.lit (.int 1))) .nil))) (leR (.tup (.str h :: xs)) n M (some (.p (.int (k : Nat)))) (some (.p (.str s))) t5) (M ++ [.val (.lst acc)]) = .ok (.p (.bl false)) (M ++ [.val (.lst acc)]) := by
    refine (e_and (t := h == ("when" : Str)) (e_cmp (e_ix (x := .p (.tup (.str h :: xs))) (e_var rfl) (e_lit _) (ixD_tup (i := 0) rfl)) (e_lit _) rfl) rfl).trans ?_
    cases hh : h == ("when" : Str) with
    | false => rfl
    | true =>
      rw [hh, Bool.true_and] at hk
      rw [if_pos rfl, e_and1]
      refine (e_cmp (e_var rfl) (e_lit _) (r := decide (k = 1)) ?_).trans (by rw [hk])
      show some (((k : Nat) : Int) == 1) = _
      congr 1
      rw [Bool.eq_iff_iff]
      simp
      omega
  exact (e_ife ht rfl).trans ((if_neg Bool.false_ne_true).trans (e_var rfl))
/-- the value that when looks at -/
theorem le_when {n : Nat} {F : P} {xs : List P} {acc : List P} {s : Str} {f : Str → Str} {L : List (Str × P)} {t4 t5 : Option D} (hF : F = .tup (.str "when" :: xs)) (hn : n < M.length) (hc : cell M n 0 = some (.dic false (dcl L))) (hs : L.lookup s = some (.str (f s))) (hl : acc.length < 100) :
    evSs (prog.call d) prog.mt leB (leR F n M (some (.p (.int 1))) (some (.p (.str s))) t5) (M ++ [.val (.lst acc)]) = .ok (.nx (leR F n M (some (.p (.int 1))) (some (.p (.str s))) t5)) (M ++ [.val (.lst (acc ++ [.str (f s)]))]) := by
  subst hF
  refine (ss_nx (s := getS 0 leB) ((v_ift_f (d := .p (.bl false)) (m1 := M ++ [.val (.lst acc)]) (e_prim (es_one (e_var rfl)) rfl) rfl).trans ss_nil)).trans ?_
  refine (ss_nx (le_app (o := .str (f s)) ?_ hl)).trans rfl
  have ht : evE (prog.call d) prog.mt (.and (.cons (.cmp .eq (.ix (.var 0) (.lit (.int 0))) (.lit (.str "when"))) (.cons (.cmp .eq (.var 3) (.lit (.int 1))) .nil))) (leR (.tup (.str "when" :: xs)) n M (some (.p (.int 1))) (some (.p (.str s))) t5) (M ++ [.val (.lst acc)]) = .ok (.p (.bl true)) (M ++ [.val (.lst acc)]) := by
    refine (e_and (t := true) (d := .p (.bl true)) (e_cmp (e_ix (x := .p (.tup (.str "when" :: xs))) (e_var rfl) (e_lit _) (ixD_tup (i := 0) rfl)) (e_lit _) (by kernel_rfl)) rfl).trans ?_
    rw [if_pos rfl, e_and1]
    exact e_cmp (e_var rfl) (e_lit _) rfl
  refine (e_ife ht rfl).trans ((if_pos rfl).trans (e_ix (x := .ref n 0) (y := .p (.str s)) (e_var rfl) (e_var rfl) (ixD_dic (l := L) ?_ hs)))
  rw [cell_app hn]; exact hc
/-- a tuple of values -/
theorem le_tup {n : Nat} {F : P} {h : Str} {xs : List P} {acc : List P} {l : List Str} {f : Str → Str} {L : List (Str × P)} {k : Nat} {t4 t5 : Option D} (hF : F = .tup (.str h :: xs)) (hk : k ≠ 1 ∨ (h == ("when" : Str)) = false) (hn : n < M.length) (hc : cell M n 0 = some (.dic false (dcl L))) (hs : ∀ v ∈ l, L.lookup v = some (.str (f v))) (hl : acc.length < 100) (hll : l.length ≤ 20) :
    ∃ u5, evSs (prog.call d) prog.mt leB (leR F n M (some (.p (.int (k : Nat)))) (some (.p (tupS l))) t5) (M ++ [.val (.lst acc)]) = .ok (.nx (leR F n M (some (.p (.int (k : Nat)))) (some (.p (tupS (l.map f)))) u5)) (M ++ [.val (.lst (acc ++ [tupS (l.map f)]))]) := by
  subst hF
  have hn1 := names_tup (cf := prog.call d) (mt := prog.mt) (ρ := leR (.tup (.str h :: xs)) n M (some (.p (.int (k : Nat)))) (some (.p (tupS l))) t5) (m := M ++ [.val (.lst acc)]) (dl := .ref n 0) (l := l) (f := f) (v := 5) (w := 1) (e := .var 4) (by show 5 < 6; decide) rfl (by decide) (e_var rfl) (fun v hv => ixD_dic (l := L) (by rw [cell_app hn]; exact hc) (hs v hv)) (by omega)
  refine ⟨t5, (ss_nx (s := getS 0 leB) ((v_ift_t (d := .p (.bl true)) (m1 := M ++ [.val (.lst acc)]) (e_prim (es_one (e_var rfl)) rfl) rfl).trans ((ss_nx (v_set hn1)).trans ss_nil))).trans ?_⟩
  refine (ss_nx (le_app (o := tupS (l.map f)) (t4 := some (.p (tupS (l.map f)))) ?_ hl)).trans rfl
  have ht : evE (prog.call d) prog.mt (.and (.cons (.cmp .eq (.ix (.var 0) (.lit (.int 0))) (.lit (.str "when"))) (.cons (.cmp .eq (.var 3) (.lit (.int 1))) .nil))) (leR (.tup (.str h :: xs)) n M (some (.p (.int (k : Nat)))) (some (.p (tupS (l.map f)))) t5) (M ++ [.val (.lst acc)]) = .ok (.p (.bl false)) (M ++ [.val (.lst acc)]) := by
    refine (e_and (t := h == ("when" : Str)) (e_cmp (e_ix (x := .p (.tup (.str h :: xs))) (e_var rfl) (e_lit _) (ixD_tup (i := 0) rfl)) (e_lit _) rfl) rfl).trans ?_
    cases hh : h == ("when" : Str) with
    | false => rfl
    | true =>
      have hk : k ≠ 1 := by
        rcases hk with h | h
        · exact h
        · rw [hh] at h; cases h
      rw [if_pos rfl, e_and1]
      refine e_cmp (e_var rfl) (e_lit _) (r := false) ?_
      show some (((k : Nat) : Int) == 1) = _
      congr 1
      simp
      omega
  exact (e_ife ht rfl).trans ((if_neg Bool.false_ne_true).trans (e_var rfl))
theorem c_law_ended (b : Fi) (hs : b.short) (f : Str → Str) {n : Nat} {L : List (Str × P)} (hn : n < M.length) (hc : cell M n 0 = some (.dic false (dcl L))) (h : ∀ v ∈ b.vals, L.lookup v = some (.str (f v))) : prog.call (d + 1) i_law_ended [.p b.p, .ref n 0] M = .ok (.p (b.ren f).p) M := by
  have hw : ∃ (xs ys : List P) (ρ' : Env), b.p = .tup xs ∧ (b.ren f).p = .tup ys ∧ forL (stays (.p b.p, b.p)) (fun x ρ m => match bindTg (.tp [3, 4]) x ρ with
      | some ρ1 => evSs (prog.call d) prog.mt leB ρ1 m
      | none => .bad) (enumL 0 xs) (leR b.p n M none none none) (M ++ [.val (.lst [])]) = .ok (.nx ρ') (M ++ [.val (.lst ys)]) ∧ (ρ'[2]?).bind id = some (.ref M.length 0) := by
    cases b with
    | stop l =>
      obtain ⟨u5, h2⟩ := le_tup (d := d) (M := M) (n := n) (F := (Fi.stop l).p) (acc := [.str "stop"]) (l := l) (f := f) (k := 1) (t4 := none) (t5 := none) rfl (.inr (by kernel_rfl)) hn hc h (by show 1 < 100; decide) hs
      refine ⟨_, _, _, rfl, rfl, for_cons rfl (le_str (d := d) (M := M) (n := n) (F := (Fi.stop l).p) (acc := []) (s := "stop") (k := 0) (t4 := none) (t5 := none) rfl (by simp) (by decide)) (for_cons rfl h2 (for_nil rfl)), rfl⟩
    | go q l =>
      obtain ⟨u5, h2⟩ := le_tup (d := d) (M := M) (n := n) (F := (Fi.go q l).p) (acc := [.str "go", .str q]) (l := l) (f := f) (k := 2) (t4 := none) (t5 := none) rfl (.inl (by decide)) hn hc h (by show 2 < 100; decide) hs
      refine ⟨_, _, _, rfl, rfl, for_cons rfl (le_str (d := d) (M := M) (n := n) (F := (Fi.go q l).p) (acc := []) (s := "go") (k := 0) (t4 := none) (t5 := none) rfl (by simp) (by decide)) (for_cons rfl (le_str (d := d) (M := M) (n := n) (F := (Fi.go q l).p) (acc := [.str "go"]) (s := q) (k := 1) (t4 := none) (t5 := none) rfl (by kernel_rfl) (by show 1 < 100; decide)) (for_cons rfl h2 (for_nil rfl))), rfl⟩
    | whn x q l k z =>
      have hx : ∀ v ∈ x :: (l ++ z), L.lookup v = some (.str (f v)) := h
      obtain ⟨u5, h3⟩ := le_tup (d := d) (M := M) (n := n) (F := (Fi.whn x q l k z).p) (acc := [.str "when", .str (f x), .str q]) (l := l) (f := f) (k := 3) (t4 := none) (t5 := none) rfl (.inl (by decide)) hn hc (fun v hv => hx v (List.mem_cons_of_mem _ (List.mem_append.mpr (.inl hv)))) (by show 3 < 100; decide) hs.1
      obtain ⟨u6, h5⟩ := le_tup (d := d) (M := M) (n := n) (F := (Fi.whn x q l k z).p) (acc := [.str "when", .str (f x), .str q, tupS (l.map f), .str k]) (l := z) (f := f) (k := 5) (t4 := none) (t5 := u5) rfl (.inl (by decide)) hn hc (fun v hv => hx v (List.mem_cons_of_mem _ (List.mem_append.mpr (.inr hv)))) (by show 5 < 100; decide) hs.2
      refine ⟨_, _, _, rfl, rfl, for_cons rfl (le_str (d := d) (M := M) (n := n) (F := (Fi.whn x q l k z).p) (acc := []) (s := "when") (k := 0) (t4 := none) (t5 := none) rfl (by simp) (by decide)) (for_cons rfl (le_when (d := d) (M := M) (n := n) (F := (Fi.whn x q l k z).p) (acc := [.str "when"]) (s := x) (f := f) (t4 := none) (t5 := none) rfl hn hc (hx x (List.mem_cons_self ..)) (by show 1 < 100; decide)) (for_cons rfl (le_str (d := d) (M := M) (n := n) (F := (Fi.whn x q l k z).p) (acc := [.str "when", .str (f x)]) (s := q) (k := 2) (t4 := none) (t5 := none) rfl (by simp) (by show 2 < 100; decide)) (for_cons rfl h3 (for_cons rfl (le_str (d := d) (M := M) (n := n) (F := (Fi.whn x q l k z).p) (acc := [.str "when", .str (f x), .str q, tupS (l.map f)]) (s := k) (k := 4) (t4 := none) (t5 := u5) rfl (by simp) (by show 4 < 100; decide)) (for_cons rfl h5 (for_nil rfl)))))), rfl⟩
  obtain ⟨xs, ys, ρ', e1, e2, hf, h2⟩ := hw
  refine call_l (q := f_law_ended) (B := M) (objs := [.val (.lst ys)]) rfl rfl ?_ rfl
  refine (ss_nx (v_set (e_alloc (e_lst ps_nil (Nat.zero_le _))))).trans ?_
  refine (ss_nx (v_for (i_enum (q := b.p) (l := xs) (e_var rfl) (.inr e1) rfl) hf)).trans ?_
  rw [e2]
  refine ss_rt (v_ret (e_prim (es_one (e_var h2)) ?_))
  show pureO .tuple [.ref M.length 0] (M ++ [.val (.lst ys)]) = _
  unfold pureO
  have hcc : cell (M ++ [Obj.val (.lst ys)]) M.length 0 = some (.lst ys) := cell_loc (i := 0) rfl
  simp only [rds, rd, hcc]
  rfl
end K02
end Lot
namespace Lot
open PySem
theorem prim_dict {l : List (Str × P)} {m : Mem} (hl : l.length ≤ 1000) : primD .dict [.p (.lst (dcl l))] m = .ok (.ref m.length 0) (m ++ [.val (.dic false (foldD (dcl l) []))]) := by
  show dictO [.p (.lst (dcl l))] m = _
  unfold dictO
  simp only [rds, rd]
  rw [if_pos]
  · rfl
  · rw [Bool.and_eq_true, decide_eq_true_eq]
    refine ⟨?_, by rw [dcl_len]; unfold line; omega⟩
    unfold dcl
    rw [List.all_map, List.all_eq_true]
    intro x _
    rfl
theorem prim_tupR {n : Nat} {l : List P} {m : Mem} (h : cell m n 0 = some (.lst l)) : primD .tuple [.ref n 0] m = .ok (.p (.tup l)) m := by
  show pureO .tuple [.ref n 0] m = _
  unfold pureO
  simp only [rds, rd, h]
  rfl
theorem ixD_abc {i : Nat} {m : Mem} (h : i < 6) : ixD (.p (.str "abcdef")) (.p (.int i)) m = some (.str (letter i)) := by
  match i, h with
  | 0, _ => kernel_rfl
  | 1, _ => kernel_rfl
  | 2, _ => kernel_rfl
  | 3, _ => kernel_rfl
  | 4, _ => kernel_rfl
  | 5, _ => kernel_rfl
namespace K02
variable {d : Nat} {m : Mem}
theorem c_law_plain_block (b : Blk) (B : BOk b) : prog.call (d + 3) i_law_plain_block [.p b.p] m = .ok (.p b.pb.p) m := by
  have W := B.wf
  obtain ⟨u7, u12, u13, u14, hw⟩ := l_run (d := d) (m := m) W (some (.p b.p)) (some (.p (.str b.name))) (some (.p (tupS b.takes))) (some (.p b.fin.p)) none none none none none
  refine call_l (q := f_law_plain_block) (B := m) (objs := [.val (.dic false (dcl (encN (endSt b.takes b.rows).nm))), .val (.lst (natP (endSt b.takes b.rows).dn)), .val (.lst ((endSt b.takes b.rows).fd.map Rw.p))]) rfl rfl ?_ rfl
  refine (ss_nx (v_unp (xs := [.str b.name, tupS b.takes, rowsP b.rows, b.fin.p]) (e_var rfl) rfl rfl)).trans ?_
  refine (ss_nx (v_set (m1 := m) (d := .p (.lst wordsL)) rfl)).trans ?_
  have nd : b.takes.Nodup := by have := W.nd; rw [List.nodup_append] at this; exact this.1
  have hl : (encN (st0 b.takes).nm).length ≤ 1000 := by
    rw [encN_len]
    have := W.nt
    show (b.takes.zipIdx.map fun (x : Str × Nat) => (x.1, letter x.2)).length ≤ 1000
    rw [List.length_map, List.length_zipIdx]
    omega
  have hd := e_compP (cf := prog.call (d + 2)) (mt := prog.mt) (ρ := [some (.p b.p), some (.p (.str b.name)), some (.p (tupS b.takes)), some (.p (rowsP b.rows)), some (.p b.fin.p), some (.p (.lst wordsL)), none, none, none, none, none, none, none, none, none]) (m := m) (elt := .tup (.cons (.var 8) (.cons (.ix (.lit (.str "abcdef")) (.var 7)) .nil))) (tg := .tp [7, 8]) (it := .enum (.var 2)) (ifs := .nil) (L := enumL 0 (b.takes.map P.str)) F0 (i_enum (q := tupS b.takes) (e_var rfl) (.inr rfl) rfl) rfl (fun x hx => by
    obtain ⟨i, hi⟩ := List.getElem?_of_mem hx
    obtain ⟨y, hy, rfl⟩ := enumL_get' hi
    obtain ⟨t, ht, rfl⟩ := List.getElem?_map .. ▸ hy |> Option.map_eq_some_iff.mp
    have hlt := (List.getElem?_eq_some_iff.mp ht).1
    have := W.nt
    exact st_yes rfl if_nil (e_tup (xs := [.str t, .str (letter i)]) (ps_cons (e_var rfl) (ps_cons (e_ix (e_lit _) (e_var rfl) (ixD_abc (by omega))) ps_nil)) (by show 2 ≤ line; decide))) (by
    rw [flat_F0, dcl_len]
    exact Nat.le_trans hl (by decide))
  rw [flat_F0] at hd
  have hfold : foldD (dcl (encN (st0 b.takes).nm)) [] = dcl (encN (st0 b.takes).nm) := by
    have := foldD_new (encN (st0 b.takes).nm) [] (by
      rw [List.nil_append, encN_keys]
      show ((b.takes.zipIdx.map fun (x : Str × Nat) => (x.1, letter x.2)).map (fun (x : Str × Str) => x.1)).Nodup
      rw [List.map_map]
      show (b.takes.zipIdx.map Prod.fst).Nodup
      rw [List.zipIdx_map_fst]
      exact nd)
    rw [List.nil_append] at this
    exact this
  have hp := prim_dict (m := m) hl
  rw [hfold] at hp
  refine (ss_nx (v_set (e_prim (es_one hd) hp))).trans ?_
  refine (ss_nx (v_par (es_cons (e_call (es_one (e_var rfl)) (c_hung b.rows (by have := W.nr; omega))) (es_two (e_alloc (e_lst ps_nil (Nat.zero_le _))) (e_alloc (e_lst ps_nil (Nat.zero_le _))))) ⟨rfl, by show 3 ≤ 1000; decide⟩)).trans ?_
  have e1 : (m ++ [Obj.val (.dic false (dcl (encN (st0 b.takes).nm)))]).length = m.length + 1 := by simp
  have e2 : ((m ++ [Obj.val (.dic false (dcl (encN (st0 b.takes).nm)))]) ++ [Obj.val (.lst [])]).length = m.length + 2 := by simp
  rw [e1, e2]
  have e3 : ((m ++ [Obj.val (.dic false (dcl (encN (st0 b.takes).nm)))]) ++ [Obj.val (.lst [])]) ++ [Obj.val (.lst [])] = wM m (st0 b.takes) := by
    rw [List.append_assoc, List.append_assoc]
    rfl
  rw [e3]
  refine (ss_nx hw).trans ?_
  have hk : ∀ v ∈ b.takes ++ b.rows.filterMap Rw.mk, v ∈ (endSt b.takes b.rows).nm.map (fun (kv : Str × Str) => kv.1) := fun v hv => end_all W hv
  have hend := (end_ok W).1
  have htk := end_takes W
  unfold Blk.pb
  generalize endSt b.takes b.rows = s at hk hend htk
  have hcd : cell (wM m s) m.length 0 = some (.dic false (dcl (encN s.nm))) := cell_loc (i := 0) rfl
  have hcf : cell (wM m s) (m.length + 2) 0 = some (.lst (s.fd.map Rw.p)) := cell_loc (i := 2) rfl
  have hlk : ∀ v ∈ b.takes ++ b.rows.filterMap Rw.mk, (encN s.nm).lookup v = some (.str (fN s.nm v)) := fun v hv => by
    rw [encN_lookup, (fN_ok hend (hk v hv)).1]
    rfl
  have h1 := names_tup (cf := prog.call (d + 2)) (mt := prog.mt) (ρ := lR b.rows m (some (.p b.p)) (some (.p (.str b.name))) (some (.p (tupS b.takes))) (some (.p b.fin.p)) u7 none u12 u13 u14) (m := wM m s) (dl := .ref m.length 0) (l := b.takes) (f := fN s.nm) (v := 8) (w := 6) (e := .var 2) (by show 8 < 15; decide) rfl (by decide) (e_var rfl) (fun v hv => ixD_dic hcd (hlk v (List.mem_append.mpr (.inl hv)))) (by have := W.nt; omega)
  rw [htk] at h1
  have h2 := c_law_ended (d := d + 1) (M := wM m s) b.fin B.short (fN s.nm) (n := m.length) (by simp [wM]) hcd (fun v hv => hlk v (B.vals v hv))
  exact ss_rt (v_ret (e_tup (xs := [.str b.name, tupS ((List.range b.takes.length).map letter), rowsP s.fd, (b.fin.ren (fN s.nm)).p]) (ps_cons (e_var rfl) (ps_cons h1 (ps_cons (e_prim (es_one (e_var rfl)) (prim_tupR hcf)) (ps_cons (e_call (es_two (e_var rfl) (e_var rfl)) h2) ps_nil)))) (by show 4 ≤ line; decide)))
theorem c_law_plain (t : List Blk) (ht : ∀ b ∈ t, BOk b) (hl : t.length ≤ 100) : prog.call (d + 4) i_law_plain_text [.p (textP t)] m = .ok (.p (textP (t.map Blk.pb))) m := by
  refine call_q (q := f_law_plain_text) rfl rfl ?_
  have hc := e_compE (cf := prog.call (d + 3)) (mt := prog.mt) (ρ := [some (.p (textP t)), none]) (m := m) (elt := .call i_law_plain_block (.cons (.var 1) .nil)) (tg := .nm 1) (it := .seq (.var 0)) (ifs := .nil) (enc := Blk.p) (L := t) (f := fun b => [b.pb.p]) (i_seq (q := textP t) (e_var rfl) rfl rfl) rfl rfl (fun b hb => st_yes rfl if_nil (e_call (es_one (e_var rfl)) (c_law_plain_block b (ht b hb)))) (by rw [flatMap_one, List.length_map]; unfold line; omega)
  rw [flatMap_one] at hc
  refine ss_rt (v_ret ((e_prim (es_one hc) prim_tupL).trans ?_))
  unfold textP
  rw [List.map_map]
  rfl
end K02
end Lot
namespace Lot
open PySem
def rdiff : List Rw → List Rw → Nat
  | r :: R, s :: S => if eqP r.p s.p then rdiff R S + 1 else 0
  | _, _ => 0
def fdiff : Nat → List Blk → List Blk → Option (Nat × Nat)
  | _, [], [] => none
  | k, x :: X, y :: Y => if eqP x.p y.p then fdiff (k + 1) X Y else some (k, rdiff x.rows y.rows)
  | k, _, _ => some (k, 0)
def fdP : Option (Nat × Nat) → P
  | none => .non
  | some (a, b) => .tup [.int (a : Nat), .int (b : Nat)]
theorem eqPs_fdiff : ∀ (X Y : List Blk) (k : Nat), eqPs (X.map Blk.p) (Y.map Blk.p) = (fdiff k X Y).isNone
  | [], [], _ => rfl
  | [], _ :: _, _ => rfl
  | _ :: _, [], _ => rfl
  | x :: X, y :: Y, k => by
    rw [List.map_cons, List.map_cons]
    simp only [eqPs, fdiff]
    rw [eqPs_fdiff X Y (k + 1)]
    cases eqP x.p y.p <;> simp
theorem min_int (a b : Nat) {m : Mem} : primD .min [.p (.int (a : Nat)), .p (.int (b : Nat))] m = .ok (.p (.int ((min a b : Nat) : Int))) m := by
  show Out.ok (D.p (.int (if ((b : Nat) : Int) < a then (b : Int) else a))) m = _
  have : (if ((b : Nat) : Int) < a then (b : Int) else (a : Int)) = ((min a b : Nat) : Int) := by split <;> omega
  rw [this]
theorem max_int (a b : Nat) {m : Mem} : primD .max [.p (.int (a : Nat)), .p (.int (b : Nat))] m = .ok (.p (.int ((max a b : Nat) : Int))) m := by
  show Out.ok (D.p (.int (if ((a : Nat) : Int) < b then (b : Int) else a))) m = _
  have : (if ((a : Nat) : Int) < b then (b : Int) else (a : Int)) = ((max a b : Nat) : Int) := by split <;> omega
  rw [this]
/-- what == may be asked of -/
def okB (b : Blk) : Prop := okD b.p = true ∧ ∀ r ∈ b.rows, okD r.p = true
theorem okEq_of {a b : P} (h : okD a = true) (h' : okD b = true) : okEq a b = true := by unfold okEq; rw [h, h']; simp
theorem ne_of {a b : P} {m : Mem} (h : okD a = true) (h' : okD b = true) : cmpD .ne (.p a) (.p b) m = some (!eqP a b) := by
  show (if okEq a b = true then some (!eqP a b) else none) = _
  rw [if_pos (okEq_of h h')]
theorem eq_of {a b : P} {m : Mem} (h : okD a = true) (h' : okD b = true) : cmpD .eq (.p a) (.p b) m = some (eqP a b) := by
  show (if okEq a b = true then some (eqP a b) else none) = _
  rw [if_pos (okEq_of h h')]
theorem atD {α : Type} [Inhabited α] {l : List α} {i : Nat} (h : i < l.length) : l[i]? = some l[i]! := by
  rw [List.getElem?_eq_getElem h, List.getElem!_eq_getElem?_getD, List.getElem?_eq_getElem h]
  rfl
instance : Inhabited Rw := ⟨.out ⟨#[]⟩⟩
instance : Inhabited Blk := ⟨⟨⟨#[]⟩, [], [], .stop []⟩⟩
theorem rdiff_le : ∀ (R S : List Rw), rdiff R S ≤ min R.length S.length
  | [], _ => Nat.zero_le _
  | _ :: _, [] => Nat.zero_le _
  | r :: R, s :: S => by
    have := rdiff_le R S
    unfold rdiff
    split <;> simp <;> omega
theorem rdiff_step {R S : List Rw} {i : Nat} (h : i < min R.length S.length) : rdiff (R.drop i) (S.drop i) = if eqP (R[i]!).p (S[i]!).p then rdiff (R.drop (i + 1)) (S.drop (i + 1)) + 1 else 0 := by
  have h1 : i < R.length := by omega
  have h2 : i < S.length := by omega
  rw [List.drop_eq_getElem_cons h1, List.drop_eq_getElem_cons h2]
  have e1 : R[i]! = R[i] := by have := atD h1; rw [List.getElem?_eq_getElem h1] at this; exact (Option.some.inj this).symm
  have e2 : S[i]! = S[i] := by have := atD h2; rw [List.getElem?_eq_getElem h2] at this; exact (Option.some.inj this).symm
  rw [e1, e2]
  rfl
theorem rdiff_end {R S : List Rw} {i : Nat} (h : min R.length S.length ≤ i) : rdiff (R.drop i) (S.drop i) = 0 := by
  rcases Nat.le_total R.length S.length with q | q
  · rw [List.drop_of_length_le (l := R) (by omega)]
    rfl
  · rw [List.drop_of_length_le (l := S) (by omega)]
    cases R.drop i <;> rfl
/-- the first of those that differ -/
theorem head_filter {R S : List Rw} : ∀ (n i : Nat), i + n = min R.length S.length → ((((List.range' i n).filter fun k => !eqP (R[k]!).p (S[k]!).p).map fun (k : Nat) => P.int k) ++ [P.int ((i + n : Nat) : Int)])[0]? = some (.int ((i + rdiff (R.drop i) (S.drop i) : Nat) : Int))
  | 0, i, h => by
    rw [rdiff_end (by omega)]
    rfl
  | n + 1, i, h => by
    rw [List.range'_succ, List.filter_cons, rdiff_step (by omega)]
    cases hq : eqP (R[i]!).p (S[i]!).p with
    | false => simp
    | true =>
      simp only [Bool.not_true, Bool.false_eq_true, if_false, if_true]
      have := head_filter (R := R) (S := S) n (i + 1) (by omega)
      rw [show i + (n + 1) = i + 1 + n by omega, this, show i + 1 + rdiff (R.drop (i + 1)) (S.drop (i + 1)) = i + (rdiff (R.drop (i + 1)) (S.drop (i + 1)) + 1) by omega]
theorem while_t {test : Env → Mem → Out Bool} {body : Env → Mem → Out Fl} {f : Nat} {ρ ρ1 : Env} {m m1 m2 : Mem} {r : Out Fl} (h : test ρ m = .ok true m1) (hb : body ρ m1 = .ok (.nx ρ1) m2) (h2 : whileL test body f ρ1 m2 = r) : whileL test body (f + 1) ρ m = r := by
  show ((test ρ m).bind _) = r
  rw [h, Out.bind_ok, if_pos rfl, hb]; exact h2
theorem while_f {test : Env → Mem → Out Bool} {body : Env → Mem → Out Fl} {f : Nat} {ρ : Env} {m m1 : Mem} (h : test ρ m = .ok false m1) : whileL test body (f + 1) ρ m = .ok (.nx ρ) m1 := by
  show ((test ρ m).bind _) = _
  rw [h, Out.bind_ok, if_neg Bool.false_ne_true]
theorem tst {cf : Nat → List D → Mem → Out D} {mt : Nat → Nat → Option Nat} {ρ : Env} {m m1 : Mem} {e : CE} {b : Bool} (h : evE cf mt e ρ m = .ok (.p (.bl b)) m1) : (evE cf mt e ρ m).bind truthO = .ok b m1 := by rw [h]; rfl
end Lot
namespace Lot
open PySem
namespace K02
section
variable {cf : Nat → List D → Mem → Out D} {mt : Nat → Nat → Option Nat}
def primes : List P := [2147483629, 2147483587, 2147483579, 2147483563, 2147483549, 2147483543, 2147483497, 2147483489, 2147483477, 2147483423, 2147483399, 2147483353, 2147483323].map P.int
theorem prime_at (k : Int) (h0 : 0 ≤ k) (h1 : k < 13) : ∃ p : Int, atI primes k = some (.int p) ∧ 0 < p ∧ p < 2147483648 := by
  have : k = 0 ∨ k = 1 ∨ k = 2 ∨ k = 3 ∨ k = 4 ∨ k = 5 ∨ k = 6 ∨ k = 7 ∨ k = 8 ∨ k = 9 ∨ k = 10 ∨ k = 11 ∨ k = 12 := by omega
  rcases this with rfl | rfl | rfl | rfl | rfl | rfl | rfl | rfl | rfl | rfl | rfl | rfl | rfl <;> exact ⟨_, rfl, by decide, by decide⟩
theorem spread_body (cell at_ : Int) (m : Mem) (h0 : 0 ≤ at_) (h1 : at_ < 1073741824) : ∃ r, evSs cf mt f_law_spread.body [some (.p (.int cell)), some (.p (.int at_)), none, none, none, none] m = .ok (.rt (.p (.int r))) m := by
  unfold f_law_spread
  dsimp only
  have hc := v_ift (cf := cf) (mt := mt) (ρ := [some (.p (.int cell)), some (.p (.int at_)), none, none, none, none]) (m := m) (t := decide (10 ^ 18 ≤ cell)) (p := .cons (.ret (.var 0)) .nil) (q := .nil) (c := (.cmp .ge (.var 0) (.bin .pow (.lit (.int 10)) (.lit (.int 18)))))
    (e_cmp (op := .ge) (e_var rfl) (e_pow (e_lit _) (e_lit _) (by decide)) rfl) rfl
  by_cases h : (10 ^ 18 : Int) ≤ cell
  · rw [decide_eq_true h, if_pos rfl] at hc
    exact ⟨cell, ss_rt (hc.trans (ss_rt (v_ret (e_var rfl))))⟩
  · rw [decide_eq_false h, if_neg Bool.false_ne_true] at hc
    rw [ss_nx (hc.trans rfl)]
    rw [ss_nx (v_set (m1 := m) (d := .p (.lst _)) rfl)]
    rw [ss_nx (v_set (m1 := m) (d := .p (.lst primes)) rfl)]
    have m13 : ∀ z : Int, 0 ≤ z % 13 ∧ z % 13 < 13 := fun z => ⟨Int.emod_nonneg _ (by decide), Int.emod_lt_of_pos _ (by decide)⟩
    obtain ⟨p1, q1, q1a, q1b⟩ := prime_at (at_ % 13) (m13 _).1 (m13 _).2
    obtain ⟨p2, q2, q2a, q2b⟩ := prime_at ((at_ + 5) % 13) (m13 _).1 (m13 _).2
    obtain ⟨p3, q3, q3a, q3b⟩ := prime_at ((at_ + 7) % 13) (m13 _).1 (m13 _).2
    have hcm : 0 ≤ cell % 1000000007 ∧ cell % 1000000007 < 1000000007 := mod_b (by decide)
    have hc6 : 0 ≤ cell % 65537 ∧ cell % 65537 < 65537 := mod_b (by decide)
    have hA1 : cell % 1000000007 * (2 * at_ + 69069) ≤ 1000000007 * 2147552717 := mul_le2 (by omega) (by omega) (by omega) (by omega)
    have hA0 : 0 ≤ cell % 1000000007 * (2 * at_ + 69069) := Int.mul_nonneg (by omega) (by omega)
    generalize hA : cell % 1000000007 * (2 * at_ + 69069) + at_ * 40503 + 977 = A at *
    have ho : 0 ≤ A ^ 3 % p1 ∧ A ^ 3 % p1 < p1 := mod_b q1a
    generalize hone : A ^ 3 % p1 = one at *
    have hB1 : one * (at_ + 3) ≤ 2147483648 * 1073741827 := mul_le2 (by omega) (by omega) (by omega) (by omega)
    have hB0 : 0 ≤ one * (at_ + 3) := Int.mul_nonneg (by omega) (by omega)
    generalize hB : one * (at_ + 3) + cell % 65537 + 5 = B at *
    have ht : 0 ≤ B ^ 5 % p2 ∧ B ^ 5 % p2 < p2 := mod_b q2a
    generalize htwo : B ^ 5 % p2 = two at *
    have h9 : 0 ≤ one % 1009 ∧ one % 1009 < 1009 := mod_b (by decide)
    refine ⟨(one * 2147483647 + two) * 2147483647 + (two + one % 1009 + at_) ^ 3 % p3, ?_⟩
    have E1 : A ^ (3 : Int).toNat % p1 = one := hone
    refine Eq.trans (ss_nx (v_set (d := .p (.int one)) (m1 := m) ?_)) ?_
    · rw [← E1, ← hA]
      exact e_mod (e_pow (e_add (e_add (e_mul (e_mod (e_var rfl) (e_lit _) (by decide)) (e_add (e_mul (e_lit _) (e_var rfl) (sm_l (by decide))) (e_lit _)) (sm_l (small_of (by omega) (by omega)))) (e_mul (e_var rfl) (e_lit _) (sm_r (by decide)))) (e_lit _)) (e_lit _) (pow_ok (by decide) (by omega) (by omega))) (e_ix (e_var rfl) (e_mod (e_var rfl) (e_lit _) (by decide)) (ixD_l rfl rfl q1)) q1a
    have E2 : B ^ (5 : Int).toNat % p2 = two := htwo
    refine Eq.trans (ss_nx (v_set (d := .p (.int two)) (m1 := m) ?_)) ?_
    · rw [← E2, ← hB]
      exact e_mod (e_pow (e_add (e_add (e_mul (e_var rfl) (e_add (e_var rfl) (e_lit _)) (sm_l (small_of (by omega) (by omega)))) (e_mod (e_var rfl) (e_lit _) (by decide))) (e_lit _)) (e_lit _) (pow_ok (by decide) (by omega) (by omega))) (e_ix (e_var rfl) (e_mod (e_add (e_var rfl) (e_lit _)) (e_lit _) (by decide)) (ixD_l rfl rfl q2)) q2a
    refine Eq.trans (ss_nx (v_set (d := .p (.int ((two + one % 1009 + at_) ^ 3 % p3))) (m1 := m) ?_)) ?_
    · exact e_mod (e_pow (e_add (e_add (e_var rfl) (e_mod (e_var rfl) (e_lit _) (by decide))) (e_var rfl)) (e_lit _) (pow_ok (by decide) (by omega) (by omega))) (e_ix (e_var rfl) (e_mod (e_add (e_var rfl) (e_lit _)) (e_lit _) (by decide)) (ixD_l rfl rfl q3)) q3a
    exact ss_rt (v_ret (e_add (e_mul (e_add (e_mul (e_var rfl) (e_lit _) (sm_r (by decide))) (e_var rfl)) (e_lit _) (sm_r (by decide))) (e_var rfl)))
/-- a pen's list -/
def pv (cs : List Int) (at_ rest : Int) : P := .lst [.lst (cs.map P.int), .int at_, .int rest]
abbrev pm (m : Mem) (n : Nat) (cs : List Int) (at_ rest : Int) : Mem := m.set n (.val (pv cs at_ rest))
theorem take_tail {ρ : Env} {m : Mem} {n : Nat} {cs : List Int} {at_ rest a : Int} (hn : n < m.length) (h0 : (ρ[0]?).bind id = some (.ref n 0)) (h1 : (ρ[1]?).bind id = some (.p (.int a))) (hl : 4 < ρ.length) (ha : 0 < a ∧ a < 1073741824) :
    evSs cf mt (.cons (.set 4 (.bin .mod (.ix (.var 0) (.lit (.int 2))) (.var 1))) (.cons (.setix (.var 0) (.lit (.int 2)) (.bin .fdiv (.ix (.var 0) (.lit (.int 2))) (.var 1))) (.cons (.ret (.var 4)) .nil))) ρ (pm m n cs at_ rest) = .ok (.rt (.p (.int (rest % a)))) (pm m n cs at_ (rest / a)) := by
  have i2 : evE cf mt (.ix (.var 0) (.lit (.int 2))) ρ (pm m n cs at_ rest) = .ok (.p (.int rest)) (pm m n cs at_ rest) := e_ix (e_var h0) (e_lit _) (ixD_m hn rfl rfl)
  have g0 : ((ρ.set 4 (some (.p (.int (rest % a)))))[0]?).bind id = some (.ref n 0) := by rw [List.getElem?_set_ne (by decide)]; exact h0
  have g1 : ((ρ.set 4 (some (.p (.int (rest % a)))))[1]?).bind id = some (.p (.int a)) := by rw [List.getElem?_set_ne (by decide)]; exact h1
  refine Eq.trans (ss_nx (v_set (e_mod i2 (e_var h1) ha.1))) ?_
  have i3 : evE cf mt (.ix (.var 0) (.lit (.int 2))) (ρ.set 4 (some (.p (.int (rest % a))))) (pm m n cs at_ rest) = .ok (.p (.int rest)) (pm m n cs at_ rest) := e_ix (e_var g0) (e_lit _) (ixD_m hn rfl rfl)
  refine Eq.trans (ss_nx (v_setix (e_fdiv i3 (e_var g1) ha) (e_var g0) (e_lit _) (setix_l hn rfl))) ?_
  exact ss_rt (v_ret (e_var (by rw [List.getElem?_set_self hl]; rfl)))
theorem lenP_l (cs : List Int) : lenP (.lst (cs.map P.int)) = some (cs.length : Int) := by
  show some (((cs.map P.int).length : Nat) : Int) = _
  rw [List.length_map]
theorem at_int {cs : List Int} {k : Int} (h0 : 0 ≤ k) (h1 : k < cs.length) : ∃ c : Int, atI (cs.map P.int) k = some (.int c) := by
  obtain ⟨x, e, hm, _⟩ := atI_of (l := cs.map P.int) h0 (by rw [List.length_map]; exact h1)
  obtain ⟨c, _, rfl⟩ := List.mem_map.mp hm
  exact ⟨c, e⟩
theorem take_body (hs : ∀ (c a : Int) (m : Mem), 0 ≤ a → a < 1073741824 → ∃ r, cf i_law_spread [.p (.int c), .p (.int a)] m = .ok (.p (.int r)) m) {m : Mem} {n : Nat} {cs : List Int} {at_ rest a : Int} (hn : n < m.length) (h0 : 0 ≤ at_) (h1 : at_ < 1073741824) (hc : cs.length ≤ 1000) (ha : 0 < a ∧ a < 1073741824) :
    ∃ r at' rest', evSs cf mt f_law_take.body [some (.ref n 0), some (.p (.int a)), none, none, none] (pm m n cs at_ rest) = .ok (.rt (.p (.int r))) (pm m n cs at' rest') ∧ 0 ≤ r ∧ r < a ∧ at_ ≤ at' ∧ at' ≤ at_ + 1 := by
  unfold f_law_take
  dsimp only
  have i2 : ∀ (ρ : Env) (r : Int), (ρ[0]?).bind id = some (.ref n 0) → evE cf mt (.ix (.var 0) (.lit (.int 2))) ρ (pm m n cs at_ r) = .ok (.p (.int r)) (pm m n cs at_ r) := fun ρ r h => e_ix (e_var h) (e_lit _) (ixD_m hn rfl rfl)
  have i1 : ∀ (ρ : Env) (r : Int), (ρ[0]?).bind id = some (.ref n 0) → evE cf mt (.ix (.var 0) (.lit (.int 1))) ρ (pm m n cs at_ r) = .ok (.p (.int at_)) (pm m n cs at_ r) := fun ρ r h => e_ix (e_var h) (e_lit _) (ixD_m hn rfl rfl)
  have i0 : ∀ (ρ : Env) (r : Int), (ρ[0]?).bind id = some (.ref n 0) → evE cf mt (.ix (.var 0) (.lit (.int 0))) ρ (pm m n cs at_ r) = .ok (.p (.lst (cs.map P.int))) (pm m n cs at_ r) := fun ρ r h => e_ix (e_var h) (e_lit _) (ixD_m hn rfl rfl)
  by_cases hb : rest < a
  · have lenE : ∀ (ρ : Env) (r : Int), (ρ[0]?).bind id = some (.ref n 0) → evE cf mt (.prim .len (.cons (.ix (.var 0) (.lit (.int 0))) .nil)) ρ (pm m n cs at_ r) = .ok (.p (.int cs.length)) (pm m n cs at_ r) := fun ρ r h => e_len (i0 ρ r h) rfl (lenP_l cs)
    have key : ∃ c : Int, evS cf mt (.ift (.cmp .lt (.var 2) (.prim .len (.cons (.ix (.var 0) (.lit (.int 0))) .nil))) (.cons (.set 3 (.ix (.ix (.var 0) (.lit (.int 0))) (.var 2))) .nil) (.cons (.ift (.cmp .gt (.prim .len (.cons (.ix (.var 0) (.lit (.int 0))) .nil)) (.lit (.int 0))) (.cons (.set 3 (.bin .mod (.ix (.ix (.var 0) (.lit (.int 0))) (.bin .mod (.bin .add (.bin .mul (.var 2) (.lit (.int 5))) (.lit (.int 3))) (.prim .len (.cons (.ix (.var 0) (.lit (.int 0))) .nil)))) (.bin .add (.bin .pow (.lit (.int 10)) (.lit (.int 17))) (.var 2)))) .nil) .nil) .nil))
        [some (.ref n 0), some (.p (.int a)), some (.p (.int at_)), some (.p (.int 0)), none] (pm m n cs at_ rest) = .ok (.nx [some (.ref n 0), some (.p (.int a)), some (.p (.int at_)), some (.p (.int c)), none]) (pm m n cs at_ rest) := by
      by_cases h2 : at_ < (cs.length : Int)
      · obtain ⟨c, hc'⟩ := at_int h0 h2
        refine ⟨c, ?_⟩
        refine (v_ift (t := decide (at_ < (cs.length : Int))) (e_cmp (op := .lt) (e_var rfl) (lenE _ rest rfl) rfl) rfl).trans ?_
        rw [decide_eq_true h2, if_pos rfl]
        exact (ss_nx (v_set (e_ix (i0 _ rest rfl) (e_var rfl) (ixD_l rfl rfl hc')))).trans ss_nil
      · by_cases h3 : (0 : Int) < cs.length
        · have hm := mod_b (a := at_ * 5 + 3) h3
          obtain ⟨c, hc'⟩ := at_int hm.1 hm.2
          refine ⟨c % (10 ^ (17 : Int).toNat + at_), ?_⟩
          refine (v_ift (t := decide (at_ < (cs.length : Int))) (e_cmp (op := .lt) (e_var rfl) (lenE _ rest rfl) rfl) rfl).trans ?_
          rw [decide_eq_false h2, if_neg Bool.false_ne_true]
          refine (ss_nx ((v_ift (t := decide ((0 : Int) < cs.length)) (e_cmp (op := .gt) (lenE _ rest rfl) (e_lit _) rfl) rfl).trans ?_)).trans ss_nil
          rw [decide_eq_true h3, if_pos rfl]
          refine (ss_nx (v_set (e_mod (e_ix (i0 _ rest rfl) (e_mod (e_add (e_mul (e_var rfl) (e_lit _) (sm_r (by decide))) (e_lit _)) (lenE _ rest rfl) h3) (ixD_l rfl rfl hc')) (e_add (e_pow (e_lit _) (e_lit _) (by decide)) (e_var rfl)) ?_))).trans ss_nil
          have : (0 : Int) < 10 ^ (17 : Int).toNat := by decide
          omega
        · refine ⟨0, ?_⟩
          refine (v_ift (t := decide (at_ < (cs.length : Int))) (e_cmp (op := .lt) (e_var rfl) (lenE _ rest rfl) rfl) rfl).trans ?_
          rw [decide_eq_false h2, if_neg Bool.false_ne_true]
          refine (ss_nx ((v_ift (t := decide ((0 : Int) < cs.length)) (e_cmp (op := .gt) (lenE _ rest rfl) (e_lit _) rfl) rfl).trans ?_)).trans ss_nil
          rw [decide_eq_false h3, if_neg Bool.false_ne_true]
          rfl
    obtain ⟨c, hk⟩ := key
    obtain ⟨r', hr⟩ := hs c at_ (pm m n cs (at_ + 1) rest) h0 h1
    refine ⟨r' % a, at_ + 1, r' / a, Eq.trans (ss_nx (ρ1 := [some (.ref n 0), some (.p (.int a)), some (.p (.int at_)), some (.p (.int c)), none]) (m1 := pm m n cs (at_ + 1) r') ?_) (take_tail hn rfl rfl (by show 4 < 5; decide) ha), (mod_b ha.1).1, (mod_b ha.1).2, by omega, Int.le_refl _⟩
    refine (v_ift (t := decide (rest < a)) (e_cmp (op := .lt) (i2 _ rest rfl) (e_var rfl) rfl) rfl).trans ?_
    rw [decide_eq_true hb, if_pos rfl]
    refine (ss_nx (v_set (i1 _ rest rfl))).trans ?_
    refine (ss_nx (v_set (e_lit _))).trans ?_
    refine (ss_nx hk).trans ?_
    refine (ss_nx (v_setix (e_add (e_var rfl) (e_lit _)) (e_var rfl) (e_lit _) (setix_l hn rfl))).trans ?_
    exact (ss_nx (v_setix (e_call2 (e_var rfl) (e_var rfl) hr) (e_var rfl) (e_lit _) (setix_l hn rfl))).trans ss_nil
  · refine ⟨rest % a, at_, rest / a, Eq.trans (ss_nx (ρ1 := [some (.ref n 0), some (.p (.int a)), none, none, none]) (m1 := pm m n cs at_ rest) ?_) (take_tail hn rfl rfl (by show 4 < 5; decide) ha), (mod_b ha.1).1, (mod_b ha.1).2, Int.le_refl _, by omega⟩
    refine (v_ift (t := decide (rest < a)) (e_cmp (op := .lt) (i2 _ rest rfl) (e_var rfl) rfl) rfl).trans ?_
    rw [decide_eq_false hb, if_neg Bool.false_ne_true]
    rfl
end
/-- the drawn number -/
theorem take_ok {d : Nat} {m : Mem} {n : Nat} {cs : List Int} {at_ rest a : Int} (hn : n < m.length) (h0 : 0 ≤ at_) (h1 : at_ < 1073741824) (hc : cs.length ≤ 1000) (ha : 0 < a ∧ a < 1073741824) :
    ∃ r at' rest', prog.call (d + 2) i_law_take [.ref n 0, .p (.int a)] (pm m n cs at_ rest) = .ok (.p (.int r)) (pm m n cs at' rest') ∧ 0 ≤ r ∧ r < a ∧ at_ ≤ at' ∧ at' ≤ at_ + 1 := by
  obtain ⟨r, at', rest', h, h2, h3, h4, h5⟩ := take_body (cf := prog.call (d + 1)) (mt := prog.mt) (fun c a m g0 g1 => by
    obtain ⟨r, hr⟩ := spread_body (cf := prog.call d) (mt := prog.mt) c a m g0 g1
    refine ⟨r, (call_p (q := f_law_spread) rfl rfl hr).trans ?_⟩
    rw [List.take_length]) (rest := rest) hn h0 h1 hc ha
  refine ⟨r, at', rest', (call_p (q := f_law_take) rfl rfl h).trans ?_, h2, h3, h4, h5⟩
  have : (pm m n cs at_ rest).length = (pm m n cs at' rest').length := by simp [pm]
  rw [this, List.take_length]
section
variable {cf : Nat → List D → Mem → Out D} {mt : Nat → Nat → Option Nat}
theorem same_non (M : Mem) : evSs cf mt f_law_same.body [some (.p .non), some (.p .non), none, none] M = .ok (.rt (.p (.bl true))) M := rfl
theorem same_int (x : Int) (M : Mem) : evSs cf mt f_law_same.body [some (.p (.int x)), some (.p (.int x)), none, none] M = .ok (.rt (.p (.bl true))) M := by
  have : evSs cf mt f_law_same.body [some (.p (.int x)), some (.p (.int x)), none, none] M = .ok (.rt (.p (.bl (x == x)))) M := rfl
  rw [this, beq_self_eq_true]
theorem same_str (x : PySem.Str) (M : Mem) : evSs cf mt f_law_same.body [some (.p (.str x)), some (.p (.str x)), none, none] M = .ok (.rt (.p (.bl true))) M := by
  have : evSs cf mt f_law_same.body [some (.p (.str x)), some (.p (.str x)), none, none] M = .ok (.rt (.p (.bl (x == x)))) M := rfl
  rw [this, beq_self_eq_true]
theorem same_bl (x : Bool) (M : Mem) : evSs cf mt f_law_same.body [some (.p (.bl x)), some (.p (.bl x)), none, none] M = .ok (.rt (.p (.bl true))) M := by
  cases x <;> rfl
theorem comp_same {l : List P} {M : Mem} (g : Mem → Bool) (hg : ∀ m, g m = true) (h : ∀ x ∈ l, cf i_law_same [.p x, .p x] M = .ok (.p (.bl true)) M) (ρ : Env) (hr : ρ.length = 4) : ∀ acc, compL g (stepO [2, 3] (bindTg (.tp [2, 3])) (fun ρ m => evIfs cf mt .nil ρ m) (fun ρ m => evE cf mt (.call i_law_same (.cons (.var 2) (.cons (.var 3) .nil))) ρ m) ρ) (zipL l l) acc M = .ok (acc ++ List.replicate l.length (.bl true)) M := by
  induction l with
  | nil =>
    intro acc
    show (if g M then Out.ok acc M else .bad) = _
    rw [hg, if_pos rfl]
    simp
  | cons x l ih =>
    intro acc
    show (if g M then (stepO _ _ _ _ ρ (.tup [x, x]) M).bind fun o m1 => compL g _ (zipL l l) (acc ++ o) m1 else .bad) = _
    rw [hg, if_pos rfl]
    have hx := h x List.mem_cons_self
    have e : evE cf mt (.call i_law_same (.cons (.var 2) (.cons (.var 3) .nil))) (setAll (wipe ρ [2, 3]) [2, 3] [x, x]) M = .ok (.p (.bl true)) M := by
      match ρ, hr with
      | [a, b, c, d], _ => exact e_call2 (e_var rfl) (e_var rfl) hx
    have st : stepO [2, 3] (bindTg (.tp [2, 3])) (fun ρ m => evIfs cf mt .nil ρ m) (fun ρ m => evE cf mt (.call i_law_same (.cons (.var 2) (.cons (.var 3) .nil))) ρ m) ρ (.tup [x, x]) M = .ok [.bl true] M := by
      show ((evE cf mt (.call i_law_same (.cons (.var 2) (.cons (.var 3) .nil))) (setAll (wipe ρ [2, 3]) [2, 3] [x, x]) M).bind fun d m3 => (asP d m3).bind fun y m3 => Out.ok [y] m3) = _
      rw [e]; rfl
    rw [st, Out.bind_ok, ih (fun y hy => h y (List.mem_cons_of_mem _ hy))]
    simp [List.replicate_succ]
theorem trues (n : Nat) : ((List.replicate n (P.bl true)).any fun z => eqP z (.bl false)) = false := by
  induction n with
  | zero => rfl
  | succ n ih => rw [List.replicate_succ, List.any_cons, ih]; rfl
theorem trues_sc (n : Nat) : ((List.replicate n (P.bl true)).all sc) = true := by
  induction n with
  | zero => rfl
  | succ n ih => rw [List.replicate_succ, List.all_cons, ih]; rfl
theorem same_lst {x : P} {l : List P} {M : Mem} (hx : x = .lst l ∨ x = .tup l) (hl : l.length ≤ 1000) (h : ∀ x ∈ l, cf i_law_same [.p x, .p x] M = .ok (.p (.bl true)) M) : evSs cf mt f_law_same.body [some (.p x), some (.p x), none, none] M = .ok (.rt (.p (.bl true))) M := by
  have hc : evE cf mt (.comp (.call i_law_same (.cons (.var 2) (.cons (.var 3) .nil))) (.tp [2, 3]) (.zip (.var 0) (.var 1) false) .nil) [some (.p x), some (.p x), none, none] M = .ok (.p (.lst (List.replicate l.length (.bl true)))) M := by
    have hz : ∃ g : Mem → Bool, (∀ m, g m = true) ∧ evI cf mt (.zip (.var 0) (.var 1) false) [some (.p x), some (.p x), none, none] M = .ok (zipL l l, g) M := by
      rcases hx with rfl | rfl
      · exact ⟨_, fun m => rfl, rfl⟩
      · exact ⟨_, fun m => rfl, rfl⟩
    obtain ⟨g, hg, hz⟩ := hz
    show lcO [2, 3] (bindTg (.tp [2, 3])) (fun ρ m => evI cf mt (.zip (.var 0) (.var 1) false) ρ m) (fun ρ m => evIfs cf mt .nil ρ m) (fun ρ m => evE cf mt (.call i_law_same (.cons (.var 2) (.cons (.var 3) .nil))) ρ m) _ M = _
    unfold lcO
    dsimp only
    rw [hz, Out.bind_ok]
    dsimp only
    rw [comp_same g hg h _ rfl, Out.bind_ok, List.nil_append, if_pos (by rw [List.length_replicate]; exact Nat.le_trans hl (by decide))]
  have hn : cmpD .notin (.p (.bl false)) (.p (.lst (List.replicate l.length (.bl true)))) M = some true := by
    show (inP (.bl false) (.lst (List.replicate l.length (.bl true)))).map not = _
    unfold inP
    dsimp only
    rw [if_pos (by rw [trues_sc]; rfl), trues]
    rfl
  have hlen : cmpD .ne (.p (.int (l.length : Int))) (.p (.int (l.length : Int))) M = some false := by
    show (if okEq (.int (l.length : Int)) (.int (l.length : Int)) then some (!((l.length : Int) == (l.length : Int))) else none) = _
    rw [if_pos (show okEq (.int (l.length : Int)) (.int (l.length : Int)) = true from rfl), beq_self_eq_true]; rfl
  unfold f_law_same
  dsimp only
  rcases hx with rfl | rfl
  · refine (ss_nx (ρ1 := [some (.p (.lst l)), some (.p (.lst l)), none, none]) (m1 := M) rfl).trans ?_
    refine (ss_nx (ρ1 := [some (.p (.lst l)), some (.p (.lst l)), none, none]) (m1 := M) rfl).trans ?_
    refine (ss_nx (ρ1 := [some (.p (.lst l)), some (.p (.lst l)), none, none]) (m1 := M) rfl).trans ?_
    refine (ss_nx (ρ1 := [some (.p (.lst l)), some (.p (.lst l)), none, none]) (m1 := M) rfl).trans ?_
    refine (ss_nx ((v_ift (t := false) (e_cmp (e_len (e_var rfl) rfl rfl) (e_len (e_var rfl) rfl rfl) hlen) rfl).trans rfl)).trans ?_
    exact ss_rt (v_ret (e_cmp (e_lit _) hc hn))
  · refine (ss_nx (ρ1 := [some (.p (.tup l)), some (.p (.tup l)), none, none]) (m1 := M) rfl).trans ?_
    refine (ss_nx (ρ1 := [some (.p (.tup l)), some (.p (.tup l)), none, none]) (m1 := M) rfl).trans ?_
    refine (ss_nx (ρ1 := [some (.p (.tup l)), some (.p (.tup l)), none, none]) (m1 := M) rfl).trans ?_
    refine (ss_nx (ρ1 := [some (.p (.tup l)), some (.p (.tup l)), none, none]) (m1 := M) rfl).trans ?_
    refine (ss_nx ((v_ift (t := false) (e_cmp (e_len (e_var rfl) rfl rfl) (e_len (e_var rfl) rfl rfl) hlen) rfl).trans rfl)).trans ?_
    exact ss_rt (v_ret (e_cmp (e_lit _) hc hn))
end
/-- _law_same of a thing and itself -/
theorem call_same {d : Nat} {x : P} {M : Mem} (h : evSs (prog.call d) prog.mt f_law_same.body [some (.p x), some (.p x), none, none] M = .ok (.rt (.p (.bl true))) M) : prog.call (d + 1) i_law_same [.p x, .p x] M = .ok (.p (.bl true)) M := by
  refine (call_p (q := f_law_same) rfl rfl h).trans ?_
  rw [List.take_length]
/-- simple things -/
def simple : P → Bool
  | .non => true
  | .bl _ => true
  | .int _ => true
  | .str _ => true
  | _ => false
theorem same_s {d : Nat} {x : P} {M : Mem} (h : simple x = true) : prog.call (d + 1) i_law_same [.p x, .p x] M = .ok (.p (.bl true)) M := by
  cases x with
  | non => exact call_same (same_non M)
  | bl b => exact call_same (same_bl b M)
  | int i => exact call_same (same_int i M)
  | str s => exact call_same (same_str s M)
  | _ => cases h
theorem same_1 {d : Nat} {x : P} {l : List P} {M : Mem} (hx : x = .lst l ∨ x = .tup l) (hl : l.length ≤ 1000) (h : l.all simple = true) : prog.call (d + 2) i_law_same [.p x, .p x] M = .ok (.p (.bl true)) M := by
  rw [List.all_eq_true] at h
  exact call_same (same_lst hx hl fun y hy => same_s (h y hy))
theorem same_2 {d : Nat} {l : List P} {M : Mem} (hl : l.length ≤ 1000) (h : ∀ x ∈ l, simple x = true ∨ ∃ k, (x = .lst k ∨ x = .tup k) ∧ k.length ≤ 1000 ∧ k.all simple = true) : prog.call (d + 3) i_law_same [.p (.lst l), .p (.lst l)] M = .ok (.p (.bl true)) M :=
  call_same (same_lst (.inl rfl) hl fun y hy => by
    rcases h y hy with h | ⟨k, h1, h2, h3⟩
    · exact same_s h
    · exact same_1 h1 h2 h3)
abbrev m0 : Mem := [.dead, .dead]
theorem call_r {g : Pg} {d f : Nat} {q : Fn} {ds : List D} {m m1 : Mem} {n k : Nat} (hf : g.fns[f]? = some q) (hl : ds.length = q.np) (h : evSs (g.call d) g.mt q.body (ds.map some ++ List.replicate (q.names.length - q.np) none) m = .ok (.rt (.ref n k)) m1) : g.call (d + 1) f ds m = .ok (.ref n k) m1 := by
  show (match g.fns[f]? with
    | some q => if ds.length = q.np then settle m.length (evSs (g.call d) g.mt q.body (ds.map some ++ List.replicate (q.names.length - q.np) none) m) else .bad
    | none => .bad) = _
  rw [hf]
  dsimp only
  rw [if_pos hl, h]
  rfl
theorem cut_map (ns : List Int) (lo hi : Option Int) : cut (ns.map P.int) lo hi = (cut ns lo hi).map P.int := by
  unfold cut
  rw [List.length_map, ← List.map_drop, ← List.map_take]
theorem six12 (n d : Nat) : sIx n d (some 12) = min 12 n := by
  unfold sIx
  dsimp only
  rw [if_neg (show ¬ (12 : Int) < 0 by decide)]
  rfl
theorem cut_12 (ns : List Int) : (cut ns none (some 12)).length ≤ 12 := by
  unfold cut
  rw [List.length_take, six12]
  have : sIx ns.length 0 none = 0 := rfl
  omega
theorem cut_63 (ns : List Int) (h : cut ns (some 12) (some 63) ≠ []) : (cut ns none (some 12)).length = 12 := by
  have hn : 12 < ns.length := by
    rcases Nat.lt_or_ge 12 ns.length with z | z
    · exact z
    · exfalso
      apply h
      unfold cut
      have e : sIx ns.length 0 (some 12) = ns.length := by rw [six12]; omega
      rw [e, List.drop_length, List.take_nil]
  unfold cut
  rw [List.length_take, List.length_drop, six12]
  have : sIx ns.length 0 none = 0 := rfl
  omega
/-- the body of the opening's loop -/
def openB : CSs := match f_law_open.body with
  | .cons _ (.cons (.for _ _ b) _) => b
  | _ => .nil
section
variable {cf : Nat → List D → Mem → Out D} {mt : Nat → Nat → Option Nat}
theorem open_step {r0 r2 r3 : Option D} {k : Nat} {c : Int} {cs : List Int} (h : cs.length = 12) : ∃ cs' : List Int, cs'.length = 12 ∧ evSs cf mt openB [r0, some (.ref 0 0), some (.p (.int k)), some (.p (.int c))] [.val (.lst (cs.map P.int))] = .ok (.nx [r0, some (.ref 0 0), some (.p (.int k)), some (.p (.int c))]) [.val (.lst (cs'.map P.int))] := by
  have hm := mod_b (a := (k : Int)) (p := 12) (by decide)
  obtain ⟨x, e, hx, hq⟩ := atI_of (l := cs.map P.int) hm.1 (by rw [List.length_map, h]; exact hm.2)
  obtain ⟨y, _, rfl⟩ := List.mem_map.mp hx
  refine ⟨cs.set ((k : Int) % 12).toNat (y + c), by rw [List.length_set]; exact h, ?_⟩
  have hi : ixN (cs.map P.int).length ((k : Int) % 12) = some ((k : Int) % 12).toNat := by
    unfold ixN
    rw [if_pos hm.1, if_pos (by rw [List.length_map, h]; exact hm.2)]
  have i0 : evE cf mt (.bin .mod (.var 2) (.lit (.int 12))) [r0, some (.ref 0 0), some (.p (.int k)), some (.p (.int c))] [.val (.lst (cs.map P.int))] = .ok (.p (.int ((k : Int) % 12))) [.val (.lst (cs.map P.int))] := e_mod (e_var rfl) (e_lit _) (by decide)
  have w := setix_l (m := [Obj.dead]) (n := 0) (l := cs.map P.int) (v := P.int (y + c)) (by decide) hi
  rw [List.map_set] at *
  refine Eq.trans (ss_nx (v_setix (e_add (e_ix (e_var rfl) i0 (ixD_l rfl rfl e)) (e_var rfl)) (e_var rfl) i0 w)) ?_
  exact ss_nil
theorem open_loop {g : Mem → Bool} (hg : ∀ m, g m = true) : ∀ (L : List Int) (k : Nat) (cs : List Int) (r0 r2 r3 : Option D), (L ≠ [] → cs.length = 12) → ∃ (r2' r3' : Option D) (cs' : List Int), forL g (fun x ρ m => match bindTg (.tp [2, 3]) x ρ with
    | some ρ1 => evSs cf mt openB ρ1 m
    | none => .bad) (enumL k (L.map P.int)) [r0, some (.ref 0 0), r2, r3] [.val (.lst (cs.map P.int))] = .ok (.nx [r0, some (.ref 0 0), r2', r3']) [.val (.lst (cs'.map P.int))] ∧ cs'.length = cs.length
  | [], k, cs, r0, r2, r3, _ => ⟨r2, r3, cs, by
    show (if g _ then _ else _) = _
    rw [hg, if_pos rfl], rfl⟩
  | c :: L, k, cs, r0, r2, r3, h => by
    have h12 := h (by simp)
    obtain ⟨cs1, l1, e1⟩ := open_step (cf := cf) (mt := mt) (r0 := r0) (r2 := r2) (r3 := r3) (k := k) (c := c) h12
    obtain ⟨r2', r3', cs2, e2, l2⟩ := open_loop hg L (k + 1) cs1 r0 (some (.p (.int k))) (some (.p (.int c))) fun _ => l1
    refine ⟨r2', r3', cs2, ?_, by rw [l2, l1, h12]⟩
    show (if g _ then (evSs cf mt openB [r0, some (.ref 0 0), some (.p (.int k)), some (.p (.int c))] [.val (.lst (cs.map P.int))]).bind _ else _) = _
    rw [hg, if_pos rfl, e1]
    exact e2
theorem open_body (ns : List Int) : ∃ cs : List Int, cs.length ≤ 12 ∧ evSs cf mt f_law_open.body [some (.scr ns), none, none, none] [] = .ok (.rt (.ref 1 0)) (pm m0 1 cs 0 0) := by
  have z0 : evS cf mt (getS 0 f_law_open.body) [some (.scr ns), none, none, none] [] = .ok (.nx [some (.scr ns), some (.ref 0 0), none, none]) [.val (.lst (cut (ns.map P.int) none (some 12)))] := rfl
  rw [cut_map] at z0
  have hz : ∃ g : Mem → Bool, (∀ m, g m = true) ∧ evI cf mt (.enum (.slice (.var 0) (.lit (.int 12)) (.lit (.int 63)))) [some (.scr ns), some (.ref 0 0), none, none] [.val (.lst ((cut ns none (some 12)).map P.int))] = .ok (enumL 0 (cut (ns.map P.int) (some 12) (some 63)), g) [.val (.lst ((cut ns none (some 12)).map P.int))] := ⟨_, fun _ => rfl, rfl⟩
  obtain ⟨g, hg, hz⟩ := hz
  rw [cut_map] at hz
  obtain ⟨r2, r3, cs, e, l⟩ := open_loop (cf := cf) (mt := mt) hg (cut ns (some 12) (some 63)) 0 (cut ns none (some 12)) (some (.scr ns)) none none (cut_63 ns)
  have z1 : evS cf mt (getS 1 f_law_open.body) [some (.scr ns), some (.ref 0 0), none, none] [.val (.lst ((cut ns none (some 12)).map P.int))] = .ok (.nx [some (.scr ns), some (.ref 0 0), r2, r3]) [.val (.lst (cs.map P.int))] := by
    show (evI cf mt (.enum (.slice (.var 0) (.lit (.int 12)) (.lit (.int 63)))) [some (.scr ns), some (.ref 0 0), none, none] [.val (.lst ((cut ns none (some 12)).map P.int))]).bind (fun w m1 => forL w.2 (fun x ρ m => match bindTg (.tp [2, 3]) x ρ with
      | some ρ1 => evSs cf mt openB ρ1 m
      | none => .bad) w.1 [some (.scr ns), some (.ref 0 0), none, none] m1) = _
    rw [hz]
    exact e
  refine ⟨cs, by rw [l]; exact cut_12 ns, ?_⟩
  refine Eq.trans (ss_nx z0) ?_
  refine Eq.trans (ss_nx z1) ?_
  exact ss_rt rfl
end
end K02
end Lot
namespace Lot
open PySem
namespace K02
/-- the pen lies at n, so far at most -/
def Pen (M : Mem) (n : Nat) (B : Nat) : Prop := ∃ (cs : List Int) (a r : Int), M[n]? = some (.val (pv cs a r)) ∧ cs.length ≤ 1000 ∧ 0 ≤ a ∧ a ≤ B
/-- only the pen has moved -/
def Mv (n : Nat) (M M' : Mem) : Prop := ∃ o, M' = M.set n o
theorem Mv.len {n : Nat} {M M' : Mem} (h : Mv n M M') : M'.length = M.length := by obtain ⟨o, rfl⟩ := h; simp
theorem Mv.trans {n : Nat} {M M' M'' : Mem} (h : Mv n M M') (h' : Mv n M' M'') : Mv n M M'' := by
  obtain ⟨o, rfl⟩ := h
  obtain ⟨o', rfl⟩ := h'
  exact ⟨o', by rw [List.set_set]⟩
theorem Mv.get {n : Nat} {M M' : Mem} (h : Mv n M M') {q : Nat} (hq : q ≠ n) : getM M' q = getM M q := by
  obtain ⟨o, rfl⟩ := h
  unfold getM
  rw [List.getElem?_set_ne (Ne.symm hq)]
theorem Mv.cell {n : Nat} {M M' : Mem} (h : Mv n M M') {q k : Nat} (hq : q ≠ n) : cell M' q k = cell M q k := by
  unfold Lot.cell
  rw [h.get hq]
theorem Mv.refl {n : Nat} {M : Mem} {B : Nat} (h : Pen M n B) : Mv n M M := by
  obtain ⟨cs, a, r, h, _⟩ := h
  exact ⟨_, (set_same h).symm⟩
theorem Pen.lt {M : Mem} {n B : Nat} (h : Pen M n B) : n < M.length := by
  obtain ⟨cs, a, r, h, _⟩ := h
  exact (List.getElem?_eq_some_iff.mp h).1
theorem Pen.mono {M : Mem} {n B C : Nat} (h : Pen M n B) (hb : B ≤ C) : Pen M n C := by
  obtain ⟨cs, a, r, h1, h2, h3, h4⟩ := h
  exact ⟨cs, a, r, h1, h2, h3, by omega⟩
theorem Pen.app {M objs : Mem} {n B : Nat} (h : Pen M n B) : Pen (M ++ objs) n B := by
  have hl := h.lt
  obtain ⟨cs, a, r, h1, h2⟩ := h
  exact ⟨cs, a, r, by rw [List.getElem?_append_left hl]; exact h1, h2⟩
/-- .. ahead of objects of a def's own -/
theorem Mv.un {M M'' objs : Mem} {n C : Nat} (hl : n < M.length) (h : Mv n (M ++ objs) M'') (p : Pen M'' n C) : ∃ M', M'' = M' ++ objs ∧ Mv n M M' ∧ Pen M' n C := by
  obtain ⟨o, rfl⟩ := h
  rw [List.set_append_left _ _ hl] at p ⊢
  refine ⟨M.set n o, rfl, ⟨o, rfl⟩, ?_⟩
  obtain ⟨cs, a, r, h1, h2⟩ := p
  exact ⟨cs, a, r, by rw [List.getElem?_append_left (by simpa using hl)] at h1; exact h1, h2⟩
theorem take_s {d : Nat} {M : Mem} {n B a : Nat} (p : Pen M n B) (hB : B < 1073741824) (ha : 0 < a ∧ a < 1073741824) : ∃ (r : Nat) (M' : Mem), prog.call (d + 2) i_law_take [.ref n 0, .p (.int (a : Nat))] M = .ok (.p (.int (r : Nat))) M' ∧ r < a ∧ Mv n M M' ∧ Pen M' n (B + 1) := by
  have hn := p.lt
  obtain ⟨cs, at_, rest, h1, h2, h3, h4⟩ := p
  have e : M = pm M n cs at_ rest := (set_same h1).symm
  obtain ⟨r, at', rest', h, g1, g2, g3, g4⟩ := take_ok (d := d) (m := M) (n := n) (cs := cs) (at_ := at_) (rest := rest) (a := (a : Int)) hn h3 (by omega) h2 (by omega)
  rw [← e] at h
  refine ⟨r.toNat, pm M n cs at' rest', ?_, by omega, ⟨_, rfl⟩, cs, at', rest', ?_, h2, by omega, by omega⟩
  · rw [h, show ((r.toNat : Nat) : Int) = r by omega]
  · unfold pm
    rw [List.getElem?_set_self hn]
theorem one_of_s {d : Nat} {M : Mem} {n B : Nat} {dd : D} {l : List P} (p : Pen M n B) (hB : B < 1073741824) (hd : ∀ M', Mv n M M' → rg dd M' = some (.lst l)) (hl : 0 < l.length ∧ l.length < 1073741824) : ∃ (x : P) (M' : Mem), prog.call (d + 3) i_law_one_of [.ref n 0, dd] M = .ok (.p x) M' ∧ x ∈ l ∧ Mv n M M' ∧ Pen M' n (B + 1) := by
  obtain ⟨r, M', h1, h2, h3, h4⟩ := take_s (d := d) p hB hl
  have hr : l[r]? = some l[r] := List.getElem?_eq_getElem h2
  refine ⟨l[r], M', ?_, List.getElem_mem h2, h3, h4⟩
  have hb := call_p (g := prog) (d := d + 2) (f := i_law_one_of) (q := f_law_one_of) (ds := [.ref n 0, dd]) (m := M) (m1 := M') (x := l[r]) rfl rfl (ss_rt (v_ret (e_ix (x := dd) (y := .p (.int (r : Nat))) (e_var rfl) (e_call (es_two (e_var rfl) (e_len (e_var rfl) (hd M (Mv.refl p)) rfl)) h1) (ixD_l (hd M' h3) rfl (atI_nat hr)))))
  rw [hb, ← h3.len, List.take_length]
end K02
end Lot
namespace Lot
open PySem
theorem str_ext {a b : Str} (h : a.cps.toList = b.cps.toList) : a = b := by
  cases a; cases b
  simpa [Array.toList_inj] using h
theorem str_app (a b : Str) : (a ++ b).cps.toList = a.cps.toList ++ b.cps.toList := by
  show (a.cps ++ b.cps).toList = _
  simp
theorem join_cps : ∀ cs : List Nat, (Str.join "" (cs.map fun (c : Nat) => (⟨#[c]⟩ : Str))).cps.toList = cs
  | [] => rfl
  | [c] => rfl
  | c :: c' :: cs => by
    have ih := join_cps (c' :: cs)
    show ((⟨#[c]⟩ : Str) ++ "" ++ Str.join "" ((c' :: cs).map fun (c : Nat) => (⟨#[c]⟩ : Str))).cps.toList = _
    rw [str_app, str_app, ih]
    rfl
theorem lets_at {i : Nat} (h : i < 26) : lets.cps.toList[i]? = some (97 + i) := by
  have : ∀ i : Fin 26, lets.cps.toList[i.val]? = some (97 + i.val) := by decide
  exact this ⟨i, h⟩
theorem letter_eq {i : Nat} (h : i < 26) : letter i = ⟨#[97 + i]⟩ := by
  unfold letter
  rw [lets_at h]
  rfl
theorem sOk_of {s : Str} (h : ∀ c ∈ s.cps.toList, c < 1114112) : sOk s := by
  unfold sOk PyData.strOk
  rw [Array.all_eq_true']
  intro c hc
  have := h c (by simpa using hc)
  simpa using this
theorem of_sOk {s : Str} (h : sOk s) : ∀ c ∈ s.cps.toList, c < 1114112 := by
  unfold sOk PyData.strOk at h
  rw [Array.all_eq_true'] at h
  intro c hc
  have := h c (by simpa using hc)
  simpa using this
/-- the words of a spelling: unlike at a place -/
theorem words_nd {lot : Nat} {w : Nat → Str} {first pos : Nat} (hl : lot ≤ 26) (h : ∀ k, k < lot → (w k).cps.toList[pos]? = some (97 + (first + 5 * k) % 26)) : ((List.range lot).map w).Nodup := by
  rw [List.nodup_iff_pairwise_ne, List.pairwise_map]
  refine List.Pairwise.imp_of_mem (fun {a b} ha hb hab e => ?_) (List.pairwise_lt_range (n := lot))
  have ha := List.mem_range.mp ha
  have hb := List.mem_range.mp hb
  have h1 := h a ha
  have h2 := h b hb
  rw [e, h2] at h1
  have h1 := Option.some.inj h1
  have hab : a < b := hab
  omega
namespace K02
variable {d : Nat}
theorem e_modN {cf : Nat → List D → Mem → Out D} {mt : Nat → Nat → Option Nat} {ρ : Env} {m m1 m2 : Mem} {a b : CE} {p q : Nat} (ha : evE cf mt a ρ m = .ok (.p (.int (p : Nat))) m1) (hb : evE cf mt b ρ m1 = .ok (.p (.int (q : Nat))) m2) (h : 0 < q) : evE cf mt (.bin .mod a b) ρ m = .ok (.p (.int ((p % q : Nat) : Int))) m2 := by
  rw [e_mod ha hb (by omega)]
  rfl
theorem e_addN {cf : Nat → List D → Mem → Out D} {mt : Nat → Nat → Option Nat} {ρ : Env} {m m1 m2 : Mem} {a b : CE} {p q : Nat} (ha : evE cf mt a ρ m = .ok (.p (.int (p : Nat))) m1) (hb : evE cf mt b ρ m1 = .ok (.p (.int (q : Nat))) m2) : evE cf mt (.bin .add a b) ρ m = .ok (.p (.int ((p + q : Nat) : Int))) m2 := by
  rw [e_add ha hb]
  rfl
theorem e_mulN {cf : Nat → List D → Mem → Out D} {mt : Nat → Nat → Option Nat} {ρ : Env} {m m1 m2 : Mem} {a b : CE} {p q : Nat} (ha : evE cf mt a ρ m = .ok (.p (.int (p : Nat))) m1) (hb : evE cf mt b ρ m1 = .ok (.p (.int (q : Nat))) m2) (h : p < 1000000) : evE cf mt (.bin .mul a b) ρ m = .ok (.p (.int ((p * q : Nat) : Int))) m2 := by
  rw [e_mul ha hb (sm_l (small_of (by omega) (by omega)))]
  push_cast
  rfl
theorem len_str {cf : Nat → List D → Mem → Out D} {mt : Nat → Nat → Option Nat} {ρ : Env} {m : Mem} {v : Nat} {s : Str} (hv : (ρ[v]?).bind id = some (.p (.str s))) (hl : s.length ≤ 1000) : evE cf mt (.prim .len (.cons (.var v) .nil)) ρ m = .ok (.p (.int (s.length : Nat))) m := e_len (q := .str s) (e_var hv) rfl (by show (if s.length ≤ line then some (s.length : Int) else none) = _; rw [if_pos (by unfold line; omega)])
/-- the letter of the k-th word -/
theorem spelt_at {ρ : Env} {m : Mem} {first k : Nat} (h2 : (ρ[2]?).bind id = some (.p (.str lets))) (h6 : (ρ[6]?).bind id = some (.p (.int (first : Nat)))) (h4 : (ρ[4]?).bind id = some (.p (.int (k : Nat)))) : evE (prog.call d) prog.mt (.ix (.var 2) (.bin .mod (.bin .add (.var 6) (.bin .mul (.lit (.int 5)) (.var 4))) (.lit (.int 26)))) ρ m = .ok (.p (.str ⟨#[97 + (first + 5 * k) % 26]⟩)) m := by
  have hlt : (first + 5 * k) % 26 < 26 := Nat.mod_lt _ (by decide)
  have := ixD_lets (m := m) hlt
  rw [letter_eq hlt] at this
  exact e_ix (e_var h2) (e_modN (q := 26) (e_addN (e_var h6) (e_mulN (p := 5) (e_lit _) (e_var h4) (by decide))) (e_lit _) (by decide)) this
/-- so many copies of a sign -/
def wA (spot first k : Nat) : Str := ⟨(List.replicate (1 + (spot + 3 * k) % 8) [97 + (first + 5 * k) % 26]).flatten.toArray⟩
/-- a sign within a word -/
def wB2 (cs : List Nat) (spot first k : Nat) : Str := ⟨(cs.take spot ++ [97 + (first + 5 * k) % 26] ++ cs.drop spot).toArray⟩
theorem wA_l (spot first k : Nat) : (wA spot first k).cps.toList = List.replicate (1 + (spot + 3 * k) % 8) (97 + (first + 5 * k) % 26) := by
  unfold wA
  show (List.replicate (1 + (spot + 3 * k) % 8) [97 + (first + 5 * k) % 26]).flatten = _
  generalize 1 + (spot + 3 * k) % 8 = t
  induction t with
  | zero => rfl
  | succ t ih => rw [List.replicate_succ, List.flatten_cons, ih, List.replicate_succ]; rfl
theorem wB_l (cs : List Nat) (spot first k : Nat) : (wB2 cs spot first k).cps.toList = cs.take spot ++ [97 + (first + 5 * k) % 26] ++ cs.drop spot := rfl
theorem sgn (first k : Nat) : 97 + (first + 5 * k) % 26 < 1114112 := by
  have := Nat.mod_lt (first + 5 * k) (show 0 < 26 by decide)
  omega
abbrev sR (n lot : Nat) (stem : Str) (spot first : Nat) (k : Option D) : Env := [some (.ref n 0), some (.p (.int (lot : Nat))), some (.p (.str lets)), some (.p (.str stem)), k, some (.p (.int (spot : Nat))), some (.p (.int (first : Nat)))]
theorem endA {n lot spot first : Nat} {stem : Str} {M : Mem} (hl : lot ≤ 26) (hsp : spot ≤ 100) : evE (prog.call (d + 2)) prog.mt (.comp (.bin .mul (.ix (.var 2) (.bin .mod (.bin .add (.var 6) (.bin .mul (.lit (.int 5)) (.var 4))) (.lit (.int 26)))) (.bin .add (.lit (.int 1)) (.bin .mod (.bin .add (.var 5) (.bin .mul (.lit (.int 3)) (.var 4))) (.lit (.int 8))))) (.nm 4) (.rng1 (.var 1)) .nil) (sR n lot stem spot first none) M = .ok (.p (.lst ((List.range lot).map fun k => P.str (wA spot first k)))) M := by
  have hi := i_rng1 (cf := prog.call (d + 2)) (mt := prog.mt) (ρ := sR n lot stem spot first none) (m := M) (e := .var 1) (j := (lot : Nat)) (e_var rfl) (by omega)
  have hL : rngL 0 ((lot : Nat) : Int).toNat = (List.range lot).map fun i => P.int ((i : Nat) : Int) := rngL0 lot
  rw [hL] at hi
  have e := e_compE (elt := .bin .mul (.ix (.var 2) (.bin .mod (.bin .add (.var 6) (.bin .mul (.lit (.int 5)) (.var 4))) (.lit (.int 26)))) (.bin .add (.lit (.int 1)) (.bin .mod (.bin .add (.var 5) (.bin .mul (.lit (.int 3)) (.var 4))) (.lit (.int 8))))) (tg := .nm 4) (ifs := .nil) (enc := fun (k : Nat) => P.int k) (L := List.range lot) (f := fun k => [P.str (wA spot first k)]) hi rfl rfl (fun k hk => ?_) ?_
  · rw [flatMap_one] at e
    exact e
  · have h1 : evE (prog.call (d + 2)) prog.mt (.bin .add (.lit (.int 1)) (.bin .mod (.bin .add (.var 5) (.bin .mul (.lit (.int 3)) (.var 4))) (.lit (.int 8)))) (sR n lot stem spot first (some (.p (.int (k : Nat))))) M = .ok (.p (.int ((1 + (spot + 3 * k) % 8 : Nat) : Int))) M := e_addN (p := 1) (e_lit _) (e_modN (q := 8) (e_addN (e_var rfl) (e_mulN (p := 3) (e_lit _) (e_var rfl) (by decide))) (e_lit _) (by decide))
    have h2 : evE (prog.call (d + 2)) prog.mt (.ix (.var 2) (.bin .mod (.bin .add (.var 6) (.bin .mul (.lit (.int 5)) (.var 4))) (.lit (.int 26)))) (sR n lot stem spot first (some (.p (.int (k : Nat))))) M = .ok (.p (.str ⟨#[97 + (first + 5 * k) % 26]⟩)) M := spelt_at rfl rfl rfl
    have hm : mulP (.str ⟨#[97 + (first + 5 * k) % 26]⟩) (.int ((1 + (spot + 3 * k) % 8 : Nat) : Int)) = some (.str (wA spot first k)) := by
      have hb : (spot + 3 * k) % 8 < 8 := Nat.mod_lt _ (by decide)
      unfold wA
      generalize (spot + 3 * k) % 8 = t at hb
      have hc : (decide (0 ≤ ((1 + t : Nat) : Int)) && decide (((1 + t : Nat) : Int) ≤ 1000) && decide ((⟨#[97 + (first + 5 * k) % 26]⟩ : Str).length ≤ 1000)) = true := by
        rw [Bool.and_eq_true, Bool.and_eq_true, decide_eq_true_eq, decide_eq_true_eq, decide_eq_true_eq]
        exact ⟨⟨by omega, by omega⟩, by show (1 : Nat) ≤ 1000; decide⟩
      exact if_pos hc
    exact st_yes rfl if_nil (e_bin (op := .mul) h2 h1 rfl rfl hm)
  · rw [flatMap_one, List.length_map, List.length_range]
    unfold line
    omega
theorem addS {a b c : Str} (h : a.length + b.length ≤ 1000) (e : c.cps.toList = a.cps.toList ++ b.cps.toList) : binP .add (.str a) (.str b) = some (.str c) := by
  have : c = a ++ b := str_ext (by rw [e, str_app])
  rw [this]
  show (if a.length + b.length ≤ line then some (P.str (a ++ b)) else none) = _
  rw [if_pos (by unfold line; omega)]
theorem endB {n lot spot first : Nat} {stem : Str} {cs : List Nat} {M : Mem} (hl : lot ≤ 26) (hsc : stem.cps.toList = cs) (hcl : cs.length < 8) (hsp : spot ≤ cs.length) : evE (prog.call (d + 2)) prog.mt (.comp (.bin .add (.bin .add (.slice (.var 3) .nob (.var 5)) (.ix (.var 2) (.bin .mod (.bin .add (.var 6) (.bin .mul (.lit (.int 5)) (.var 4))) (.lit (.int 26))))) (.slice (.var 3) (.var 5) .nob)) (.nm 4) (.rng1 (.var 1)) .nil) (sR n lot stem spot first none) M = .ok (.p (.lst ((List.range lot).map fun k => P.str (wB2 cs spot first k)))) M := by
  have hi := i_rng1 (cf := prog.call (d + 2)) (mt := prog.mt) (ρ := sR n lot stem spot first none) (m := M) (e := .var 1) (j := (lot : Nat)) (e_var rfl) (by omega)
  have hL : rngL 0 ((lot : Nat) : Int).toNat = (List.range lot).map fun i => P.int ((i : Nat) : Int) := rngL0 lot
  rw [hL] at hi
  have hsl : stem.length = cs.length := by
    show stem.cps.size = _
    rw [← hsc]
    simp
  have sl1 : sliceD (.p (.str stem)) none (some (spot : Int)) M = some (.str ⟨(cs.take spot).toArray⟩) := by
    show (if stem.length ≤ line then some (P.str ⟨(cut stem.cps.toList none (some (spot : Int))).toArray⟩) else none) = _
    rw [if_pos (by unfold line; omega), hsc, cut_hi hsp]
  have sl2 : sliceD (.p (.str stem)) (some (spot : Int)) none M = some (.str ⟨(cs.drop spot).toArray⟩) := by
    show (if stem.length ≤ line then some (P.str ⟨(cut stem.cps.toList (some (spot : Int)) none).toArray⟩) else none) = _
    rw [if_pos (by unfold line; omega), hsc]
    have : cut cs (some (spot : Int)) none = cs.drop spot := by
      unfold cut
      have e1 : sIx cs.length 0 (some (spot : Int)) = spot := by
        unfold sIx
        dsimp only
        rw [if_neg (by omega)]
        simp
        omega
      have e2 : sIx cs.length cs.length none = cs.length := rfl
      rw [e1, e2, List.take_of_length_le (by rw [List.length_drop]; omega)]
    rw [this]
  have e := e_compE (elt := .bin .add (.bin .add (.slice (.var 3) .nob (.var 5)) (.ix (.var 2) (.bin .mod (.bin .add (.var 6) (.bin .mul (.lit (.int 5)) (.var 4))) (.lit (.int 26))))) (.slice (.var 3) (.var 5) .nob)) (tg := .nm 4) (ifs := .nil) (enc := fun (k : Nat) => P.int k) (L := List.range lot) (f := fun k => [P.str (wB2 cs spot first k)]) hi rfl rfl (fun k hk => ?_) ?_
  · rw [flatMap_one] at e
    exact e
  · have h2 : evE (prog.call (d + 2)) prog.mt (.ix (.var 2) (.bin .mod (.bin .add (.var 6) (.bin .mul (.lit (.int 5)) (.var 4))) (.lit (.int 26)))) (sR n lot stem spot first (some (.p (.int (k : Nat))))) M = .ok (.p (.str ⟨#[97 + (first + 5 * k) % 26]⟩)) M := spelt_at rfl rfl rfl
    have e1 : evE (prog.call (d + 2)) prog.mt (.slice (.var 3) .nob (.var 5)) (sR n lot stem spot first (some (.p (.int (k : Nat))))) M = .ok (.p (.str ⟨(cs.take spot).toArray⟩)) M := e_slice (x := .p (.str stem)) (e_var rfl) rfl (bnd_var (e_var rfl)) sl1
    have e2 : evE (prog.call (d + 2)) prog.mt (.slice (.var 3) (.var 5) .nob) (sR n lot stem spot first (some (.p (.int (k : Nat))))) M = .ok (.p (.str ⟨(cs.drop spot).toArray⟩)) M := e_slice (x := .p (.str stem)) (e_var rfl) (bnd_var (e_var rfl)) rfl sl2
    have lt : (cs.take spot).length ≤ 8 := by rw [List.length_take]; omega
    have ld : (cs.drop spot).length ≤ 8 := by rw [List.length_drop]; omega
    have b1 : binP .add (.str ⟨(cs.take spot).toArray⟩) (.str ⟨#[97 + (first + 5 * k) % 26]⟩) = some (.str ⟨(cs.take spot ++ [97 + (first + 5 * k) % 26]).toArray⟩) := addS (by show (cs.take spot).toArray.size + 1 ≤ 1000; rw [List.size_toArray]; omega) rfl
    have b2 : binP .add (.str ⟨(cs.take spot ++ [97 + (first + 5 * k) % 26]).toArray⟩) (.str ⟨(cs.drop spot).toArray⟩) = some (.str (wB2 cs spot first k)) := addS (by show (cs.take spot ++ [97 + (first + 5 * k) % 26]).toArray.size + (cs.drop spot).toArray.size ≤ 1000; rw [List.size_toArray, List.size_toArray, List.length_append, List.length_singleton]; omega) rfl
    exact st_yes rfl if_nil (e_bin (op := .add) (e_bin (op := .add) e1 h2 rfl rfl b1) e2 rfl rfl b2)
  · rw [flatMap_one, List.length_map, List.length_range]
    unfold line
    omega
theorem spelt_s {M : Mem} {n B lot : Nat} (p : Pen M n B) (hB : B + 100 < 1073741824) (hl : lot ≤ 26) : ∃ (ws : List Str) (M' : Mem), prog.call (d + 3) i_law_spelt [.ref n 0, .p (.int (lot : Nat))] M = .ok (.p (.lst (ws.map P.str))) M' ∧ ws.length = lot ∧ ws.Nodup ∧ (∀ w ∈ ws, sOk w ∧ w.length ≤ 8) ∧ Mv n M M' ∧ Pen M' n (B + 11) := by
  have hn := p.lt
  obtain ⟨r0, M1, a1, a2, a3, a4⟩ := take_s (d := d) p (by omega) (a := 8) (by decide)
  -- the stem
  obtain ⟨acc, M2, hc, hI⟩ := comp_inv (g := fun _ => true) (step := stp (prog.call (d + 2)) prog.mt (.ix (.var 2) (.call i_law_take (.cons (.var 0) (.cons (.lit (.int 26)) .nil)))) (.nm 4) .nil [some (.ref n 0), some (.p (.int (lot : Nat))), some (.p (.str lets)), none, none, none, none]) (fun j acc M' => Mv n M M' ∧ Pen M' n (B + 1 + j) ∧ ∃ cs : List Nat, acc = cs.map (fun c => P.str ⟨#[c]⟩) ∧ cs.length = j ∧ ∀ c ∈ cs, c < 1114112) (rngL 0 (r0 : Int).toNat) [] M1 0 (by
      rintro i x acc M' hx ⟨h1, h2, cs, rfl, h3, h4⟩
      rw [Nat.zero_add] at h2 h3 ⊢
      have hi : i < 8 := by
        have := (List.getElem?_eq_some_iff.mp hx).1
        rw [rngL0, List.length_map, List.length_range] at this
        omega
      obtain ⟨q, M'', b1, b2, b3, b4⟩ := take_s (d := d) h2 (by omega) (a := 26) (by decide)
      refine ⟨rfl, [.str ⟨#[97 + q]⟩], M'', ?_, h1.trans b3, b4, cs ++ [97 + q], by simp, by simp [h3], fun c hc => ?_⟩
      · have := ixD_lets (m := M'') b2
        rw [letter_eq b2] at this
        exact st_yes rfl if_nil (e_ix (e_var rfl) (e_call (es_two (e_var rfl) (e_lit _)) b1) this)
      · rcases List.mem_append.mp hc with hc | hc
        · exact h4 c hc
        · rw [List.mem_singleton] at hc; omega) (fun _ _ _ => rfl) ⟨a3, a4, [], rfl, rfl, fun c hc => (by cases hc)⟩
  obtain ⟨m2, p2, cs, rfl, hcl, hco⟩ := hI
  rw [Nat.zero_add, rngL0, List.length_map, List.length_range] at p2 hcl
  have hcl8 : cs.length < 8 := by omega
  have hcomp := e_comp (cf := prog.call (d + 2)) (mt := prog.mt) (ρ := [some (.ref n 0), some (.p (.int (lot : Nat))), some (.p (.str lets)), none, none, none, none]) (m := M) (i_rng1 (e := .call i_law_take (.cons (.var 0) (.cons (.lit (.int 8)) .nil))) (e_call (es_two (e_var rfl) (e_lit _)) a1) (by omega)) hc (by rw [List.length_map]; unfold line; omega)
  generalize hst : Str.join "" (cs.map fun (c : Nat) => (⟨#[c]⟩ : Str)) = stem
  have hsc : stem.cps.toList = cs := by rw [← hst]; exact join_cps cs
  have hsl : stem.length = cs.length := by
    show stem.cps.size = _
    rw [← hsc]
    simp
  have hj : evE (prog.call (d + 2)) prog.mt (.bmeth .join (.lit (.str "")) (.cons (.comp (.ix (.var 2) (.call i_law_take (.cons (.var 0) (.cons (.lit (.int 26)) .nil)))) (.nm 4) (.rng1 (.call i_law_take (.cons (.var 0) (.cons (.lit (.int 8)) .nil)))) .nil) .nil)) [some (.ref n 0), some (.p (.int (lot : Nat))), some (.p (.str lets)), none, none, none, none] M = .ok (.p (.str stem)) M2 := by
    refine e_bm (e_lit _) rfl (es_one hcomp) ?_
    show joinT "" (cs.map fun c => P.str ⟨#[c]⟩) M2 = _
    unfold joinT
    have e : cs.map (fun c => P.str ⟨#[c]⟩) = (cs.map fun (c : Nat) => (⟨#[c]⟩ : Str)).map P.str := by rw [List.map_map]; rfl
    rw [e, asStrs_map]
    dsimp only
    rw [hst, if_pos]
    have : ∀ l : List Nat, ((l.map fun (c : Nat) => (⟨#[c]⟩ : Str)).map (fun (s : Str) => s.length)).sum = l.length := fun l => by
      induction l with
      | nil => rfl
      | cons c l ih =>
        rw [List.map_cons, List.map_cons, List.sum_cons, ih, List.length_cons]
        show 1 + l.length = _
        omega
    rw [this]
    show cs.length + (cs.map _).length * 0 ≤ line
    unfold line
    omega
  obtain ⟨spot, M3, b1, b2, b3, b4⟩ := take_s (d := d) p2 (by omega) (a := stem.length + 1) (by omega)
  obtain ⟨first, M4, c1, c2, c3, c4⟩ := take_s (d := d) b4 (by omega) (a := 26) (by decide)
  obtain ⟨sort, M5, s1, s2, s3, s4⟩ := take_s (d := d) c4 (by omega) (a := 3) (by decide)
  have mv : Mv n M M5 := m2.trans (b3.trans (c3.trans s3))
  have pf : Pen M5 n (B + 11) := s4.mono (by omega)
  have hend : ∃ ws : List Str, evSs (prog.call (d + 2)) prog.mt f_law_spelt.body [some (.ref n 0), some (.p (.int (lot : Nat))), none, none, none, none, none] M = .ok (.rt (.p (.lst (ws.map P.str)))) M5 ∧ ws.length = lot ∧ ws.Nodup ∧ ∀ w ∈ ws, sOk w ∧ w.length ≤ 8 := by
    have z : ∀ r, evSs (prog.call (d + 2)) prog.mt (dropS 4 f_law_spelt.body) [some (.ref n 0), some (.p (.int (lot : Nat))), some (.p (.str lets)), some (.p (.str stem)), none, some (.p (.int (spot : Nat))), some (.p (.int (first : Nat)))] M4 = r → evSs (prog.call (d + 2)) prog.mt f_law_spelt.body [some (.ref n 0), some (.p (.int (lot : Nat))), none, none, none, none, none] M = r := fun r hr => by
      refine (ss_nx (v_set (e_lit _))).trans ?_
      refine (ss_nx (v_set hj)).trans ?_
      refine (ss_nx (v_set (e_call (es_two (e_var rfl) (e_addN (q := 1) (len_str rfl (by omega)) (e_lit _))) b1))).trans ?_
      refine (ss_nx (v_set (e_call (es_two (e_var rfl) (e_lit _)) c1))).trans ?_
      exact hr
    have ht : evE (prog.call (d + 2)) prog.mt (.cmp .eq (.call i_law_take (.cons (.var 0) (.cons (.lit (.int 3)) .nil))) (.lit (.int 0))) [some (.ref n 0), some (.p (.int (lot : Nat))), some (.p (.str lets)), some (.p (.str stem)), none, some (.p (.int (spot : Nat))), some (.p (.int (first : Nat)))] M4 = .ok (.p (.bl (((sort : Nat) : Int) == 0))) M5 := e_cmp (e_call (es_two (e_var rfl) (e_lit _)) s1) (e_lit _) rfl
    cases hs : ((sort : Nat) : Int) == 0 with
    | true =>
      rw [hs] at ht
      refine ⟨(List.range lot).map (wA spot first), z _ ?_, by simp, words_nd (first := first) (pos := 0) hl (fun k hk => ?_), fun s hs => ?_⟩
      · rw [List.map_map]
        exact ss_rt ((v_ift_t ht rfl).trans (ss_rt (v_ret (endA hl (by omega)))))
      · rw [wA_l, List.getElem?_replicate, if_pos (by omega)]
      · obtain ⟨k, hk, rfl⟩ := List.mem_map.mp hs
        refine ⟨sOk_of fun c hc => ?_, ?_⟩
        · rw [wA_l] at hc
          rw [List.eq_of_mem_replicate hc]
          exact sgn first k
        · show (wA spot first k).cps.size ≤ 8
          rw [← Array.length_toList, wA_l, List.length_replicate]
          have := Nat.mod_lt (spot + 3 * k) (show 0 < 8 by decide)
          omega
    | false =>
      rw [hs] at ht
      refine ⟨(List.range lot).map (wB2 cs spot first), z _ ?_, by simp, words_nd (first := first) (pos := spot) hl (fun k hk => ?_), fun s hs => ?_⟩
      · rw [List.map_map]
        exact (ss_nx ((v_ift_f ht rfl).trans ss_nil)).trans (ss_rt (v_ret (endB hl hsc hcl8 (by omega))))
      · rw [wB_l, List.append_assoc, List.getElem?_append_right (by rw [List.length_take]; omega), List.length_take]
        have : spot - min spot cs.length = 0 := by omega
        rw [this]
        rfl
      · obtain ⟨k, hk, rfl⟩ := List.mem_map.mp hs
        refine ⟨?_, by
          show (wB2 cs spot first k).cps.size ≤ 8
          rw [← Array.length_toList, wB_l, List.length_append, List.length_append, List.length_take, List.length_drop, List.length_singleton]
          omega⟩
        refine sOk_of fun c hc => ?_
        rw [wB_l] at hc
        rcases List.mem_append.mp hc with hc | hc
        · rcases List.mem_append.mp hc with hc | hc
          · exact hco c (List.mem_of_mem_take hc)
          · rw [List.mem_singleton] at hc
            rw [hc]
            exact sgn first k
        · exact hco c (List.mem_of_mem_drop hc)
  obtain ⟨ws, e, h1, h2, h3⟩ := hend
  refine ⟨ws, M5, ?_, h1, h2, h3, mv, pf⟩
  exact (call_p (g := prog) (d := d + 2) (f := i_law_spelt) (q := f_law_spelt) (ds := [.ref n 0, .p (.int (lot : Nat))]) (m := M) (m1 := M5) rfl rfl e).trans (by rw [← mv.len, List.take_length])
end K02
end Lot
namespace Lot
open PySem
theorem flats_strs : ∀ {l : List Str}, (∀ v ∈ l, sOk v) → flats (l.map P.str) = true
  | [], _ => rfl
  | s :: l, h => by
    rw [List.map_cons]
    simp only [flats, flat, Bool.and_eq_true]
    exact ⟨h s (List.mem_cons_self ..), flats_strs fun v hv => h v (List.mem_cons_of_mem _ hv)⟩
theorem deeps_strs : ∀ l : List Str, deeps (l.map P.str) = 0
  | [] => rfl
  | s :: l => by rw [List.map_cons]; simp [deeps, deep, deeps_strs l]
theorem okD_strs {l : List Str} (h : ∀ v ∈ l, sOk v) : okD (.lst (l.map P.str)) = true := by
  unfold okD
  simp [flat, deep, flats_strs h, deeps_strs]
namespace K02
variable {d : Nat} {M M' : Mem} {n B : Nat}
theorem call_mv {f : Nat} {q : Fn} {ds : List D} {x : P} (hf : prog.fns[f]? = some q) (hl : ds.length = q.np) (h : evSs (prog.call d) prog.mt q.body (ds.map some ++ List.replicate (q.names.length - q.np) none) M = .ok (.rt (.p x)) M') (mv : Mv n M M') : prog.call (d + 1) f ds M = .ok (.p x) M' := (call_p (g := prog) hf hl h).trans (by rw [← mv.len, List.take_length])
theorem call_mvl {f : Nat} {q : Fn} {ds : List D} {x : P} {objs : Mem} (hf : prog.fns[f]? = some q) (hl : ds.length = q.np) (h : evSs (prog.call d) prog.mt q.body (ds.map some ++ List.replicate (q.names.length - q.np) none) M = .ok (.rt (.p x)) (M' ++ objs)) (mv : Mv n M M') : prog.call (d + 1) f ds M = .ok (.p x) M' := call_l hf hl h mv.len
/-- a drawn text -/
theorem one_str {dd : D} {l : List Str} (p : Pen M n B) (hB : B < 1073741824) (hd : ∀ M', Mv n M M' → rg dd M' = some (.lst (l.map P.str))) (hl : 0 < l.length ∧ l.length < 1073741824) : ∃ (x : Str) (M' : Mem), prog.call (d + 3) i_law_one_of [.ref n 0, dd] M = .ok (.p (.str x)) M' ∧ x ∈ l ∧ Mv n M M' ∧ Pen M' n (B + 1) := by
  obtain ⟨x, M', h1, h2, h3, h4⟩ := one_of_s (d := d) p hB hd (by rw [List.length_map]; exact hl)
  obtain ⟨s, hs, rfl⟩ := List.mem_map.mp h2
  exact ⟨s, M', h1, hs, h3, h4⟩
section
variable {x : Str} {kn st : List Str} {dk : D}
/-- behind the word -/
theorem row_tail (p : Pen M n B) (hB : B + 10 < 1073741824) (hk : ∀ M', Mv n M M' → rg dk M' = some (.lst (kn.map P.str))) (hkl : kn.length ≤ 1000) (hst : 0 < st.length ∧ st.length ≤ 1000) {w : Str} (hw : w = "num" ∨ w = "read" ∨ (kn ≠ [] ∧ (w = "out" ∨ w = "write" ∨ ∃ o : Op4, w = o.s))) :
    ∃ (r : Rw) (M' : Mem), evSs (prog.call (d + 3)) prog.mt (dropS 2 f_law_row.body) [some (.ref n 0), some (.p (.str x)), some dk, some (.p (.lst (st.map P.str))), some (.p (.str w)), none] M = .ok (.rt (.p r.p)) M' ∧ (r.mk = some x ∨ r.mk = none) ∧ (∀ v ∈ r.ends, v ∈ kn) ∧ (∀ c, r.cell = some c → c ∈ st) ∧ (∀ x n, r = .num x n → 0 ≤ n ∧ n < 1073741824) ∧ Mv n M M' ∧ Pen M' n (B + 4) := by
  have cm : ∀ {s s' : Str} {b : Bool} {y : Option D} {M1 : Mem}, (s == s') = b → evE (prog.call (d + 3)) prog.mt (.cmp .eq (.var 4) (.lit (.str s'))) [some (.ref n 0), some (.p (.str x)), some dk, some (.p (.lst (st.map P.str))), some (.p (.str s)), y] M1 = .ok (.p (.bl b)) M1 := fun {s s' b y M1} h => e_cmp (e_var rfl) (e_lit _) (by show some (s == s') = _; rw [h])
  have hst' : ∀ {M1 : Mem}, ∀ M', Mv n M1 M' → rg (.p (.lst (st.map P.str))) M' = some (.lst (st.map P.str)) := fun _ _ => rfl
  rcases hw with rfl | rfl | ⟨hne, hw⟩
  · obtain ⟨q, M1, a1, a2, a3, a4⟩ := take_s (d := d + 1) p (by omega) (a := 2) (by decide)
    have hv : ∃ v : Nat, ([P.int 4, P.int 1000003] : List P)[q]? = some (.int (v : Nat)) ∧ 0 < v ∧ v < 1073741824 := by
      have : q = 0 ∨ q = 1 := by omega
      rcases this with rfl | rfl
      · exact ⟨4, rfl, by decide, by decide⟩
      · exact ⟨1000003, rfl, by decide, by decide⟩
    obtain ⟨v, v1, v2, v3⟩ := hv
    obtain ⟨k, M2, b1, b2, b3, b4⟩ := take_s (d := d + 1) a4 (by omega) (a := v) ⟨v2, v3⟩
    refine ⟨.num x (k : Nat), M2, ?_, .inl rfl, (fun v hv => by cases hv), (fun c hc => by cases hc), (fun x n h => by cases h; omega), a3.trans b3, b4.mono (by omega)⟩
    refine ss_rt ((v_ift_t (cm (b := true) (by decide)) rfl).trans (ss_rt (v_ret (e_tup (xs := [.str "num", .str x, .int (k : Nat)]) (ps_cons (e_lit _) (ps_cons (e_var rfl) (ps_cons (e_call (es_two (e_var rfl) (e_ix (x := .p (.lst [P.int 4, P.int 1000003])) (y := .p (.int (q : Nat))) (e_lst (ps_cons (e_lit _) (ps_cons (e_lit _) ps_nil)) (by show 2 ≤ line; decide)) (e_call (es_two (e_var rfl) (e_lit _)) a1) (ixD_lst v1))) b1) ps_nil))) (by show 3 ≤ line; decide)))))
  · obtain ⟨c, M1, a1, a2, a3, a4⟩ := one_str (d := d) (dd := .p (.lst (st.map P.str))) (l := st) p (by omega) hst' (by omega)
    refine ⟨.read x c, M1, ?_, .inl rfl, (fun v hv => by cases hv), (fun c' hc => by cases hc; exact a2), (fun x n h => by cases h), a3, a4.mono (by omega)⟩
    refine (ss_nx ((v_ift_f (cm (b := false) (by decide)) rfl).trans ss_nil)).trans ?_
    exact ss_rt ((v_ift_t (cm (b := true) (by decide)) rfl).trans (ss_rt (v_ret (e_tup (xs := [.str "read", .str x, .str c]) (ps_cons (e_lit _) (ps_cons (e_var rfl) (ps_cons (e_call (es_two (e_var rfl) (e_var rfl)) a1) ps_nil))) (by show 3 ≤ line; decide)))))
  · have hkl' : 0 < kn.length ∧ kn.length < 1073741824 := ⟨List.length_pos_iff.mpr hne, by omega⟩
    obtain ⟨y, M1, a1, a2, a3, a4⟩ := one_str (d := d) (dd := dk) (l := kn) p (by omega) hk hkl'
    have hnn : ((w == "num") = false ∧ (w == "read") = false) := by
      rcases hw with rfl | rfl | ⟨o, rfl⟩
      · exact ⟨by decide, by decide⟩
      · exact ⟨by decide, by decide⟩
      · cases o <;> exact ⟨by decide, by decide⟩
    have z : ∀ R, evSs (prog.call (d + 3)) prog.mt (dropS 5 f_law_row.body) [some (.ref n 0), some (.p (.str x)), some dk, some (.p (.lst (st.map P.str))), some (.p (.str w)), some (.p (.str y))] M1 = R → evSs (prog.call (d + 3)) prog.mt (dropS 2 f_law_row.body) [some (.ref n 0), some (.p (.str x)), some dk, some (.p (.lst (st.map P.str))), some (.p (.str w)), none] M = R := fun R hR => by
      refine (ss_nx ((v_ift_f (cm (b := false) hnn.1) rfl).trans ss_nil)).trans ?_
      refine (ss_nx ((v_ift_f (cm (b := false) hnn.2) rfl).trans ss_nil)).trans ?_
      exact (ss_nx (v_set (e_call (es_two (e_var rfl) (e_var rfl)) a1))).trans hR
    rcases hw with rfl | rfl | ⟨o, rfl⟩
    · refine ⟨.out y, M1, z _ ?_, .inr rfl, (fun v hv => (by have h : v = y := (by simpa [Rw.ends] using hv); rw [h]; exact a2)), (fun c hc => by cases hc), (fun x n h => by cases h), a3, a4.mono (by omega)⟩
      exact ss_rt ((v_ift_t (cm (b := true) (by decide)) rfl).trans (ss_rt (v_ret (e_tup (xs := [.str "out", .str y]) (ps_cons (e_lit _) (ps_cons (e_var rfl) ps_nil)) (by show 2 ≤ line; decide)))))
    · obtain ⟨c, M2, b1, b2, b3, b4⟩ := one_str (d := d) (dd := .p (.lst (st.map P.str))) (l := st) a4 (by omega) hst' (by omega)
      refine ⟨.write c y, M2, z _ ?_, .inr rfl, (fun v hv => (by have h : v = y := (by simpa [Rw.ends] using hv); rw [h]; exact a2)), (fun c' hc => by cases hc; exact b2), (fun x n h => by cases h), a3.trans b3, b4.mono (by omega)⟩
      refine (ss_nx ((v_ift_f (cm (b := false) (by decide)) rfl).trans ss_nil)).trans ?_
      refine ss_rt (v_ret ((e_ife (cm (b := true) (by decide)) rfl).trans ((if_pos rfl).trans ?_)))
      exact e_tup (xs := [.str "write", .str c, .str y]) (ps_cons (e_lit _) (ps_cons (e_call (es_two (e_var rfl) (e_var rfl)) b1) (ps_cons (e_var rfl) ps_nil))) (by show 3 ≤ line; decide)
    · obtain ⟨z', M2, b1, b2, b3, b4⟩ := one_str (d := d) (dd := dk) (l := kn) a4 (by omega) (fun M' h => hk M' (a3.trans h)) hkl'
      refine ⟨.op o x y z', M2, z _ ?_, .inl rfl, (fun v hv => by
        have : v = y ∨ v = z' := by simpa [Rw.ends] using hv
        rcases this with h | h <;> rw [h] <;> assumption), (fun c hc => by cases hc), (fun x n h => by cases h), a3.trans b3, b4.mono (by omega)⟩
      refine (ss_nx ((v_ift_f (cm (b := false) (by cases o <;> decide)) rfl).trans ss_nil)).trans ?_
      refine ss_rt (v_ret ((e_ife (cm (b := false) (by cases o <;> decide)) rfl).trans ((if_neg Bool.false_ne_true).trans ?_)))
      exact e_tup (xs := [.str o.s, .str x, .str y, .str z']) (ps_cons (e_var rfl) (ps_cons (e_var rfl) (ps_cons (e_var rfl) (ps_cons (e_call (es_two (e_var rfl) (e_var rfl)) b1) ps_nil)))) (by show 4 ≤ line; decide)
theorem row_s (p : Pen M n B) (hB : B + 20 < 1073741824) (hk : ∀ M', Mv n M M' → rg dk M' = some (.lst (kn.map P.str))) (hko : ∀ v ∈ kn, sOk v) (hkl : kn.length ≤ 1000) (hst : 0 < st.length ∧ st.length ≤ 1000) :
    ∃ (r : Rw) (M' : Mem), prog.call (d + 4) i_law_row [.ref n 0, .p (.str x), dk, .p (.lst (st.map P.str))] M = .ok (.p r.p) M' ∧ (r.mk = some x ∨ r.mk = none) ∧ (∀ v ∈ r.ends, v ∈ kn) ∧ (∀ c, r.cell = some c → c ∈ st) ∧ (∀ x n, r = .num x n → 0 ≤ n ∧ n < 1073741824) ∧ Mv n M M' ∧ Pen M' n (B + 5) := by
  let ws : List Str := ["num", "add", "less", "times", "min", "read", "write", "out", "add", "less"]
  obtain ⟨w, M1, a1, a2, a3, a4⟩ := one_str (d := d) (dd := .p (.lst (ws.map P.str))) (l := ws) p (by omega) (fun _ _ => rfl) ⟨by show 0 < 10; decide, by show 10 < 1073741824; decide⟩
  have hw : w = "num" ∨ w = "read" ∨ (w = "out" ∨ w = "write" ∨ ∃ o : Op4, w = o.s) := by
    simp only [ws, List.mem_cons, List.not_mem_nil, or_false] at a2
    rcases a2 with rfl | rfl | rfl | rfl | rfl | rfl | rfl | rfl | rfl | rfl
    · exact .inl rfl
    · exact .inr (.inr (.inr (.inr ⟨.add, rfl⟩)))
    · exact .inr (.inr (.inr (.inr ⟨.less, rfl⟩)))
    · exact .inr (.inr (.inr (.inr ⟨.times, rfl⟩)))
    · exact .inr (.inr (.inr (.inr ⟨.min, rfl⟩)))
    · exact .inr (.inl rfl)
    · exact .inr (.inr (.inr (.inl rfl)))
    · exact .inr (.inr (.inl rfl))
    · exact .inr (.inr (.inr (.inr ⟨.add, rfl⟩)))
    · exact .inr (.inr (.inr (.inr ⟨.less, rfl⟩)))
  have z0 : evS (prog.call (d + 3)) prog.mt (getS 0 f_law_row.body) [some (.ref n 0), some (.p (.str x)), some dk, some (.p (.lst (st.map P.str))), none, none] M = .ok (.nx [some (.ref n 0), some (.p (.str x)), some dk, some (.p (.lst (st.map P.str))), some (.p (.str w)), none]) M1 := v_set (e_call (es_two (m1 := M) (y := .p (.lst (ws.map P.str))) (e_var rfl) rfl) a1)
  have he : evE (prog.call (d + 3)) prog.mt (.cmp .eq (.var 2) (.lst .nil)) [some (.ref n 0), some (.p (.str x)), some dk, some (.p (.lst (st.map P.str))), some (.p (.str w)), none] M1 = .ok (.p (.bl kn.isEmpty)) M1 := by
    refine e_cmp (x := dk) (y := .p (.lst [])) (e_var rfl) (e_lst ps_nil (Nat.zero_le _)) ?_
    unfold cmpD
    rw [show (if isIn .eq = true then rd dk M1 else rg dk M1) = some (.lst (kn.map P.str)) from hk M1 a3]
    show (if okEq (.lst (kn.map P.str)) (.lst []) = true then some (eqP (.lst (kn.map P.str)) (.lst [])) else none) = _
    rw [if_pos (okEq_of (okD_strs hko) rfl)]
    cases kn <;> rfl
  have hk1 : ∀ M', Mv n M1 M' → rg dk M' = some (.lst (kn.map P.str)) := fun M' h => hk M' (a3.trans h)
  have fin : ∀ (w' : Str), evS (prog.call (d + 3)) prog.mt (getS 1 f_law_row.body) [some (.ref n 0), some (.p (.str x)), some dk, some (.p (.lst (st.map P.str))), some (.p (.str w)), none] M1 = .ok (.nx [some (.ref n 0), some (.p (.str x)), some dk, some (.p (.lst (st.map P.str))), some (.p (.str w')), none]) M1 → (w' = "num" ∨ w' = "read" ∨ (kn ≠ [] ∧ (w' = "out" ∨ w' = "write" ∨ ∃ o : Op4, w' = o.s))) →
      ∃ (r : Rw) (M' : Mem), prog.call (d + 4) i_law_row [.ref n 0, .p (.str x), dk, .p (.lst (st.map P.str))] M = .ok (.p r.p) M' ∧ (r.mk = some x ∨ r.mk = none) ∧ (∀ v ∈ r.ends, v ∈ kn) ∧ (∀ c, r.cell = some c → c ∈ st) ∧ (∀ x n, r = .num x n → 0 ≤ n ∧ n < 1073741824) ∧ Mv n M M' ∧ Pen M' n (B + 5) := fun w' z1 hw' => by
    obtain ⟨r, M', b1, b2, b3, b4, b4', b5, b6⟩ := row_tail (d := d) (x := x) (kn := kn) (st := st) (dk := dk) a4 (by omega) hk1 hkl hst hw'
    exact ⟨r, M', call_mv (d := d + 3) (f := i_law_row) (q := f_law_row) rfl rfl ((ss_nx z0).trans ((ss_nx z1).trans b1)) (a3.trans b5), b2, b3, b4, b4', a3.trans b5, b6⟩
  cases hkn : kn.isEmpty with
  | false =>
    rw [hkn] at he
    have hne : kn ≠ [] := by intro e; rw [e] at hkn; cases hkn
    exact fin w ((v_ift_f ((e_and he rfl).trans rfl) rfl).trans ss_nil) (hw.imp id (·.imp id fun h => ⟨hne, h⟩))
  | true =>
    rw [hkn] at he
    have h2 : evE (prog.call (d + 3)) prog.mt (.cmp .ne (.var 4) (.lit (.str "read"))) [some (.ref n 0), some (.p (.str x)), some dk, some (.p (.lst (st.map P.str))), some (.p (.str w)), none] M1 = .ok (.p (.bl (!(w == "read")))) M1 := e_cmp (e_var rfl) (e_lit _) rfl
    have h3 := (e_and (b := .cmp .ne (.var 4) (.lit (.str "read"))) (es := .nil) he rfl).trans ((if_pos rfl).trans (e_and1.trans h2))
    by_cases hr : w = "read"
    · subst hr
      exact fin "read" ((v_ift_f h3 (show truth (.p (.bl (!(("read" : Str) == "read")))) M1 = some false from by rw [beq_self_eq_true]; rfl)).trans ss_nil) (.inr (.inl rfl))
    · have : (w == "read") = false := by simpa using hr
      rw [this] at h3
      exact fin "num" ((v_ift_t h3 rfl).trans ((ss_nx (v_set (e_lit _))).trans ss_nil)) (.inl rfl)
end
end K02
end Lot
namespace Lot
open PySem
/-- the first two parts -/
def Rw.hd2 : Rw → P
  | .num x _ => .tup [.str "num", .str x]
  | .op w x _ _ => .tup [.str w.s, .str x]
  | .read x _ => .tup [.str "read", .str x]
  | .write c _ => .tup [.str "write", .str c]
  | .out y => .tup [.str "out", .str y]
theorem okD_two {a b : Str} (ha : sOk a) (hb : sOk b) : okD (.tup [.str a, .str b]) = true := by
  unfold okD
  simp only [flat, flats, deep, deeps, show PyData.strOk a = true from ha, show PyData.strOk b = true from hb]
  rfl
theorem okD_hd2 {r : Rw} (h : ∀ s ∈ r.strs, sOk s) : okD r.hd2 = true := by
  cases r with
  | op w x y z => exact okD_two (by cases w <;> exact (show PyData.strOk _ = true by decide +kernel)) (h x (by simp [Rw.strs]))
  | num x n => exact okD_two (show PyData.strOk _ = true by decide +kernel) (h x (by simp [Rw.strs]))
  | read x n => exact okD_two (show PyData.strOk _ = true by decide +kernel) (h x (by simp [Rw.strs]))
  | write x n => exact okD_two (show PyData.strOk _ = true by decide +kernel) (h x (by simp [Rw.strs]))
  | out x => exact okD_two (show PyData.strOk _ = true by decide +kernel) (h x (by simp [Rw.strs]))
theorem slice_hd2 (r : Rw) (m : Mem) : sliceD (.p r.p) none (some 2) m = some r.hd2 := by
  cases r with
  | op w x y z => cases w <;> rfl
  | _ => rfl
mutual
theorem sameP_refl : ∀ x : P, flat x = true → sameP x x = true
  | .non, _ => rfl
  | .bl a, _ => by unfold sameP; exact beq_self_eq_true a
  | .int a, _ => by unfold sameP; exact beq_self_eq_true a
  | .str a, _ => by unfold sameP; exact beq_self_eq_true a
  | .tup a, h => by unfold sameP; unfold flat at h; exact samePs_refl a h
  | .lst a, h => by unfold sameP; unfold flat at h; exact samePs_refl a h
  | .dic .., h => by simp [flat] at h
  | .set .., h => by simp [flat] at h
  | .ins .., h => by simp [flat] at h
  | .exc .., h => by simp [flat] at h
theorem samePs_refl : ∀ x : List P, flats x = true → samePs x x = true
  | [], _ => rfl
  | x :: r, h => by
    simp only [flats, Bool.and_eq_true] at h
    unfold samePs
    rw [sameP_refl x h.1, samePs_refl r h.2]
    rfl
end
theorem stays_loc {n k : Nat} {m : Mem} {l : List P} (h : cell m n k = some (.lst l)) (hf : flats l = true) : stays (.ref n k, .lst l) m = true := by
  show (match rd (.ref n k) m with | some y => sameP y (.lst l) | none => false) = true
  rw [show rd (.ref n k) m = some (.lst l) from h]
  exact sameP_refl (.lst l) (by unfold flat; exact hf)
theorem flats_map {α : Type} {f : α → P} : ∀ {l : List α}, (∀ a ∈ l, flat (f a) = true) → flats (l.map f) = true
  | [], _ => rfl
  | a :: l, h => by
    rw [List.map_cons]
    unfold flats
    rw [h a (List.mem_cons_self ..), flats_map fun b hb => h b (List.mem_cons_of_mem _ hb)]
    rfl
theorem flat_row {r : Rw} (h : ∀ s ∈ r.strs, sOk s) : flat r.p = true := by
  have k : ∀ w : Op4, PyData.strOk w.s = true := fun w => by cases w <;> decide +kernel
  cases r with
  | op w x y z =>
    simp only [Rw.p, flat, flats, k w, show PyData.strOk x = true from h x (by simp [Rw.strs]), show PyData.strOk y = true from h y (by simp [Rw.strs]), show PyData.strOk z = true from h z (by simp [Rw.strs])]
    rfl
  | num x n => simp only [Rw.p, flat, flats, show PyData.strOk x = true from h x (by simp [Rw.strs]), show PyData.strOk "num" = true by decide +kernel]; rfl
  | read x c => simp only [Rw.p, flat, flats, show PyData.strOk x = true from h x (by simp [Rw.strs]), show PyData.strOk c = true from h c (by simp [Rw.strs]), show PyData.strOk "read" = true by decide +kernel]; rfl
  | write x c => simp only [Rw.p, flat, flats, show PyData.strOk x = true from h x (by simp [Rw.strs]), show PyData.strOk c = true from h c (by simp [Rw.strs]), show PyData.strOk "write" = true by decide +kernel]; rfl
  | out x => simp only [Rw.p, flat, flats, show PyData.strOk x = true from h x (by simp [Rw.strs]), show PyData.strOk "out" = true by decide +kernel]; rfl
theorem sort2I (i j : Int) : sortP [.int i, .int j] = some (if i ≤ j then [.int i, .int j] else [.int j, .int i]) := by
  have e : sortP [.int i, .int j] = some (([i, j].mergeSort leI).map .int) := rfl
  have m : [i, j].mergeSort leI = if i ≤ j then [i, j] else [j, i] := by
    simp [List.mergeSort, List.MergeSort.Internal.splitInTwo, List.splitAt, List.splitAt.go, List.merge, leI]
  rw [e, m]
  split <;> rfl
/-- writes of a cell -/
def cntW (c : Str) (rows : List Rw) : Nat := (rows.filter fun o => o.isW && decide (o.cell = some c)).length
/-- the worth of a row behind some -/
def WS (nl : List (Str × P)) (ahead : List Rw) : Rw → P → Prop
  | .num _ n, w => w = .tup [.str "num", .int n]
  | .read _ c, w => w = .tup [.str "read", .str c, .int (cntW c ahead : Nat)]
  | .op o _ y z, w => ∃ i j a b : Int, nl.lookup y = some (.int i) ∧ nl.lookup z = some (.int j) ∧ w = .tup [.str o.s, .int a, .int b] ∧ ((o.even = false ∧ a = i ∧ b = j) ∨ (o.even = true ∧ a ≤ b ∧ ((a = i ∧ b = j) ∨ (a = j ∧ b = i))))
  | _, _ => True
theorem hd2_w (o : Rw) (c : Str) : eqP o.hd2 (.tup [.str "write", .str c]) = (o.isW && decide (o.cell = some c)) := by
  have two : ∀ a b : Str, eqP (.tup [.str a, .str b]) (.tup [.str "write", .str c]) = (a == "write" && (b == c && true)) := fun a b => by simp only [eqP, eqPs]
  cases o with
  | write x y =>
    show eqP (.tup [.str "write", .str x]) _ = _
    rw [two]
    by_cases h : x = c
    · subst h; simp [Rw.isW, Rw.cell]
    · simp [Rw.isW, Rw.cell, h]
  | op w x y z =>
    show eqP (.tup [.str w.s, .str x]) _ = _
    rw [two, show (w.s == ("write" : Str)) = false by cases w <;> decide]
    rfl
  | num x n =>
    show eqP (.tup [.str "num", .str x]) _ = _
    rw [two, show (("num" : Str) == ("write" : Str)) = false by decide]
    rfl
  | read x n =>
    show eqP (.tup [.str "read", .str x]) _ = _
    rw [two, show (("read" : Str) == ("write" : Str)) = false by decide]
    rfl
  | out x =>
    show eqP (.tup [.str "out", .str x]) _ = _
    rw [two, show (("out" : Str) == ("write" : Str)) = false by decide]
    rfl
namespace K02
variable {d : Nat} {m : Mem}
theorem c_worth {r : Rw} {rows : List Rw} {nl : List (Str × P)} {q a : Nat} (hr : ∀ s ∈ r.strs, sOk s) (ho : ∀ o ∈ rows, ∀ s ∈ o.strs, sOk s) (hl : rows.length ≤ 1000) (hq : cell m q 0 = some (.dic false (dcl nl))) (ha : cell m a 0 = some (.lst (rows.map Rw.p))) (hn : ∀ v ∈ r.ends, ∃ z : Int, nl.lookup v = some (.int z)) :
    ∃ w, prog.call (d + 1) i_law_worth [.p r.p, .ref q 0, .ref a 0] m = .ok (.p w) m ∧ flat w = true ∧ deep w = 1 ∧ WS nl rows r w := by
  have hlen : ∀ (ρ : Env), (ρ[2]?).bind id = some (.ref a 0) → evE (prog.call d) prog.mt (.prim .len (.cons (.var 2) .nil)) ρ m = .ok (.p (.int (rows.length : Nat))) m := fun ρ h => e_len (e_var h) (q := .lst (rows.map Rw.p)) ha (by show some (((rows.map Rw.p).length : Nat) : Int) = _; rw [List.length_map])
  cases r with
  | num x n => exact ⟨.tup [.str "num", .int n], call_q (q := f_law_worth) rfl rfl (by kernel_rfl), by kernel_rfl, by kernel_rfl, rfl⟩
  | write c y =>
    refine ⟨.tup [.str "write", .int (rows.length : Nat)], call_q (q := f_law_worth) rfl rfl ?_, by kernel_rfl, by kernel_rfl, trivial⟩
    exact ss_rt ((v_ift_t (m1 := m) (d := .p (.bl true)) (by kernel_rfl) rfl).trans (ss_rt (v_ret (e_tup (xs := [.str "write", .int (rows.length : Nat)]) (ps_cons (e_ix (e_var rfl) (e_lit _) rfl) (ps_cons (hlen _ rfl) ps_nil)) (by show 2 ≤ line; decide)))))
  | out y =>
    refine ⟨.tup [.str "out", .int (rows.length : Nat)], call_q (q := f_law_worth) rfl rfl ?_, by kernel_rfl, by kernel_rfl, trivial⟩
    exact ss_rt ((v_ift_t (m1 := m) (d := .p (.bl true)) (by kernel_rfl) rfl).trans (ss_rt (v_ret (e_tup (xs := [.str "out", .int (rows.length : Nat)]) (ps_cons (e_ix (e_var rfl) (e_lit _) rfl) (ps_cons (hlen _ rfl) ps_nil)) (by show 2 ≤ line; decide)))))
  | read x c =>
    have hc : sOk c := hr c (by simp [Rw.strs])
    let tw : P := .tup [.str "write", .str c]
    have ok2 : okD tw = true := okD_two (show PyData.strOk _ = true by decide +kernel) hc
    have e := e_compE (cf := prog.call d) (mt := prog.mt) (ρ := [some (.p (Rw.read x c).p), some (.ref q 0), some (.ref a 0), none, none]) (m := m) (m1 := m) (elt := .var 3) (tg := .nm 3) (it := .seq (.var 2)) (ifs := .cons (.cmp .eq (.slice (.var 3) .nob (.lit (.int 2))) (.tup (.cons (.lit (.str "write")) (.cons (.ix (.var 0) (.lit (.int 2))) .nil)))) .nil) (enc := Rw.p) (L := rows) (f := fun o => if eqP o.hd2 tw then [o.p] else []) (i_seq (d := .ref a 0) (e_var rfl) (q := .lst (rows.map Rw.p)) ha rfl) rfl (stays_loc ha (flats_map fun o hoo => flat_row (ho o hoo))) (fun o hoo => ?_) ?_
    · have hlen2 : ((rows.flatMap fun o => if eqP o.hd2 tw then [o.p] else []).length : Nat) ≤ 1000 := by
        rw [flatMap_if, List.length_map]
        exact Nat.le_trans (List.length_filter_le _ _) hl
      have hcnt : (rows.flatMap fun o => if eqP o.hd2 tw then [o.p] else []).length = cntW c rows := by
        rw [flatMap_if, List.length_map]
        unfold cntW
        congr 1
        exact List.filter_congr fun o _ => hd2_w o c
      generalize (rows.flatMap fun o => if eqP o.hd2 tw then [o.p] else []) = L at *
      refine ⟨.tup [.str "read", .str c, .int (L.length : Nat)], call_q (q := f_law_worth) rfl rfl ?_, ?_, rfl, by show P.tup _ = P.tup _; rw [hcnt]⟩
      · refine (ss_nx ((v_ift_f (m1 := m) (d := .p (.bl false)) (by kernel_rfl) rfl).trans ss_nil)).trans ?_
        refine (ss_nx ((v_ift_f (m1 := m) (d := .p (.bl false)) (by kernel_rfl) rfl).trans ss_nil)).trans ?_
        exact ss_rt ((v_ift_t (m1 := m) (d := .p (.bl true)) (by kernel_rfl) rfl).trans (ss_rt (v_ret (e_tup (xs := [.str "read", .str c, .int (L.length : Nat)]) (ps_cons (e_lit _) (ps_cons (e_ix (e_var rfl) (e_lit _) rfl) (ps_cons (e_len e rfl rfl) ps_nil))) (by show 3 ≤ line; decide)))))
      · simp only [flat, flats, deep, deeps, show PyData.strOk c = true from hc, show PyData.strOk "read" = true by decide +kernel]
        rfl
    · have hcmp : evIfs (prog.call d) prog.mt (.cons (.cmp .eq (.slice (.var 3) .nob (.lit (.int 2))) (.tup (.cons (.lit (.str "write")) (.cons (.ix (.var 0) (.lit (.int 2))) .nil)))) .nil) [some (.p (Rw.read x c).p), some (.ref q 0), some (.ref a 0), some (.p o.p), none] m = .ok (eqP o.hd2 tw) m := by
        refine if_one (d := .p (.bl (eqP o.hd2 tw))) (e_cmp (x := .p o.hd2) (y := .p tw) (e_slice (x := .p o.p) (e_var rfl) rfl rfl (slice_hd2 o m)) (e_tup (ps_cons (e_lit _) (ps_cons (e_ix (e_var rfl) (e_lit _) rfl) ps_nil)) (by show 2 ≤ line; decide)) ?_) rfl
        show (if okEq o.hd2 tw = true then some (eqP o.hd2 tw) else none) = _
        rw [if_pos (okEq_of (okD_hd2 (ho o hoo)) ok2)]
      cases ht : eqP o.hd2 tw with
      | true => rw [ht] at hcmp; exact st_yes rfl hcmp (e_var rfl)
      | false => rw [ht] at hcmp; exact st_no rfl hcmp
    · rw [flatMap_if, List.length_map]
      exact Nat.le_trans (List.length_filter_le _ _) (show rows.length ≤ line by unfold line; omega)
  | op w x y z =>
    obtain ⟨i, hi⟩ := hn y (by simp [Rw.ends])
    obtain ⟨j, hj⟩ := hn z (by simp [Rw.ends])
    have h2 : evE (prog.call d) prog.mt (.lst (.cons (.ix (.var 1) (.ix (.var 0) (.lit (.int 2)))) (.cons (.ix (.var 1) (.ix (.var 0) (.lit (.int 3)))) .nil))) [some (.p (Rw.op w x y z).p), some (.ref q 0), some (.ref a 0), none, none] m = .ok (.p (.lst [.int i, .int j])) m := e_lst (ps_cons (e_ix (y := .p (.str y)) (e_var rfl) (e_ix (e_var rfl) (e_lit _) rfl) (ixD_dic hq hi)) (ps_cons (e_ix (y := .p (.str z)) (e_var rfl) (e_ix (e_var rfl) (e_lit _) rfl) (ixD_dic hq hj)) ps_nil)) (by show 2 ≤ line; decide)
    have hw1 : (w.s == "write") = false ∧ (w.s == "out") = false ∧ (w.s == "num") = false ∧ (w.s == "read") = false := by cases w <;> exact ⟨by decide, by decide, by decide, by decide⟩
    have hife : ∃ i2 j2 : Int, evE (prog.call d) prog.mt (.ife (.cmp .eq (.ix (.var 0) (.lit (.int 0))) (.lit (.str "less"))) (.var 4) (.prim .sorted (.cons (.var 4) .nil))) [some (.p (Rw.op w x y z).p), some (.ref q 0), some (.ref a 0), none, some (.p (.lst [.int i, .int j]))] m = .ok (.p (.lst [.int i2, .int j2])) m ∧ ((w.even = false ∧ i2 = i ∧ j2 = j) ∨ (w.even = true ∧ i2 ≤ j2 ∧ ((i2 = i ∧ j2 = j) ∨ (i2 = j ∧ j2 = i)))) := by
      cases hb : (w.s == "less") with
      | true => exact ⟨i, j, (e_ife (d := .p (.bl (w.s == "less"))) (e_cmp (x := .p (.str w.s)) (e_ix (e_var rfl) (e_lit _) rfl) (e_lit _) rfl) rfl).trans ((if_pos hb).trans (e_var rfl)), .inl ⟨by cases w <;> first | rfl | exact absurd hb (by decide), rfl, rfl⟩⟩
      | false =>
        have hev : w.even = true := by cases w <;> first | rfl | exact absurd hb (by decide)
        have key : ∀ i' j' : Int, sortP [.int i, .int j] = some [.int i', .int j'] → evE (prog.call d) prog.mt (.ife (.cmp .eq (.ix (.var 0) (.lit (.int 0))) (.lit (.str "less"))) (.var 4) (.prim .sorted (.cons (.var 4) .nil))) [some (.p (Rw.op w x y z).p), some (.ref q 0), some (.ref a 0), none, some (.p (.lst [.int i, .int j]))] m = .ok (.p (.lst [.int i', .int j'])) m := fun i' j' hs => by
          refine (e_ife (d := .p (.bl (w.s == "less"))) (e_cmp (x := .p (.str w.s)) (e_ix (e_var rfl) (e_lit _) rfl) (e_lit _) rfl) rfl).trans ((if_neg (by rw [hb]; exact Bool.false_ne_true)).trans (e_prim (es_one (e_var rfl)) ?_))
          show pureO .sorted [.p (.lst [.int i, .int j])] m = _
          have : primP .sorted [.lst [.int i, .int j]] = some (.lst [.int i', .int j']) := by
            show (sortP [.int i, .int j]).map P.lst = _
            rw [hs]; rfl
          unfold pureO
          rw [show rds [.p (.lst [.int i, .int j])] m = some [.lst [.int i, .int j]] from rfl]
          dsimp only
          rw [this]; rfl
        by_cases hij : i ≤ j
        · exact ⟨i, j, key i j (by rw [sort2I, if_pos hij]), .inr ⟨hev, hij, .inl ⟨rfl, rfl⟩⟩⟩
        · exact ⟨j, i, key j i (by rw [sort2I, if_neg hij]), .inr ⟨hev, by omega, .inr ⟨rfl, rfl⟩⟩⟩
    obtain ⟨i2, j2, hife, hsrt⟩ := hife
    refine ⟨.tup [.str w.s, .int i2, .int j2], call_q (q := f_law_worth) rfl rfl ?_, by cases w <;> kernel_rfl, by cases w <;> kernel_rfl, i, j, i2, j2, hi, hj, rfl, hsrt⟩
    refine (ss_nx ((v_ift_f (m1 := m) (d := .p (.bl false)) (by cases w <;> kernel_rfl) rfl).trans ss_nil)).trans ?_
    refine (ss_nx ((v_ift_f (m1 := m) (d := .p (.bl false)) (by cases w <;> kernel_rfl) rfl).trans ss_nil)).trans ?_
    refine (ss_nx ((v_ift_f (m1 := m) (d := .p (.bl false)) (by cases w <;> kernel_rfl) rfl).trans ss_nil)).trans ?_
    refine (ss_nx (v_set h2)).trans ?_
    exact ss_rt (v_ret (e_bin (op := .add) (p := .tup [.str w.s]) (q := .tup [.int i2, .int j2]) (e_tup (ps_cons (e_ix (x := .p (Rw.op w x y z).p) (e_var rfl) (e_lit _) rfl) ps_nil) (by show 1 ≤ line; decide)) (e_prim (es_one hife) rfl) rfl rfl rfl))
end K02
end Lot
namespace Lot
open PySem
theorem Rw.strs_sub {r : Rw} {s : Str} (h : s ∈ r.strs) : r.mk = some s ∨ s ∈ r.ends ∨ r.cell = some s := by
  cases r <;> simp only [Rw.strs, Rw.ends, Rw.mk, Rw.cell, List.mem_cons, List.not_mem_nil, or_false] at h ⊢ <;> grind
/-- numbers of given names -/
def nums : Nat → List Str → List (Str × P)
  | _, [] => []
  | k, s :: l => (s, .int (0 - 1 - (k : Nat))) :: nums (k + 1) l
theorem nums_keys : ∀ (k : Nat) (l : List Str), (nums k l).map (·.1) = l
  | _, [] => rfl
  | k, s :: l => by rw [nums, List.map_cons, nums_keys]
theorem nums_vals : ∀ (k : Nat) (l : List Str), ∀ kv ∈ nums k l, ∃ z : Int, kv.2 = .int z
  | _, [], kv, h => by cases h
  | k, s :: l, kv, h => by
    rw [nums] at h
    rcases List.mem_cons.mp h with rfl | h
    · exact ⟨_, rfl⟩
    · exact nums_vals _ l kv h
theorem nums_le : ∀ (k : Nat) (l : List Str), ∀ kv ∈ nums k l, ∃ z : Int, kv.2 = .int z ∧ z ≤ 0 - 1 - (k : Nat)
  | _, [], kv, h => by cases h
  | k, s :: l, kv, h => by
    rw [nums] at h
    rcases List.mem_cons.mp h with rfl | h
    · exact ⟨_, rfl, Int.le_refl _⟩
    · obtain ⟨z, z1, z2⟩ := nums_le (k + 1) l kv h
      exact ⟨z, z1, by omega⟩
theorem nums_inj : ∀ (k : Nat) (l : List Str) (u v : Str) (z : Int), (nums k l).lookup u = some (.int z) → (nums k l).lookup v = some (.int z) → u = v
  | _, [], u, v, z, h, _ => by cases h
  | k, s :: l, u, v, z, hu, hv => by
    rw [nums, List.lookup_cons] at hu hv
    have lt : ∀ x, (nums (k + 1) l).lookup x = some (.int z) → z < 0 - 1 - (k : Nat) := fun x hx => by
      obtain ⟨z', z1, z2⟩ := nums_le (k + 1) l _ (lookup_mem hx)
      cases (show P.int z = P.int z' from z1)
      omega
    by_cases e1 : u = s <;> by_cases e2 : v = s
    · rw [e1, e2]
    · rw [show (u == s) = true by simpa using e1] at hu
      rw [show (v == s) = false by simpa using e2] at hv
      have := lt v hv
      cases Option.some.inj hu
      omega
    · rw [show (u == s) = false by simpa using e1] at hu
      rw [show (v == s) = true by simpa using e2] at hv
      have := lt u hu
      cases Option.some.inj hv
      omega
    · rw [show (u == s) = false by simpa using e1] at hu
      rw [show (v == s) = false by simpa using e2] at hv
      exact nums_inj (k + 1) l u v z hu hv
theorem nums_flatI : ∀ (k : Nat) (l : List Str), flatI (fun i (a : Str) => [P.tup [.str a, .int (0 - 1 - ((i : Nat) : Int))]]) k l = dcl (nums k l)
  | _, [] => rfl
  | k, s :: l => by
    unfold flatI
    rw [nums_flatI]
    rfl
section
variable {B objs : Mem} {L i : Nat} {l : List P}
theorem cell_locL {x : P} (hL : B.length = L) (h : objs[i]? = some (.val x)) : cell (B ++ objs) (L + i) 0 = some x := by subst hL; exact cell_loc h
theorem getM_locL (hL : B.length = L) : getM (B ++ objs) (L + i) = (objs[i]?).getD .dead := by subst hL; exact getM_loc
theorem set_locL {o : Obj} (hL : B.length = L) : (B ++ objs).set (L + i) o = B ++ objs.set i o := by subst hL; exact set_loc
theorem app_locL {y : P} (hL : B.length = L) (h : objs[i]? = some (.val (.lst l))) (hl : l.length < line) : bmD .append (.ref (L + i) 0) [.p y] (B ++ objs) = .ok (.p .non) (B ++ objs.set i (.val (.lst (l ++ [y])))) := by subst hL; exact app_loc h hl
theorem bmT_locL {w : Bm} (hL : B.length = L) (h : objs[i]? = some (.val (.lst l))) (hw : bmTy w = 0) : bmT w (.ref (L + i) 0) (B ++ objs) = true := by subst hL; exact bmT_loc h hw
theorem setix_dicL {k v : P} (hL : B.length = L) (h : objs[i]? = some (.val (.dic false l))) (hk : kOk false k = true) (hl : l.length < line) : setixO (.ref (L + i) 0) (.p k) (.p v) (B ++ objs) = .ok () (B ++ objs.set i (.val (.dic false (putK false l k v)))) := by subst hL; exact setix_dic h hk hl
end
namespace K02
variable {d : Nat} {M : Mem} {n B : Nat}
abbrev rO (rows : List Rw) (ws : List P) (kn : List Str) (nl : List (Str × P)) : Mem := [.val (.lst (rows.map Rw.p)), .val (.lst ws), .val (.lst (kn.map P.str)), .val (.dic false (dcl nl))]
abbrev rE (n L bound : Nat) (gn fr st : List Str) (a b c e : Option D) : Env := [some (.ref n 0), some (.p (.lst (gn.map P.str))), some (.p (.lst (fr.map P.str))), some (.p (.lst (st.map P.str))), some (.p (.int (bound : Nat))), some (.ref (L + 0) 0), some (.ref (L + 1) 0), some (.ref (L + 2) 0), some (.ref (L + 3) 0), a, b, c, e]
structure RI (gn fr st : List Str) (i : Nat) (rows : List Rw) (ws : List P) (nl : List (Str × P)) : Prop where
  use : ∀ (k : Nat) (r : Rw), rows[k]? = some r → ∀ v ∈ r.ends, v ∈ gn ∨ ∃ (j : Nat) (o : Rw), j < k ∧ rows[j]? = some o ∧ Rw.mk o = some v
  sub : (rows.filterMap Rw.mk).Sublist (fr.take i)
  ok : ∀ r ∈ rows, ∀ s ∈ r.strs, sOk s
  len : rows.length ≤ i
  wl : ws.length ≤ i
  wf : ∀ w ∈ ws, flat w = true ∧ deep w = 1
  keys : nl.map (·.1) = gn ++ rows.filterMap Rw.mk
  vals : ∀ kv ∈ nl, ∃ z : Int, kv.2 = .int z ∧ z ≤ rows.length
  wsl : ws.length = rows.length
  wsv : ∀ (k : Nat) (r : Rw) (w : P), rows[k]? = some r → ws[k]? = some w → WS nl (rows.take k) r w
  inj : ∀ (u v : Str) (z : Int), nl.lookup u = some (.int z) → nl.lookup v = some (.int z) → u = v
  dist : Dist rows
  src : ∀ r ∈ rows, ∀ s ∈ r.strs, s ∈ gn ++ fr ++ st
  nums : ∀ r ∈ rows, ∀ x n, r = .num x n → 0 ≤ n ∧ n < 1073741824
theorem cntW_app (c : Str) (A B : List Rw) : cntW c (A ++ B) = cntW c A + cntW c B := by
  unfold cntW
  rw [List.filter_append, List.length_append]
theorem ws_mono {nl : List (Str × P)} {x : Str} {v : P} {ahead : List Rw} {r : Rw} {w : P} (h : WS nl ahead r w) : WS (nl ++ [(x, v)]) ahead r w := by
  cases r with
  | op o a y z =>
    obtain ⟨i, j, p, q, h1, h2, h3⟩ := h
    exact ⟨i, j, p, q, by rw [lookup_app, h1], by rw [lookup_app, h2], h3⟩
  | _ => exact h
/-- twins have one worth -/
theorem twin_ws {nl : List (Str × P)} {rows : List Rw} {i : Nat} {r o : Rw} {w v : P} (hr : rows[i]? = some r) (t : Twin (rows ++ [o]) i rows.length r o) (h1 : WS nl (rows.take i) r w) (h2 : WS nl rows o v) : w = v := by
  cases r with
  | num x n => cases o with
    | num y m => rw [h1, h2, show n = m from t]
    | _ => exact t.elim
  | op p x y z => cases o with
    | op q x' y' z' =>
      obtain ⟨hpq, t⟩ := t
      subst hpq
      obtain ⟨a, b, c, d, a1, a2, rfl, a3⟩ := h1
      obtain ⟨a', b', c', d', b1, b2, rfl, b3⟩ := h2
      have hcd : c = c' ∧ d = d' := by
        rcases t with ⟨rfl, rfl⟩ | ⟨ev, rfl, rfl⟩
        · rw [a1] at b1
          rw [a2] at b2
          cases b1; cases b2
          rcases a3 with ⟨e1, e2, e3⟩ | ⟨e1, e2, e3⟩ <;> rcases b3 with ⟨f1, f2, f3⟩ | ⟨f1, f2, f3⟩
          · omega
          · rw [e1] at f1; cases f1
          · rw [e1] at f1; cases f1
          · omega
        · rw [a1] at b2
          rw [a2] at b1
          cases b1; cases b2
          rcases a3 with ⟨e1, e2, e3⟩ | ⟨e1, e2, e3⟩ <;> rcases b3 with ⟨f1, f2, f3⟩ | ⟨f1, f2, f3⟩
          · rw [e1] at ev; cases ev
          · rw [e1] at f1; cases f1
          · rw [e1] at f1; cases f1
          · omega
      rw [hcd.1, hcd.2]
    | _ => exact t.elim
  | read x c => cases o with
    | read y c' =>
      obtain ⟨hc, t⟩ := t
      subst hc
      have e : cntW c rows = cntW c (rows.take i) := by
        have := cntW_app c (rows.take i) (rows.drop i)
        rw [List.take_append_drop] at this
        rw [this]
        have z : cntW c (rows.drop i) = 0 := by
          unfold cntW
          rw [List.length_eq_zero_iff, List.filter_eq_nil_iff]
          intro q hq
          obtain ⟨k, hk⟩ := List.getElem?_of_mem hq
          rw [List.getElem?_drop] at hk
          cases k with
          | zero =>
            rw [Nat.add_zero, hr] at hk
            cases hk
            simp [Rw.isW]
          | succ k =>
            have hkl := (List.getElem?_eq_some_iff.mp hk).1
            have := t (i + (k + 1)) q (by omega) hkl (by rw [List.getElem?_append_left hkl]; exact hk)
            simp only [Bool.and_eq_true, decide_eq_true_eq]
            exact this
        omega
      have h1 : w = _ := h1
      have h2 : v = _ := h2
      rw [h1, h2, e]
    | _ => exact t.elim
  | write c y => exact (t : False).elim
  | out y => exact (t : False).elim
/-- a row of another worth behind -/
theorem dist_app {nl : List (Str × P)} {rows : List Rw} {ws : List P} {o : Rw} {v : P} (D : Dist rows) (hl : ws.length = rows.length) (hw : ∀ (k : Nat) (r : Rw) (w : P), rows[k]? = some r → ws[k]? = some w → WS nl (rows.take k) r w) (hf : ∀ w ∈ ws, flat w = true) (h2 : WS nl rows o v) (hn : (ws.any fun z => eqP z v) = false) : Dist (rows ++ [o]) := fun i j r q hij hi hj t => by
  by_cases hlt : j < rows.length
  · rw [List.getElem?_append_left (by omega)] at hi
    rw [List.getElem?_append_left hlt] at hj
    refine D i j r q hij hi hj ?_
    cases r with
    | read x c => cases q with
      | read y c' => exact ⟨t.1, fun k p h1 h2 h3 => t.2 k p h1 h2 (by rw [List.getElem?_append_left (by omega)]; exact h3)⟩
      | _ => exact t.elim
    | num x n => cases q <;> exact t
    | op p x y z => cases q <;> exact t
    | write c y => exact (t : False).elim
    | out y => exact (t : False).elim
  · have hj' : j = rows.length := by
      have := (List.getElem?_eq_some_iff.mp hj).1
      rw [List.length_append, List.length_singleton] at this
      omega
    subst hj'
    rw [List.getElem?_append_right (Nat.le_refl _), Nat.sub_self] at hj
    cases hj
    rw [List.getElem?_append_left hij] at hi
    obtain ⟨w, hw'⟩ : ∃ w, ws[i]? = some w := ⟨_, List.getElem?_eq_getElem (by omega)⟩
    have e := twin_ws hi t (hw i r w hi hw') h2
    have hm := List.mem_of_getElem? hw'
    rw [List.any_eq_false] at hn
    exact hn w hm (by rw [← e]; exact eqP_refl w (hf w hm))
theorem deeps_one : ∀ {l : List P}, (∀ w ∈ l, deep w = 1) → deeps l ≤ 1
  | [], _ => Nat.zero_le _
  | w :: l, h => by
    unfold deeps
    rw [h w (List.mem_cons_self ..)]
    have := deeps_one fun v hv => h v (List.mem_cons_of_mem _ hv)
    omega
theorem flats_mem : ∀ {l : List P}, (∀ w ∈ l, flat w = true) → flats l = true
  | [], _ => rfl
  | w :: l, h => by
    unfold flats
    rw [h w (List.mem_cons_self ..), flats_mem fun v hv => h v (List.mem_cons_of_mem _ hv)]
    rfl
/-- a round of the rows -/
theorem round_s {bound i : Nat} {gn fr st : List Str} {rows : List Rw} {ws : List P} {nl : List (Str × P)} {b c e : Option D} (p : Pen M n B) (hB : B + 20 < 1073741824) (nd : (gn ++ fr).Nodup) (hg : gn.length ≤ 6) (okg : ∀ v ∈ gn, sOk v) (okf : ∀ v ∈ fr, sOk v) (oks : ∀ v ∈ st, sOk v) (hst : 0 < st.length ∧ st.length ≤ 1000) (hi : i < fr.length) (hf : fr.length ≤ 14) (I : RI gn fr st i rows ws nl) :
    ∃ rows' ws' nl' M' b' c' e', evSs (prog.call (d + 4)) prog.mt (.cons (.set 11 (.call 19 (.cons (.var 0) (.cons (.ix (.var 2) (.var 9)) (.cons (.var 7) (.cons (.var 3) .nil)))))) (.cons (.set 12 (.call 22 (.cons (.var 11) (.cons (.var 8) (.cons (.var 5) .nil))))) (.cons (.ift (.cmp .notin (.var 12) (.var 6)) (.cons (.expr (.bmeth .append (.var 5) (.cons (.var 11) .nil))) (.cons (.expr (.bmeth .append (.var 6) (.cons (.var 12) .nil))) (.cons (.ift (.cmp .isnot (.call 20 (.cons (.var 11) .nil)) (.lit .non)) (.cons (.expr (.bmeth .append (.var 7) (.cons (.ix (.var 11) (.lit (.int 1))) .nil))) (.cons (.setix (.var 8) (.ix (.var 11) (.lit (.int 1))) (.prim .len (.cons (.var 5) .nil))) .nil)) .nil) .nil))) .nil) .nil))) (rE n M.length bound gn fr st (some (.p (.int (i : Nat)))) b c e) (M ++ rO rows ws (gn ++ rows.filterMap Rw.mk) nl) = .ok (.nx (rE n M.length bound gn fr st (some (.p (.int (i : Nat)))) b' c' e')) (M' ++ rO rows' ws' (gn ++ rows'.filterMap Rw.mk) nl') ∧ RI gn fr st (i + 1) rows' ws' nl' ∧ Mv n M M' ∧ Pen M' n (B + 5) := by
  generalize hkn : gn ++ rows.filterMap Rw.mk = kn
  have hln := p.lt
  obtain ⟨x, hx⟩ : ∃ x, fr[i]? = some x := ⟨fr[i], List.getElem?_eq_getElem hi⟩
  have hxm : x ∈ fr := List.mem_of_getElem? hx
  have hsub : (gn ++ rows.filterMap Rw.mk).Sublist (gn ++ fr) := (List.Sublist.refl gn).append (I.sub.trans (List.take_sublist ..))
  have okn : ∀ v ∈ kn, sOk v := fun v hv => by
    rw [← hkn] at hv
    rcases List.mem_append.mp hv with h | h
    · exact okg v h
    · exact okf v (List.mem_of_mem_take (I.sub.subset h))
  have hkl : kn.length ≤ 20 := by
    have := hsub.length_le
    rw [hkn, List.length_append] at this
    omega
  obtain ⟨r, M1, a1, a2, a3, a4, a4', a5, a6⟩ := row_s (d := d) (M := M ++ rO rows ws kn nl) (x := x) (kn := kn) (st := st) (dk := .ref (M.length + 2) 0) p.app hB (fun M' h => by
    show cell M' (M.length + 2) 0 = _
    rw [h.cell (by omega)]
    exact cell_locL rfl rfl) okn (by omega) hst
  obtain ⟨M2, rfl, b1, b2⟩ := Mv.un hln a5 a6
  have hL : M2.length = M.length := b1.len
  have rok : ∀ s ∈ r.strs, sOk s := fun s hs => by
    rcases Rw.strs_sub hs with h | h | h
    · rcases a2 with h' | h' <;> rw [h'] at h <;> cases h
      exact okf _ hxm
    · exact okn s (a3 s h)
    · exact oks s (a4 s h)
  obtain ⟨w, w1, w2, w3, w4⟩ := c_worth (d := d + 3) (m := M2 ++ rO rows ws kn nl) (r := r) (rows := rows) (nl := nl) (q := M.length + 3) (a := M.length + 0) rok I.ok (by have := I.len; omega) (cell_locL hL rfl) (cell_locL hL rfl) (fun v hv => by
    obtain ⟨z, hz⟩ := lookup_some (l := nl) (x := v) (by rw [I.keys, hkn]; exact a3 v hv)
    obtain ⟨k, hk, _⟩ := I.vals _ (lookup_mem hz)
    exact ⟨k, by rw [hz]; exact congrArg some hk⟩)
  have z : ∀ R, evSs (prog.call (d + 4)) prog.mt (.cons (.ift (.cmp .notin (.var 12) (.var 6)) (.cons (.expr (.bmeth .append (.var 5) (.cons (.var 11) .nil))) (.cons (.expr (.bmeth .append (.var 6) (.cons (.var 12) .nil))) (.cons (.ift (.cmp .isnot (.call 20 (.cons (.var 11) .nil)) (.lit .non)) (.cons (.expr (.bmeth .append (.var 7) (.cons (.ix (.var 11) (.lit (.int 1))) .nil))) (.cons (.setix (.var 8) (.ix (.var 11) (.lit (.int 1))) (.prim .len (.cons (.var 5) .nil))) .nil)) .nil) .nil))) .nil) .nil) (rE n M.length bound gn fr st (some (.p (.int (i : Nat)))) b (some (.p r.p)) (some (.p w))) (M2 ++ rO rows ws kn nl) = R → evSs (prog.call (d + 4)) prog.mt (.cons (.set 11 (.call 19 (.cons (.var 0) (.cons (.ix (.var 2) (.var 9)) (.cons (.var 7) (.cons (.var 3) .nil)))))) (.cons (.set 12 (.call 22 (.cons (.var 11) (.cons (.var 8) (.cons (.var 5) .nil))))) (.cons (.ift (.cmp .notin (.var 12) (.var 6)) (.cons (.expr (.bmeth .append (.var 5) (.cons (.var 11) .nil))) (.cons (.expr (.bmeth .append (.var 6) (.cons (.var 12) .nil))) (.cons (.ift (.cmp .isnot (.call 20 (.cons (.var 11) .nil)) (.lit .non)) (.cons (.expr (.bmeth .append (.var 7) (.cons (.ix (.var 11) (.lit (.int 1))) .nil))) (.cons (.setix (.var 8) (.ix (.var 11) (.lit (.int 1))) (.prim .len (.cons (.var 5) .nil))) .nil)) .nil) .nil))) .nil) .nil))) (rE n M.length bound gn fr st (some (.p (.int (i : Nat)))) b c e) (M ++ rO rows ws kn nl) = R := fun R hR => by
    refine (ss_nx (v_set (e_call (es_cons (e_var rfl) (es_cons (e_ix (x := .p (.lst (fr.map P.str))) (y := .p (.int (i : Nat))) (e_var rfl) (e_var rfl) (ixD_lst (x := .str x) (by rw [List.getElem?_map, hx]; rfl))) (es_two (e_var rfl) (e_var rfl)))) a1))).trans ?_
    exact (ss_nx (v_set (e_call (es_cons (e_var rfl) (es_two (e_var rfl) (e_var rfl))) w1))).trans hR
  have hcmp : evE (prog.call (d + 4)) prog.mt (.cmp .notin (.var 12) (.var 6)) (rE n M.length bound gn fr st (some (.p (.int (i : Nat)))) b (some (.p r.p)) (some (.p w))) (M2 ++ rO rows ws kn nl) = .ok (.p (.bl (!(ws.any fun z => eqP z w)))) (M2 ++ rO rows ws kn nl) := by
    refine e_cmp (x := .p w) (y := .ref (M.length + 1) 0) (e_var rfl) (e_var rfl) ?_
    unfold cmpD
    rw [show rg (.ref (M.length + 1) 0) (M2 ++ rO rows ws kn nl) = some (.lst ws) from cell_locL hL rfl]
    show (inP w (.lst ws)).map not = _
    have o1 : okD w = true := by unfold okD; rw [w2, w3]; rfl
    have o2 : okD (.lst ws) = true := by
      unfold okD
      have e1 : flat (.lst ws) = true := by unfold flat; exact flats_mem fun w hw => (I.wf w hw).1
      have e2 : deep (.lst ws) ≤ 64 := by unfold deep; have := deeps_one fun w hw => (I.wf w hw).2; omega
      rw [e1, decide_eq_true e2]; rfl
    unfold inP
    dsimp only
    rw [if_pos (by rw [o1, o2]; simp)]
    rfl
  cases hany : ws.any fun z => eqP z w with
  | true =>
    rw [hany] at hcmp
    refine ⟨rows, ws, nl, M2, b, some (.p r.p), some (.p w), ?_, ⟨I.use, I.sub.trans (List.take_sublist_take_left (by omega)), I.ok, by have := I.len; omega, by have := I.wl; omega, I.wf, I.keys, I.vals, I.wsl, I.wsv, I.inj, I.dist, I.src, I.nums⟩, b1, b2⟩
    rw [hkn]
    exact z _ ((ss_nx ((v_ift_f hcmp rfl).trans ss_nil)).trans ss_nil)
  | false =>
    rw [hany] at hcmp
    have hiL := I.len
    have hiW := I.wl
    have use' : ∀ (k : Nat) (o : Rw), (rows ++ [r])[k]? = some o → ∀ v ∈ o.ends, v ∈ gn ∨ ∃ (j : Nat) (o' : Rw), j < k ∧ (rows ++ [r])[j]? = some o' ∧ Rw.mk o' = some v := fun k o hk v hv => by
      by_cases hlt : k < rows.length
      · rw [List.getElem?_append_left hlt] at hk
        refine (I.use k o hk v hv).imp id ?_
        rintro ⟨j, o', h1, h2, h3⟩
        exact ⟨j, o', h1, by rw [List.getElem?_append_left (by omega)]; exact h2, h3⟩
      · have hk' : k = rows.length := by
          have := (List.getElem?_eq_some_iff.mp hk).1
          rw [List.length_append, List.length_singleton] at this
          omega
        subst hk'
        rw [List.getElem?_append_right (Nat.le_refl _), Nat.sub_self] at hk
        cases hk
        have := a3 v hv
        rw [← hkn] at this
        refine (List.mem_append.mp this).imp id fun h => ?_
        obtain ⟨o', h1, h2⟩ := List.mem_filterMap.mp h
        obtain ⟨j, h3⟩ := List.getElem?_of_mem h1
        have := (List.getElem?_eq_some_iff.mp h3).1
        exact ⟨j, o', this, by rw [List.getElem?_append_left this]; exact h3, h2⟩
    have ok' : ∀ o ∈ rows ++ [r], ∀ s ∈ o.strs, sOk s := fun o h => by
      rcases List.mem_append.mp h with h | h
      · exact I.ok o h
      · rw [List.mem_singleton] at h; subst h; exact rok
    have wf' : ∀ v ∈ ws ++ [w], flat v = true ∧ deep v = 1 := fun v h => by
      rcases List.mem_append.mp h with h | h
      · exact I.wf v h
      · rw [List.mem_singleton] at h; subst h; exact ⟨w2, w3⟩
    have src' : ∀ q ∈ rows ++ [r], ∀ s ∈ q.strs, s ∈ gn ++ fr ++ st := fun q hq s hs => by
      rcases List.mem_append.mp hq with hq | hq
      · exact I.src q hq s hs
      · rw [List.mem_singleton] at hq
        subst hq
        rcases Rw.strs_sub hs with h | h | h
        · rcases a2 with h' | h' <;> rw [h'] at h <;> cases h
          exact List.mem_append.mpr (.inl (List.mem_append.mpr (.inr hxm)))
        · have := a3 s h
          rw [← hkn] at this
          rcases List.mem_append.mp this with h | h
          · exact List.mem_append.mpr (.inl (List.mem_append.mpr (.inl h)))
          · exact List.mem_append.mpr (.inl (List.mem_append.mpr (.inr (List.mem_of_mem_take (I.sub.subset h)))))
        · exact List.mem_append.mpr (.inr (a4 s h))
    have nums' : ∀ q ∈ rows ++ [r], ∀ x n, q = .num x n → 0 ≤ n ∧ n < 1073741824 := fun q hq => by
      rcases List.mem_append.mp hq with hq | hq
      · exact I.nums q hq
      · rw [List.mem_singleton] at hq
        subst hq
        exact a4'
    have dist' : Dist (rows ++ [r]) := dist_app I.dist I.wsl I.wsv (fun w hw => (I.wf w hw).1) w4 hany
    have wsl' : (ws ++ [w]).length = (rows ++ [r]).length := by rw [List.length_append, List.length_append, I.wsl]; rfl
    have wsv' : ∀ (k : Nat) (q : Rw) (v : P), (rows ++ [r])[k]? = some q → (ws ++ [w])[k]? = some v → WS nl ((rows ++ [r]).take k) q v := fun k q v hk hv => by
      by_cases hlt : k < rows.length
      · rw [List.getElem?_append_left hlt] at hk
        rw [List.getElem?_append_left (by rw [I.wsl]; exact hlt)] at hv
        rw [List.take_append_of_le_length (by omega)]
        exact I.wsv k q v hk hv
      · have hk' : k = rows.length := by
          have := (List.getElem?_eq_some_iff.mp hk).1
          rw [List.length_append, List.length_singleton] at this
          omega
        subst hk'
        rw [List.getElem?_append_right (Nat.le_refl _), Nat.sub_self] at hk
        rw [List.getElem?_append_right (by rw [I.wsl]; exact Nat.le_refl _), I.wsl, Nat.sub_self] at hv
        cases hk
        cases hv
        rw [List.take_append_of_le_length (Nat.le_refl _), List.take_length]
        exact w4
    have htk : fr.take (i + 1) = fr.take i ++ [x] := by
      rw [List.take_succ, hx]; rfl
    have s1 : evS (prog.call (d + 4)) prog.mt (.expr (.bmeth .append (.var 5) (.cons (.var 11) .nil))) (rE n M.length bound gn fr st (some (.p (.int (i : Nat)))) b (some (.p r.p)) (some (.p w))) (M2 ++ rO rows ws kn nl) = .ok (.nx (rE n M.length bound gn fr st (some (.p (.int (i : Nat)))) b (some (.p r.p)) (some (.p w)))) (M2 ++ rO (rows ++ [r]) ws kn nl) := by
      refine v_expr (d := .p .non) (e_bm (e_var rfl) (bmT_locL (i := 0) (l := rows.map Rw.p) hL rfl rfl) (es_one (e_var rfl)) ?_)
      rw [app_locL (i := 0) (l := rows.map Rw.p) hL rfl (by rw [List.length_map]; unfold line; omega)]
      show _ = Out.ok _ (M2 ++ rO (rows ++ [r]) ws kn nl)
      unfold rO
      rw [List.map_append]
      rfl
    have s2 : evS (prog.call (d + 4)) prog.mt (.expr (.bmeth .append (.var 6) (.cons (.var 12) .nil))) (rE n M.length bound gn fr st (some (.p (.int (i : Nat)))) b (some (.p r.p)) (some (.p w))) (M2 ++ rO (rows ++ [r]) ws kn nl) = .ok (.nx (rE n M.length bound gn fr st (some (.p (.int (i : Nat)))) b (some (.p r.p)) (some (.p w)))) (M2 ++ rO (rows ++ [r]) (ws ++ [w]) kn nl) := by
      refine v_expr (d := .p .non) (e_bm (e_var rfl) (bmT_locL (i := 1) (l := ws) hL rfl rfl) (es_one (e_var rfl)) ?_)
      rw [app_locL (i := 1) (l := ws) hL rfl (by unfold line; omega)]
      rfl
    have hm : evE (prog.call (d + 4)) prog.mt (.cmp .isnot (.call 20 (.cons (.var 11) .nil)) (.lit .non)) (rE n M.length bound gn fr st (some (.p (.int (i : Nat)))) b (some (.p r.p)) (some (.p w))) (M2 ++ rO (rows ++ [r]) (ws ++ [w]) kn nl) = .ok (.p (.bl r.mk.isSome)) (M2 ++ rO (rows ++ [r]) (ws ++ [w]) kn nl) := by
      refine e_cmp (x := .p (optP r.mk)) (y := .p .non) (e_call (es_one (e_var rfl)) (c_makes (d := d + 3) r)) (e_lit _) ?_
      cases r.mk <;> rfl
    rcases a2 with hmk | hmk
    · rw [hmk] at hm
      have hix : ∀ m', ixD (.p r.p) (.p (.int 1)) m' = some (.str x) := fun m' => by
        cases r with
        | op w x y z => cases hmk; cases w <;> rfl
        | num x n => cases hmk; rfl
        | read x n => cases hmk; rfl
        | write x n => cases hmk
        | out x => cases hmk
      have hmk' : (rows ++ [r]).filterMap Rw.mk = rows.filterMap Rw.mk ++ [x] := by rw [List.filterMap_append]; simp [hmk]
      have hkn' : gn ++ (rows ++ [r]).filterMap Rw.mk = kn ++ [x] := by rw [hmk', ← List.append_assoc, hkn]
      have hnew : x ∉ kn := by
        have h1 : (gn ++ (rows.filterMap Rw.mk ++ [x])).Sublist (gn ++ fr) := (List.Sublist.refl gn).append ((I.sub.append (List.Sublist.refl [x])).trans (by rw [← htk]; exact List.take_sublist ..))
        have h2 := h1.nodup nd
        rw [← List.append_assoc, hkn, List.nodup_append] at h2
        exact fun h => h2.2.2 x h x (by simp) rfl
      have hput : putS nl x (.int ((rows ++ [r]).length : Nat)) = nl ++ [(x, .int ((rows ++ [r]).length : Nat))] := putS_new (lookup_none (by rw [I.keys, hkn]; exact hnew))
      have hnl : nl.length = kn.length := by rw [← List.length_map (f := (·.1)), I.keys, hkn]
      refine ⟨rows ++ [r], ws ++ [w], nl ++ [(x, .int ((rows ++ [r]).length : Nat))], M2, b, some (.p r.p), some (.p w), ?_, ⟨use', ?_, ok', by rw [List.length_append, List.length_singleton]; omega, by rw [List.length_append, List.length_singleton]; omega, wf', ?_, ?_, wsl', fun k q v hk hv => ws_mono (wsv' k q v hk hv), ?_, dist', src', nums'⟩, b1, b2⟩
      · rw [hkn']
        refine z _ ((ss_nx ((v_ift_t hcmp rfl).trans ((ss_nx s1).trans ((ss_nx s2).trans ((ss_nx ((v_ift_t hm rfl).trans ?_)).trans ss_nil))))).trans ss_nil)
        have s3 : evS (prog.call (d + 4)) prog.mt (.expr (.bmeth .append (.var 7) (.cons (.ix (.var 11) (.lit (.int 1))) .nil))) (rE n M.length bound gn fr st (some (.p (.int (i : Nat)))) b (some (.p r.p)) (some (.p w))) (M2 ++ rO (rows ++ [r]) (ws ++ [w]) kn nl) = .ok (.nx (rE n M.length bound gn fr st (some (.p (.int (i : Nat)))) b (some (.p r.p)) (some (.p w)))) (M2 ++ rO (rows ++ [r]) (ws ++ [w]) (kn ++ [x]) nl) := by
          refine v_expr (d := .p .non) (e_bm (e_var rfl) (bmT_locL (i := 2) (l := kn.map P.str) hL rfl rfl) (es_one (e_ix (x := .p r.p) (e_var rfl) (e_lit _) (hix _))) ?_)
          rw [app_locL (i := 2) (l := kn.map P.str) hL rfl (by rw [List.length_map]; unfold line; omega)]
          unfold rO
          rw [show (kn ++ [x]).map P.str = kn.map P.str ++ [P.str x] from by simp]
          rfl
        refine (ss_nx s3).trans ((ss_nx ?_).trans ss_nil)
        have hs := setix_dicL (B := M2) (objs := rO (rows ++ [r]) (ws ++ [w]) (kn ++ [x]) nl) (i := 3) (l := dcl nl) (k := .str x) (v := .int ((rows ++ [r]).length : Nat)) hL rfl rfl (by rw [dcl_len]; unfold line; omega)
        rw [put_dcl, hput] at hs
        exact v_setix (e_len (x := .ref (M.length + 0) 0) (q := .lst ((rows ++ [r]).map Rw.p)) (e_var rfl) (cell_locL hL rfl) (by show some ((((rows ++ [r]).map Rw.p).length : Nat) : Int) = _; rw [List.length_map])) (e_var rfl) (e_ix (x := .p r.p) (e_var rfl) (e_lit _) (hix _)) hs
      · rw [hmk', htk]
        exact I.sub.append (List.Sublist.refl _)
      · rw [List.map_append, I.keys, hmk', List.append_assoc]; rfl
      · intro kv h
        rcases List.mem_append.mp h with h | h
        · obtain ⟨z, z1, z2⟩ := I.vals kv h
          exact ⟨z, z1, by rw [List.length_append, List.length_singleton]; omega⟩
        · rw [List.mem_singleton] at h; subst h; exact ⟨_, rfl, Int.le_refl _⟩
      · intro u v z hu hv
        have look : ∀ s, (nl ++ [(x, P.int ((rows ++ [r]).length : Nat))]).lookup s = some (.int z) → nl.lookup s = some (.int z) ∨ (s = x ∧ z = ((rows ++ [r]).length : Nat)) := fun s hs => by
          rw [lookup_app] at hs
          cases hl : nl.lookup s with
          | some q => rw [hl] at hs; exact .inl hs
          | none =>
            rw [hl] at hs
            have hs : [(x, P.int ((rows ++ [r]).length : Nat))].lookup s = some (.int z) := hs
            rw [List.lookup_cons] at hs
            by_cases e : s = x
            · rw [show (s == x) = true by simpa using e] at hs
              have := Option.some.inj hs
              cases this
              exact .inr ⟨e, rfl⟩
            · rw [show (s == x) = false by simpa using e] at hs
              cases hs
        have lt : ∀ s, nl.lookup s = some (.int z) → z ≤ rows.length := fun s hs => by
          obtain ⟨z', z1, z2⟩ := I.vals _ (lookup_mem hs)
          cases (show P.int z = P.int z' from z1)
          exact z2
        rcases look u hu with h1 | ⟨h1, h1'⟩ <;> rcases look v hv with h2 | ⟨h2, h2'⟩
        · exact I.inj u v z h1 h2
        · have := lt u h1
          rw [h2', List.length_append, List.length_singleton] at this
          omega
        · have := lt v h2
          rw [h1', List.length_append, List.length_singleton] at this
          omega
        · rw [h1, h2]
    · rw [hmk] at hm
      have hmk' : (rows ++ [r]).filterMap Rw.mk = rows.filterMap Rw.mk := by rw [List.filterMap_append]; simp [hmk]
      refine ⟨rows ++ [r], ws ++ [w], nl, M2, b, some (.p r.p), some (.p w), ?_, ⟨use', ?_, ok', by rw [List.length_append, List.length_singleton]; omega, by rw [List.length_append, List.length_singleton]; omega, wf', ?_, fun kv h => (by obtain ⟨z, z1, z2⟩ := I.vals kv h; exact ⟨z, z1, by rw [List.length_append, List.length_singleton]; omega⟩), wsl', wsv', I.inj, dist', src', nums'⟩, b1, b2⟩
      · rw [hmk', hkn]
        exact z _ ((ss_nx ((v_ift_t hcmp rfl).trans ((ss_nx s1).trans ((ss_nx s2).trans ((ss_nx ((v_ift_f hm rfl).trans ss_nil)).trans ss_nil))))).trans ss_nil)
      · rw [hmk']; exact I.sub.trans (List.take_sublist_take_left (by omega))
      · rw [hmk', I.keys]
end K02
end Lot
namespace Lot
open PySem
namespace K02
variable {d : Nat} {M : Mem} {n B : Nat}
theorem rows_s {bound : Nat} {gn fr st : List Str} (p : Pen M n B) (hB : B + 200 < 1073741824) (nd : (gn ++ fr).Nodup) (hg : gn.length ≤ 6) (okg : ∀ v ∈ gn, sOk v) (okf : ∀ v ∈ fr, sOk v) (oks : ∀ v ∈ st, sOk v) (hst : 0 < st.length ∧ st.length ≤ 1000) (hb : bound = fr.length) (hf : fr.length ≤ 14) :
    ∃ rows M', prog.call (d + 5) i_law_rows [.ref n 0, .p (.lst (gn.map P.str)), .p (.lst (fr.map P.str)), .p (.lst (st.map P.str)), .p (.int (bound : Nat))] M = .ok (.p (.tup [rowsP rows, .lst ((gn ++ rows.filterMap Rw.mk).map P.str)])) M' ∧ WfB gn rows ∧ Dist rows ∧ (∀ r ∈ rows, ∀ s ∈ r.strs, s ∈ gn ++ fr ++ st) ∧ (∀ r ∈ rows, ∀ x n, r = .num x n → 0 ≤ n ∧ n < 1073741824) ∧ rows.length ≤ bound ∧ Mv n M M' ∧ Pen M' n (B + 100) := by
  have hln := p.lt
  let ρ0 : Env := [some (.ref n 0), some (.p (.lst (gn.map P.str))), some (.p (.lst (fr.map P.str))), some (.p (.lst (st.map P.str))), some (.p (.int (bound : Nat))), none, none, none, none, none, none, none, none]
  let ρ1 : Env := [some (.ref n 0), some (.p (.lst (gn.map P.str))), some (.p (.lst (fr.map P.str))), some (.p (.lst (st.map P.str))), some (.p (.int (bound : Nat))), some (.ref (M.length + 0) 0), some (.ref (M.length + 1) 0), some (.ref (M.length + 2) 0), none, none, none, none, none]
  let O1 : Mem := [.val (.lst []), .val (.lst []), .val (.lst (gn.map P.str))]
  have z1 : evS (prog.call (d + 4)) prog.mt (getS 0 f_law_rows.body) ρ0 M = .ok (.nx ρ1) (M ++ O1) := by
    have e1 : (M ++ [Obj.val (.lst [])]).length = M.length + 1 := by simp
    have e2 : ((M ++ [Obj.val (.lst [])]) ++ [Obj.val (.lst [])]).length = M.length + 2 := by simp
    have h := v_par (is := [5, 6, 7]) (es_cons (e_alloc (cf := prog.call (d + 4)) (mt := prog.mt) (ρ := ρ0) (m := M) (e := .lst .nil) (l := []) (e_lst ps_nil (Nat.zero_le _))) (es_two (e_alloc (e := .lst .nil) (l := []) (e_lst ps_nil (Nat.zero_le _))) (e_alloc (e := .prim .list (.cons (.var 1) .nil)) (l := gn.map P.str) (e_prim (es_one (e_var rfl)) rfl)))) ⟨rfl, by show 3 ≤ 1000; decide⟩
    rw [e1, e2] at h
    rw [List.append_assoc, List.append_assoc] at h
    exact h
  let nl := nums 0 gn
  let ρ2 : Env := [some (.ref n 0), some (.p (.lst (gn.map P.str))), some (.p (.lst (fr.map P.str))), some (.p (.lst (st.map P.str))), some (.p (.int (bound : Nat))), some (.ref (M.length + 0) 0), some (.ref (M.length + 1) 0), some (.ref (M.length + 2) 0), some (.ref (M.length + 3) 0), none, none, none, none]
  have z2 : evS (prog.call (d + 4)) prog.mt (getS 1 f_law_rows.body) ρ1 (M ++ O1) = .ok (.nx ρ2) (M ++ rO [] [] gn nl) := by
    have hc := e_compI (cf := prog.call (d + 4)) (mt := prog.mt) (ρ := ρ1) (m := M ++ O1) (m1 := M ++ O1) (elt := .tup (.cons (.var 10) (.cons (.bin .sub (.bin .sub (.lit (.int 0)) (.lit (.int 1))) (.var 9)) .nil))) (tg := .tp [9, 10]) (it := .enum (.var 7)) (ifs := .nil) (enc := P.str) (L := gn) (f := fun i (a : Str) => [P.tup [.str a, .int (0 - 1 - ((i : Nat) : Int))]]) (i_enum (d := .ref (M.length + 2) 0) (l := gn.map P.str) (q := .lst (gn.map P.str)) (e_var rfl) (.inl rfl) (cell_loc (B := M) (objs := O1) (i := 2) rfl)) rfl (stays_loc (cell_loc (B := M) (objs := O1) (i := 2) rfl) (flats_strs okg)) (fun i a h => st_yes rfl if_nil (e_tup (ps_cons (e_var rfl) (ps_cons (e_bin (op := .sub) (e_bin (op := .sub) (e_lit _) (e_lit _) rfl rfl rfl) (e_var rfl) rfl rfl rfl) ps_nil)) (by show 2 ≤ line; decide))) (by
        rw [nums_flatI, dcl_len]
        have : (nums 0 gn).length = gn.length := by rw [← List.length_map (f := (·.1)), nums_keys]
        unfold line
        omega)
    rw [nums_flatI] at hc
    have hk : (nums 0 gn).length = gn.length := by rw [← List.length_map (f := (·.1)), nums_keys]
    have hd := e_prim (p := .dict) (es_one hc) (prim_dict (by omega))
    rw [show foldD (dcl (nums 0 gn)) [] = dcl nl from by
      have := foldD_new (nums 0 gn) [] (by rw [List.nil_append, nums_keys]; rw [List.nodup_append] at nd; exact nd.1)
      rw [List.nil_append] at this
      exact this] at hd
    have e3 : (M ++ O1).length = M.length + 3 := by rw [List.length_append]; rfl
    rw [e3, List.append_assoc] at hd
    exact v_set hd
  obtain ⟨k, M1, a1, a2, a3, a4⟩ := take_s (d := d + 2) (M := M ++ rO [] [] gn nl) p.app (by omega) (a := bound + 1) (by omega)
  obtain ⟨M2, rfl, b1, b2⟩ := Mv.un hln a3 a4
  have hit : evI (prog.call (d + 4)) prog.mt (.rng1 (.call 15 (.cons (.var 0) (.cons (.bin .add (.var 4) (.lit (.int 1))) .nil)))) ρ2 (M ++ rO [] [] gn nl) = .ok (rngL 0 ((k : Nat) : Int).toNat, fun _ => true) (M2 ++ rO [] [] gn nl) := i_rng1 (e_call (es_two (e_var rfl) (e_addN (q := 1) (e_var rfl) (e_lit _))) a1) (by omega)
  obtain ⟨ρ', M3, hfor, hI⟩ := for_inv (g := fun _ => true) (step := fun x ρ m => match bindTg (.nm 9) x ρ with
    | some ρ1 => evSs (prog.call (d + 4)) prog.mt (.cons (.set 11 (.call 19 (.cons (.var 0) (.cons (.ix (.var 2) (.var 9)) (.cons (.var 7) (.cons (.var 3) .nil)))))) (.cons (.set 12 (.call 22 (.cons (.var 11) (.cons (.var 8) (.cons (.var 5) .nil))))) (.cons (.ift (.cmp .notin (.var 12) (.var 6)) (.cons (.expr (.bmeth .append (.var 5) (.cons (.var 11) .nil))) (.cons (.expr (.bmeth .append (.var 6) (.cons (.var 12) .nil))) (.cons (.ift (.cmp .isnot (.call 20 (.cons (.var 11) .nil)) (.lit .non)) (.cons (.expr (.bmeth .append (.var 7) (.cons (.ix (.var 11) (.lit (.int 1))) .nil))) (.cons (.setix (.var 8) (.ix (.var 11) (.lit (.int 1))) (.prim .len (.cons (.var 5) .nil))) .nil)) .nil) .nil))) .nil) .nil))) ρ1 m
    | none => .bad) (fun i ρ m => ∃ rows ws nl M' a b c e, ρ = rE n M.length bound gn fr st a b c e ∧ m = M' ++ rO rows ws (gn ++ rows.filterMap Rw.mk) nl ∧ RI gn fr st i rows ws nl ∧ Mv n M M' ∧ Pen M' n (B + 1 + 5 * i)) (rngL 0 ((k : Nat) : Int).toNat) ρ2 (M2 ++ rO [] [] gn nl) 0 (by
      rintro i x ρ m hx ⟨rows, ws, nl, M', a, b, c, e, rfl, rfl, h1, h2, h3⟩
      rw [Nat.zero_add] at h1 h3 ⊢
      refine ⟨rfl, ?_⟩
      rw [rngL0, List.getElem?_map] at hx
      obtain ⟨j, hj, rfl⟩ := Option.map_eq_some_iff.mp hx
      have hik : i < k := by
        have := (List.getElem?_eq_some_iff.mp hj).1
        rw [List.length_range] at this
        omega
      have hji : j = i := by
        rw [List.getElem?_range (by omega)] at hj
        cases hj
        rfl
      subst hji
      obtain ⟨rows', ws', nl', M'', b', c', e', c1, c2, c3, c4⟩ := round_s (d := d) (bound := bound) (b := b) (c := c) (e := e) h3 (by omega) nd hg okg okf oks hst (by omega) hf h1
      rw [h2.len] at c1
      exact ⟨_, _, c1, rows', ws', nl', M'', _, _, _, _, rfl, rfl, c2, h2.trans c3, c4.mono (by omega)⟩) (fun _ _ _ => rfl) ⟨[], [], nl, M2, none, none, none, none, rfl, by rw [List.filterMap_nil, List.append_nil], ⟨fun k r h => (by cases h), List.nil_sublist _, fun r h => (by cases h), Nat.le_refl _, Nat.le_refl _, fun w h => (by cases h), by rw [nums_keys, List.filterMap_nil, List.append_nil], fun kv h => (by obtain ⟨z, z1, z2⟩ := nums_le 0 gn kv h; exact ⟨z, z1, by show z ≤ 0; omega⟩), rfl, fun k r w h => (by cases h), fun u v z h1 h2 => nums_inj 0 gn u v z h1 h2, fun i j r o _ h => (by cases h), fun r h => (by cases h), fun r h => (by cases h)⟩, b1, b2⟩
  obtain ⟨rows, ws, nl', M', a, b, c, e, rfl, rfl, h1, h2, h3⟩ := hI
  rw [Nat.zero_add, rngL0, List.length_map, List.length_range] at h1 h3
  have hk : ((k : Nat) : Int).toNat = k := by omega
  rw [hk] at h1 h3
  have hL : M'.length = M.length := h2.len
  have hsub : (gn ++ rows.filterMap Rw.mk).Sublist (gn ++ fr) := (List.Sublist.refl gn).append (h1.sub.trans (List.take_sublist ..))
  refine ⟨rows, M', ?_, ⟨h1.use, hsub.nodup nd, hg, by have := h1.len; omega, h1.ok⟩, h1.dist, h1.src, h1.nums, by have := h1.len; omega, h2, h3.mono (by omega)⟩
  have hret : evSs (prog.call (d + 4)) prog.mt (dropS 3 f_law_rows.body) (rE n M.length bound gn fr st a b c e) (M' ++ rO rows ws (gn ++ rows.filterMap Rw.mk) nl') = .ok (.rt (.p (.tup [rowsP rows, .lst ((gn ++ rows.filterMap Rw.mk).map P.str)]))) (M' ++ (rO rows ws (gn ++ rows.filterMap Rw.mk) nl').set 2 .dead) := by
    refine ss_rt (v_ret (e_tup (ps_cons (e_prim (es_one (e_var (d := .ref (M.length + 0) 0) rfl)) (prim_tupR (cell_locL hL rfl))) (ps_cons ((e_frz (n := M.length + 2) (l := (gn ++ rows.filterMap Rw.mk).map P.str) (e_var rfl) (getM_locL hL)).trans ?_) ps_nil)) (by show 2 ≤ line; decide)))
    rw [set_locL hL]
  exact call_mvl (d := d + 4) (f := i_law_rows) (q := f_law_rows) rfl rfl ((ss_nx z1).trans ((ss_nx z2).trans ((ss_nx (v_for hit hfor)).trans hret))) h2
end K02
end Lot
namespace Lot
open PySem
namespace K02
variable {d : Nat} {M : Mem} {n B : Nat}
def dP (x : Str × Nat) : P := .tup [.str x.1, .int (x.2 : Nat)]
def pP (x : Str × List Str) : P := .tup [.str x.1, tupS x.2]
abbrev fE (n : Nat) (kn : List Str) (ds : List (Str × Nat)) (a b c e f g h k : Option D) : Env := [some (.ref n 0), some (.p (.lst (kn.map P.str))), some (.p (.lst (ds.map dP))), a, b, c, e, f, g, h, k]
section
variable {kn : List Str} {ds : List (Str × Nat)}
theorem draws {a b c e f g h k : Option D} (hk : kn.length ≤ 1000) {cnt : Nat} (hc : cnt = 0 ∨ kn ≠ []) (p : Pen M n B) (hB : B + cnt < 1073741824) :
    ∃ (l : List Str) (M' : Mem), compL (fun _ => true) (stp (prog.call (d + 3)) prog.mt (.call i_law_one_of (.cons (.var 0) (.cons (.var 1) .nil))) (.nm 6) .nil (fE n kn ds a b c e f g h k)) (rngL 0 ((cnt : Nat) : Int).toNat) [] M = .ok (l.map P.str) M' ∧ l.length = cnt ∧ (∀ v ∈ l, v ∈ kn) ∧ Mv n M M' ∧ Pen M' n (B + cnt) := by
  obtain ⟨acc, M2, h1, h2⟩ := comp_inv (g := fun _ => true) (step := stp (prog.call (d + 3)) prog.mt (.call i_law_one_of (.cons (.var 0) (.cons (.var 1) .nil))) (.nm 6) .nil (fE n kn ds a b c e f g h k)) (fun i acc M' => Mv n M M' ∧ Pen M' n (B + i) ∧ ∃ l : List Str, acc = l.map P.str ∧ l.length = i ∧ ∀ v ∈ l, v ∈ kn) (rngL 0 ((cnt : Nat) : Int).toNat) [] M 0 (by
      rintro i x acc M' hx ⟨h1, h2, l, rfl, h3, h4⟩
      rw [Nat.zero_add] at h2 h3 ⊢
      have hi : i < cnt := by
        have := (List.getElem?_eq_some_iff.mp hx).1
        rw [rngL0, List.length_map, List.length_range] at this
        omega
      have hne : kn ≠ [] := hc.resolve_left (by omega)
      obtain ⟨s, M'', b1, b2, b3, b4⟩ := one_str (d := d) (dd := .p (.lst (kn.map P.str))) (l := kn) h2 (by omega) (fun _ _ => rfl) ⟨List.length_pos_iff.mpr hne, by omega⟩
      refine ⟨rfl, [.str s], M'', st_yes rfl if_nil (e_call (es_two (e_var rfl) (e_var rfl)) b1), h1.trans b3, b4, l ++ [s], by simp, by simp [h3], fun v hv => ?_⟩
      rcases List.mem_append.mp hv with hv | hv
      · exact h4 v hv
      · rw [List.mem_singleton] at hv; subst hv; exact b2) (fun _ _ _ => rfl) ⟨Mv.refl p, p, [], rfl, rfl, fun v hv => (by cases hv)⟩
  obtain ⟨m1, m2, l, rfl, m3, m4⟩ := h2
  rw [Nat.zero_add, rngL0, List.length_map, List.length_range] at m2 m3
  have : ((cnt : Nat) : Int).toNat = cnt := by omega
  rw [this] at m2 m3
  exact ⟨l, M2, h1, m3, m4, m1, m2⟩
theorem kn_eq {ρ : Env} {cf : Nat → List D → Mem → Out D} {mt : Nat → Nat → Option Nat} (ok : ∀ v ∈ kn, sOk v) (h : (ρ[1]?).bind id = some (.p (.lst (kn.map P.str)))) : evE cf mt (.cmp .eq (.var 1) (.lst .nil)) ρ M = .ok (.p (.bl kn.isEmpty)) M := by
  refine e_cmp (x := .p (.lst (kn.map P.str))) (y := .p (.lst [])) (e_var h) (e_lst ps_nil (Nat.zero_le _)) ?_
  show (if okEq (.lst (kn.map P.str)) (.lst []) = true then some (eqP (.lst (kn.map P.str)) (.lst [])) else none) = _
  rw [if_pos (okEq_of (okD_strs ok) rfl)]
  cases kn <;> rfl
theorem kn_ne {ρ : Env} {cf : Nat → List D → Mem → Out D} {mt : Nat → Nat → Option Nat} (ok : ∀ v ∈ kn, sOk v) (h : (ρ[1]?).bind id = some (.p (.lst (kn.map P.str)))) : evE cf mt (.cmp .ne (.var 1) (.lst .nil)) ρ M = .ok (.p (.bl (!kn.isEmpty))) M := by
  refine e_cmp (x := .p (.lst (kn.map P.str))) (y := .p (.lst [])) (e_var h) (e_lst ps_nil (Nat.zero_le _)) ?_
  show (if okEq (.lst (kn.map P.str)) (.lst []) = true then some (!eqP (.lst (kn.map P.str)) (.lst [])) else none) = _
  rw [if_pos (okEq_of (okD_strs ok) rfl)]
  cases kn <;> rfl
theorem flat_dP {x : Str × Nat} (h : sOk x.1) : flat (dP x) = true := by
  unfold dP
  simp only [flat, flats, show PyData.strOk x.1 = true from h]
  rfl
theorem okD_dPs (h : ∀ x ∈ ds, sOk x.1) : okD (.lst (ds.map dP)) = true := by
  unfold okD
  have e1 : flat (.lst (ds.map dP)) = true := by unfold flat; exact flats_map fun x hx => flat_dP (h x hx)
  have e2 : deep (.lst (ds.map dP)) ≤ 64 := by
    unfold deep
    have := deeps_one (l := ds.map dP) fun w hw => by
      obtain ⟨x, _, rfl⟩ := List.mem_map.mp hw
      rfl
    omega
  rw [e1, decide_eq_true e2]; rfl
theorem mulI_s {a b : Int} (h : -100 < b ∧ b < 100) : mulP (.int a) (.int b) = some (.int (a * b)) := by
  have : small64 b = true := by
    unfold small64
    rw [decide_eq_true (by omega), decide_eq_true (by omega)]
    rfl
  show (if (small64 a || small64 b) = true then some (P.int (a * b)) else none) = _
  rw [this, Bool.or_true, if_pos rfl]
theorem finish_s (p : Pen M n B) (hB : B + 100 < 1073741824) (hkl : kn.length ≤ 1000) (okk : ∀ v ∈ kn, sOk v) (okd : ∀ x ∈ ds, sOk x.1 ∧ x.2 ≤ 20) (hdl : ds.length ≤ 1000) :
    ∃ (fi : Fi) (M' : Mem), prog.call (d + 4) i_law_finish [.ref n 0, .p (.lst (kn.map P.str)), .p (.lst (ds.map dP))] M = .ok (.p fi.p) M' ∧ (∀ v ∈ fi.vals, v ∈ kn) ∧ fi.short ∧ (∀ v ∈ fi.nms, v ∈ ds.map (·.1)) ∧ Mv n M M' ∧ Pen M' n (B + 60) := by
  have hln := p.lt
  let q : Str × Nat → Bool := fun x => ((x.2 : Nat) : Int) == 0 || !kn.isEmpty
  let ws := ds.filter q
  have okw : ∀ x ∈ ws, sOk x.1 ∧ x.2 ≤ 20 := fun x hx => okd x (List.mem_filter.mp hx).1
  have hwl : ws.length ≤ 1000 := Nat.le_trans (List.length_filter_le _ _) hdl
  have hwq : ∀ x ∈ ws, x.2 = 0 ∨ kn ≠ [] := fun x hx => by
    have := (List.mem_filter.mp hx).2
    simp only [q, Bool.or_eq_true, beq_iff_eq] at this
    rcases this with h | h
    · exact .inl (by omega)
    · exact .inr fun e => by rw [e] at h; cases h
  have hc := e_compE (cf := prog.call (d + 3)) (mt := prog.mt) (ρ := fE n kn ds none none none none none none none none) (m := M) (m1 := M) (elt := .var 4) (tg := .nm 4) (it := .seq (.var 2)) (ifs := .cons (.or (.cons (.cmp .eq (.ix (.var 4) (.lit (.int 1))) (.lit (.int 0))) (.cons (.cmp .ne (.var 1) (.lst .nil)) .nil))) .nil) (enc := dP) (L := ds) (f := fun x => if q x then [dP x] else []) (i_seq (d := .p (.lst (ds.map dP))) (q := .lst (ds.map dP)) (e_var rfl) rfl rfl) rfl rfl (fun x hx => by
    have h1 : evE (prog.call (d + 3)) prog.mt (.cmp .eq (.ix (.var 4) (.lit (.int 1))) (.lit (.int 0))) (fE n kn ds none (some (.p (dP x))) none none none none none none) M = .ok (.p (.bl (((x.2 : Nat) : Int) == 0))) M := e_cmp (x := .p (.int (x.2 : Nat))) (e_ix (e_var rfl) (e_lit _) rfl) (e_lit _) rfl
    have h2 : evE (prog.call (d + 3)) prog.mt (.or (.cons (.cmp .eq (.ix (.var 4) (.lit (.int 1))) (.lit (.int 0))) (.cons (.cmp .ne (.var 1) (.lst .nil)) .nil))) (fE n kn ds none (some (.p (dP x))) none none none none none none) M = .ok (.p (.bl (q x))) M := by
      refine (e_or h1 rfl).trans ?_
      show _ = Out.ok (D.p (P.bl (((x.2 : Nat) : Int) == 0 || !kn.isEmpty))) M
      cases ((x.2 : Nat) : Int) == 0
      · exact (if_neg Bool.false_ne_true).trans (e_or1.trans (kn_ne okk rfl))
      · rfl
    have h3 := if_one h2 rfl
    cases hq : q x with
    | true => rw [hq] at h3; exact st_yes rfl h3 (e_var rfl)
    | false => rw [hq] at h3; exact st_no rfl h3) (by rw [flatMap_if, List.length_map]; show ws.length ≤ line; unfold line; omega)
  rw [flatMap_if] at hc
  have hc : evE (prog.call (d + 3)) prog.mt (.comp (.var 4) (.nm 4) (.seq (.var 2)) (.cons (.or (.cons (.cmp .eq (.ix (.var 4) (.lit (.int 1))) (.lit (.int 0))) (.cons (.cmp .ne (.var 1) (.lst .nil)) .nil))) .nil)) (fE n kn ds none none none none none none none none) M = .ok (.p (.lst (ws.map dP))) M := hc
  obtain ⟨sort, M1, a1, a2, a3, a4⟩ := take_s (d := d + 1) p (by omega) (a := 4) (by decide)
  have z : ∀ R, evSs (prog.call (d + 3)) prog.mt (dropS 2 f_law_finish.body) (fE n kn ds (some (.p (.lst (ws.map dP)))) none (some (.p (.int (sort : Nat)))) none none none none none) M1 = R → evSs (prog.call (d + 3)) prog.mt f_law_finish.body (fE n kn ds none none none none none none none none) M = R := fun R hR => by
    refine (ss_nx (v_setc hc)).trans ?_
    exact (ss_nx (v_set (e_call (es_two (e_var rfl) (e_lit _)) a1))).trans hR
  have hw : evE (prog.call (d + 3)) prog.mt (.or (.cons (.cmp .eq (.var 3) (.lst .nil)) (.cons (.cmp .eq (.var 5) (.lit (.int 0))) .nil))) (fE n kn ds (some (.p (.lst (ws.map dP)))) none (some (.p (.int (sort : Nat)))) none none none none none) M1 = .ok (.p (.bl (ws.isEmpty || ((sort : Nat) : Int) == 0))) M1 := by
    have h1 : evE (prog.call (d + 3)) prog.mt (.cmp .eq (.var 3) (.lst .nil)) (fE n kn ds (some (.p (.lst (ws.map dP)))) none (some (.p (.int (sort : Nat)))) none none none none none) M1 = .ok (.p (.bl ws.isEmpty)) M1 := by
      refine e_cmp (x := .p (.lst (ws.map dP))) (y := .p (.lst [])) (e_var rfl) (e_lst ps_nil (Nat.zero_le _)) ?_
      show (if okEq (.lst (ws.map dP)) (.lst []) = true then some (eqP (.lst (ws.map dP)) (.lst [])) else none) = _
      rw [if_pos (okEq_of (okD_dPs fun x hx => (okw x hx).1) rfl)]
      cases ws <;> rfl
    refine (e_or h1 rfl).trans ?_
    cases ws.isEmpty
    · exact (if_neg Bool.false_ne_true).trans (e_or1.trans (e_cmp (e_var rfl) (e_lit _) rfl))
    · rfl
  cases hb : (ws.isEmpty || ((sort : Nat) : Int) == 0) with
  | true =>
    rw [hb] at hw
    obtain ⟨t, M2, b1, b2, b3, b4⟩ := take_s (d := d + 1) a4 (by omega) (a := 7) (by decide)
    obtain ⟨cnt, hcnt, hcn, hmul⟩ : ∃ cnt : Nat, (cnt = 0 ∨ kn ≠ []) ∧ cnt ≤ 6 ∧ mulP (.int (t : Nat)) (.int (if !kn.isEmpty then 1 else 0)) = some (.int (cnt : Nat)) := by
      cases hk : kn.isEmpty with
      | true =>
        refine ⟨0, .inl rfl, by omega, ?_⟩
        have := mulI_s (a := (t : Nat)) (b := 0) (by decide)
        rw [Int.mul_zero] at this
        exact this
      | false =>
        refine ⟨t, .inr fun e => (by rw [e] at hk; cases hk), by omega, ?_⟩
        have := mulI_s (a := (t : Nat)) (b := 1) (by decide)
        rw [Int.mul_one] at this
        exact this
    obtain ⟨l, M3, c1, c2, c3, c4, c5⟩ := draws (d := d) (ds := ds) (a := some (.p (.lst (ws.map dP)))) (b := none) (c := some (.p (.int (sort : Nat)))) (e := none) (f := none) (g := none) (h := none) (k := none) hkl hcnt b4 (by omega)
    have hint : evE (prog.call (d + 3)) prog.mt (.prim .int (.cons (.cmp .ne (.var 1) (.lst .nil)) .nil)) (fE n kn ds (some (.p (.lst (ws.map dP)))) none (some (.p (.int (sort : Nat)))) none none none none none) M2 = .ok (.p (.int (if !kn.isEmpty then 1 else 0))) M2 := e_prim (es_one (kn_ne okk rfl)) (by cases kn <;> rfl)
    have hcomp := e_comp (i_rng1 (cf := prog.call (d + 3)) (mt := prog.mt) (ρ := fE n kn ds (some (.p (.lst (ws.map dP)))) none (some (.p (.int (sort : Nat)))) none none none none none) (m := M1) (m1 := M2) (e := .bin .mul (.call 15 (.cons (.var 0) (.cons (.lit (.int 7)) .nil))) (.prim .int (.cons (.cmp .ne (.var 1) (.lst .nil)) .nil))) (j := (cnt : Nat)) (e_bin (op := .mul) (e_call (es_two (e_var rfl) (e_lit _)) b1) hint rfl rfl hmul) (by omega)) c1 (by rw [List.length_map]; unfold line; omega)
    refine ⟨.stop l, M3, call_mv (d := d + 3) (f := i_law_finish) (q := f_law_finish) rfl rfl (z _ (ss_rt ((v_ift_t hw rfl).trans (ss_rt (v_ret (e_tup (xs := [.str "stop", tupS l]) (ps_cons (e_lit _) (ps_cons (e_prim (es_one hcomp) prim_tupL) ps_nil)) (by show 2 ≤ line; decide))))))) (a3.trans (b3.trans c4)), c3, by show l.length ≤ 20; omega, fun v hv => (by cases hv), a3.trans (b3.trans c4), c5.mono (by omega)⟩
  | false =>
    rw [hb] at hw
    have hwe : ws ≠ [] := fun e => by rw [e] at hb; cases hb
    have hL : M1.length = M.length := a3.len
    let S : Option D := some (.p (.lst (ws.map dP)))
    let T : Option D := some (.p (.int (sort : Nat)))
    have zz : ∀ (R : Out Fl), evSs (prog.call (d + 3)) prog.mt (dropS 4 f_law_finish.body) (fE n kn ds S none T none (some (.ref (M.length + 0) 0)) none none none) (M1 ++ [.val (.lst (([] : List (Str × List Str)).map pP))]) = R → evSs (prog.call (d + 3)) prog.mt f_law_finish.body (fE n kn ds none none none none none none none none) M = R := fun R hR => z R (by
      refine (ss_nx ((v_ift_f hw rfl).trans ss_nil)).trans ?_
      refine (ss_nx (v_set (e_alloc (e_lst ps_nil (Nat.zero_le _))))).trans ?_
      rw [hL]
      exact hR)
    obtain ⟨ρ', M3, hfor, hI⟩ := for_inv (g := fun _ => true) (step := fun x ρ m => match bindTg (.nm 8) x ρ with
      | some ρ1 => evSs (prog.call (d + 3)) prog.mt (.cons (.unp [9, 10] (.call 16 (.cons (.var 0) (.cons (.var 3) .nil)))) (.cons (.expr (.bmeth .append (.var 7) (.cons (.tup (.cons (.var 9) (.cons (.prim .tuple (.cons (.comp (.call 16 (.cons (.var 0) (.cons (.var 1) .nil))) (.nm 6) (.rng1 (.var 10)) .nil) .nil)) .nil))) .nil))) .nil)) ρ1 m
      | none => .bad) (fun i ρ m => ∃ (tw : List (Str × List Str)) (M' : Mem) (g h k : Option D), ρ = fE n kn ds S none T none (some (.ref (M.length + 0) 0)) g h k ∧ m = M' ++ [.val (.lst (tw.map pP))] ∧ tw.length = i ∧ (∀ x ∈ tw, x.1 ∈ ds.map (·.1) ∧ x.2.length ≤ 20 ∧ ∀ v ∈ x.2, v ∈ kn) ∧ Mv n M M' ∧ Pen M' n (B + 1 + 21 * i)) (rngL 0 ((2 : Nat) : Int).toNat) (fE n kn ds S none T none (some (.ref (M.length + 0) 0)) none none none) (M1 ++ [.val (.lst (([] : List (Str × List Str)).map pP))]) 0 (by
        rintro i x ρ m hx ⟨tw, M', g, h, k, rfl, rfl, h1, h2, h3, h4⟩
        rw [Nat.zero_add] at h1 h4 ⊢
        refine ⟨rfl, ?_⟩
        have hi : i < 2 := by
          have := (List.getElem?_eq_some_iff.mp hx).1
          rw [rngL0, List.length_map, List.length_range] at this
          omega
        obtain ⟨y, M2, b1, b2, b3, b4⟩ := one_of_s (d := d) (M := M' ++ [.val (.lst (tw.map pP))]) (dd := .p (.lst (ws.map dP))) (l := ws.map dP) h4.app (by omega) (fun _ _ => rfl) (by rw [List.length_map]; exact ⟨List.length_pos_iff.mpr hwe, by omega⟩)
        obtain ⟨M2, rfl, b3', b4'⟩ := Mv.un (h4.lt) b3 b4
        obtain ⟨⟨nm, sz⟩, hy, rfl⟩ := List.mem_map.mp b2
        have hk1 := okw _ hy
        obtain ⟨l, M3, c1, c2, c3, c4, c5⟩ := draws (d := d) (M := M2 ++ [.val (.lst (tw.map pP))]) (ds := ds) (a := S) (b := none) (c := T) (e := none) (f := some (.ref (M.length + 0) 0)) (g := some (.p x)) (h := some (.p (.str nm))) (k := some (.p (.int (sz : Nat)))) hkl (hwq _ hy) b4 (by have := hk1.2; dsimp only at this; omega)
        obtain ⟨M3, rfl, c4', c5'⟩ := Mv.un (b4'.lt) c4 c5
        have hsz : sz ≤ 20 := hk1.2
        have hL3 : M3.length = M.length := (h3.trans (b3'.trans c4')).len
        refine ⟨fE n kn ds S none T none (some (.ref (M.length + 0) 0)) (some (.p x)) (some (.p (.str nm))) (some (.p (.int (sz : Nat)))), M3 ++ [.val (.lst ((tw ++ [(nm, l)]).map pP))], ?_, tw ++ [(nm, l)], M3, _, _, _, rfl, rfl, by rw [List.length_append, h1]; rfl, fun v hv => ?_, h3.trans (b3'.trans c4'), c5'.mono (by omega)⟩
        · show evSs _ _ _ (fE n kn ds S none T none (some (.ref (M.length + 0) 0)) (some (.p x)) h k) _ = _
          refine (ss_nx (v_unp (xs := [.str nm, .int (sz : Nat)]) (e_call (es_two (e_var rfl) (e_var rfl)) b1) rfl rfl)).trans ?_
          have hcomp := e_comp (i_rng1 (cf := prog.call (d + 3)) (mt := prog.mt) (ρ := fE n kn ds S none T none (some (.ref (M.length + 0) 0)) (some (.p x)) (some (.p (.str nm))) (some (.p (.int (sz : Nat))))) (m := M2 ++ [.val (.lst (tw.map pP))]) (e := .var 10) (j := (sz : Nat)) (e_var rfl) (by omega)) c1 (by rw [List.length_map]; unfold line; omega)
          have htup : evE (prog.call (d + 3)) prog.mt (.tup (.cons (.var 9) (.cons (.prim .tuple (.cons (.comp (.call 16 (.cons (.var 0) (.cons (.var 1) .nil))) (.nm 6) (.rng1 (.var 10)) .nil) .nil)) .nil))) (fE n kn ds S none T none (some (.ref (M.length + 0) 0)) (some (.p x)) (some (.p (.str nm))) (some (.p (.int (sz : Nat))))) (M2 ++ [.val (.lst (tw.map pP))]) = .ok (.p (.tup [.str nm, tupS l])) (M3 ++ [.val (.lst (tw.map pP))]) := e_tup (xs := [.str nm, tupS l]) (ps_cons (e_var rfl) (ps_cons (e_prim (es_one hcomp) prim_tupL) ps_nil)) (by show 2 ≤ line; decide)
          have s2 : evS (prog.call (d + 3)) prog.mt (.expr (.bmeth .append (.var 7) (.cons (.tup (.cons (.var 9) (.cons (.prim .tuple (.cons (.comp (.call 16 (.cons (.var 0) (.cons (.var 1) .nil))) (.nm 6) (.rng1 (.var 10)) .nil) .nil)) .nil))) .nil))) (fE n kn ds S none T none (some (.ref (M.length + 0) 0)) (some (.p x)) (some (.p (.str nm))) (some (.p (.int (sz : Nat))))) (M2 ++ [.val (.lst (tw.map pP))]) = .ok (.nx (fE n kn ds S none T none (some (.ref (M.length + 0) 0)) (some (.p x)) (some (.p (.str nm))) (some (.p (.int (sz : Nat)))))) (M3 ++ [.val (.lst ((tw ++ [(nm, l)]).map pP))]) := by
            have hT : bmT .append (.ref (M.length + 0) 0) (M2 ++ [.val (.lst (tw.map pP))]) = true := by
              refine bmT_locL (w := .append) (B := M2) (objs := [.val (.lst (tw.map pP))]) (i := 0) (l := tw.map pP) (h3.trans b3').len ?_ ?_
              · rfl
              · rfl
            refine v_expr (d := .p .non) ?_
            have h0 : evE (prog.call (d + 3)) prog.mt (.var 7) (fE n kn ds S none T none (some (.ref (M.length + 0) 0)) (some (.p x)) (some (.p (.str nm))) (some (.p (.int (sz : Nat))))) (M2 ++ [.val (.lst (tw.map pP))]) = .ok (.ref (M.length + 0) 0) (M2 ++ [.val (.lst (tw.map pP))]) := e_var rfl
            refine e_bm h0 hT (es_one htup) ?_
            rw [app_locL (i := 0) (l := tw.map pP) hL3 rfl (by rw [List.length_map]; unfold line; omega)]
            rw [show (tw ++ [(nm, l)]).map pP = tw.map pP ++ [.tup [.str nm, tupS l]] from by rw [List.map_append]; rfl]
            rfl
          exact (ss_nx s2).trans ss_nil
        · rcases List.mem_append.mp hv with hv | hv
          · exact h2 v hv
          · rw [List.mem_singleton] at hv
            subst hv
            exact ⟨List.mem_map.mpr ⟨_, (List.mem_filter.mp hy).1, rfl⟩, by show l.length ≤ 20; omega, c3⟩) (fun _ _ _ => rfl) ⟨[], M1, none, none, none, rfl, rfl, rfl, fun v hv => (by cases hv), a3, a4⟩
    obtain ⟨tw, M', g, h, k, rfl, rfl, h1, h2, h3, h4⟩ := hI
    have h1 : tw.length = 2 := h1
    have h4 : Pen M' n (B + 43) := h4.mono (by show B + 1 + 21 * (0 + 2) ≤ _; omega)
    match tw, h1 with
    | [(n1, l1), (n2, l2)], _ =>
      obtain ⟨q1, q2, q3⟩ := h2 (n1, l1) (by simp)
      obtain ⟨r1, r2, r3⟩ := h2 (n2, l2) (by simp)
      dsimp only at q1 q2 q3 r1 r2 r3
      have hL' : M'.length = M.length := h3.len
      let O : Mem := [.val (.lst ([(n1, l1), (n2, l2)].map pP))]
      have i7 : ∀ (M'' : Mem), M''.length = M.length → ∀ (j : Nat) (x : P), ([(n1, l1), (n2, l2)].map pP)[j]? = some x → evE (prog.call (d + 3)) prog.mt (.ix (.var 7) (.lit (.int (j : Nat)))) (fE n kn ds S none T none (some (.ref (M.length + 0) 0)) g h k) (M'' ++ O) = .ok (.p x) (M'' ++ O) := fun M'' hl j x hx => e_ix (x := .ref (M.length + 0) 0) (e_var rfl) (e_lit _) (ixD_l (cell_locL hl rfl) rfl (atI_nat hx))
      have ht : evE (prog.call (d + 3)) prog.mt (.or (.cons (.cmp .eq (.var 5) (.lit (.int 1))) (.cons (.cmp .eq (.var 1) (.lst .nil)) .nil))) (fE n kn ds S none T none (some (.ref (M.length + 0) 0)) g h k) (M' ++ O) = .ok (.p (.bl (((sort : Nat) : Int) == 1 || kn.isEmpty))) (M' ++ O) := by
        have h1 : evE (prog.call (d + 3)) prog.mt (.cmp .eq (.var 5) (.lit (.int 1))) (fE n kn ds S none T none (some (.ref (M.length + 0) 0)) g h k) (M' ++ O) = .ok (.p (.bl (((sort : Nat) : Int) == 1))) (M' ++ O) := e_cmp (e_var rfl) (e_lit _) rfl
        refine (e_or h1 rfl).trans ?_
        cases ((sort : Nat) : Int) == 1
        · exact (if_neg Bool.false_ne_true).trans (e_or1.trans (kn_eq okk rfl))
        · rfl
      have hf : evS (prog.call (d + 3)) prog.mt (getS 4 f_law_finish.body) (fE n kn ds S none T none (some (.ref (M.length + 0) 0)) none none none) (M1 ++ [.val (.lst (([] : List (Str × List Str)).map pP))]) = .ok (.nx (fE n kn ds S none T none (some (.ref (M.length + 0) 0)) g h k)) (M' ++ O) := v_for (i_rng1 (e := .lit (.int 2)) (j := ((2 : Nat) : Int)) (e_lit _) (by omega)) hfor
      cases hs : (((sort : Nat) : Int) == 1 || kn.isEmpty) with
      | true =>
        rw [hs] at ht
        refine ⟨.go n1 l1, M', call_mvl (d := d + 3) (f := i_law_finish) (q := f_law_finish) rfl rfl (zz _ ((ss_nx hf).trans (ss_rt ((v_ift_t ht rfl).trans (ss_rt (v_ret (e_bin (op := .add) (e_tup (xs := [.str "go"]) (ps_cons (e_lit _) ps_nil) (by show 1 ≤ line; decide)) (i7 M' hL' 0 _ rfl) rfl rfl rfl))))))) h3, q3, q2, fun v hv => ?_, h3, h4.mono (by omega)⟩
        rw [show v = n1 from by simpa [Fi.nms] using hv]
        exact q1
      | false =>
        rw [hs] at ht
        have hne : kn ≠ [] := fun e => by rw [e, Bool.or_comm] at hs; cases hs
        obtain ⟨x, M2, b1, b2, b3, b4⟩ := one_str (d := d) (M := M' ++ O) (dd := .p (.lst (kn.map P.str))) (l := kn) h4.app (by omega) (fun _ _ => rfl) ⟨List.length_pos_iff.mpr hne, by omega⟩
        obtain ⟨M2, rfl, b3', b4'⟩ := Mv.un (h4.lt) b3 b4
        have hL2 : M2.length = M.length := (h3.trans b3').len
        refine ⟨.whn x n1 l1 n2 l2, M2, call_mvl (d := d + 3) (f := i_law_finish) (q := f_law_finish) rfl rfl (zz _ ((ss_nx hf).trans ((ss_nx ((v_ift_f ht rfl).trans ss_nil)).trans (ss_rt (v_ret (e_bin (op := .add) (e_bin (op := .add) (e_tup (xs := [.str "when", .str x]) (ps_cons (e_lit _) (ps_cons (e_call (es_two (e_var rfl) (e_var rfl)) b1) ps_nil)) (by show 2 ≤ line; decide)) (i7 M2 hL2 0 _ rfl) rfl rfl rfl) (i7 M2 hL2 1 _ rfl) rfl rfl rfl)))))) (h3.trans b3'), fun v hv => ?_, ⟨q2, r2⟩, fun v hv => ?_, h3.trans b3', b4'.mono (by omega)⟩
        · rcases List.mem_cons.mp hv with rfl | hv
          · exact b2
          · rcases List.mem_append.mp hv with hv | hv
            · exact q3 v hv
            · exact r3 v hv
        · have : v = n1 ∨ v = n2 := by simpa [Fi.nms] using hv
          rcases this with rfl | rfl
          · exact q1
          · exact r1
end
end K02
end Lot
namespace Lot
open PySem
namespace K02
variable {d : Nat} {M : Mem} {n B : Nat}
theorem cut_lo {α : Type} {cs : List α} {k : Nat} (h : k ≤ cs.length) : cut cs (some (k : Int)) none = cs.drop k := by
  unfold cut
  have e1 : sIx cs.length 0 (some (k : Int)) = k := by
    unfold sIx
    dsimp only
    rw [if_neg (by omega)]
    simp
    omega
  have e2 : sIx cs.length cs.length none = cs.length := rfl
  rw [e1, e2, List.take_of_length_le (by rw [List.length_drop]; omega)]
theorem slice_hi {fr : List Str} {k : Nat} (h : k ≤ fr.length) (hl : fr.length ≤ 1000) {m : Mem} : sliceD (.p (.lst (fr.map P.str))) none (some (k : Int)) m = some (.lst ((fr.take k).map P.str)) := by
  show some (P.lst (cut (fr.map P.str) none (some (k : Int)))) = _
  rw [cut_hi (by rw [List.length_map]; exact h), List.map_take]
theorem slice_lo {fr : List Str} {k : Nat} (h : k ≤ fr.length) (hl : fr.length ≤ 1000) {m : Mem} : sliceD (.p (.lst (fr.map P.str))) (some (k : Int)) none m = some (.lst ((fr.drop k).map P.str)) := by
  show some (P.lst (cut (fr.map P.str) (some (k : Int)) none)) = _
  rw [cut_lo (by rw [List.length_map]; exact h), List.map_drop]
abbrev aE (n bl tk bd : Nat) (a b c e f g h i j k : Option D) : Env := [some (.ref n 0), some (.p (.int (bl : Nat))), some (.p (.int (tk : Nat))), some (.p (.int (bd : Nat))), a, b, c, e, f, g, h, i, j, k]
/-- short names, bounded numbers -/
structure Small (b : Blk) : Prop where
  nm : b.name.length ≤ 8
  tk : ∀ v ∈ b.takes, v.length ≤ 8
  rw_ : ∀ r ∈ b.rows, ∀ s ∈ r.strs, s.length ≤ 8
  gn : ∀ v ∈ b.fin.nms, v.length ≤ 8
  num : ∀ r ∈ b.rows, ∀ x n, r = .num x n → 0 ≤ n ∧ n < 1073741824
def BIn (tk bd : Nat) (b : Blk) : Prop := BOk b ∧ b.takes.length ≤ tk ∧ b.rows.length ≤ bd ∧ (∀ v ∈ b.takes, sOk v) ∧ Dist b.rows ∧ Small b
theorem any_s {bl tk bd : Nat} (p : Pen M n B) (hB : B + 5000 < 1073741824) (h1 : 0 < bl ∧ bl ≤ 5) (h2 : tk ≤ 6) (h3 : bd ≤ 14) :
    ∃ (t : List Blk) (M' : Mem), prog.call (d + 6) i_law_any_text [.ref n 0, .p (.int (bl : Nat)), .p (.int (tk : Nat)), .p (.int (bd : Nat))] M = .ok (.p (.tup (t.map Blk.p))) M' ∧ 0 < t.length ∧ t.length ≤ bl ∧ (∀ b ∈ t, BIn tk bd b) ∧ Mv n M M' ∧ Pen M' n (B + 2000) := by
  have hln := p.lt
  obtain ⟨k0, M1, a1, a2, a3, a4⟩ := take_s (d := d + 3) p (by omega) (a := bl) (by omega)
  obtain ⟨ws, M2, b1, b2, b3, b4, b5, b6⟩ := spelt_s (d := d + 2) a4 (by omega) (lot := 1 + k0) (by omega)
  obtain ⟨acc, M3, c1, c2, c3, ds, rfl, c4, c5⟩ := comp_inv (g := fun _ => true) (step := stp (prog.call (d + 5)) prog.mt (.tup (.cons (.var 6) (.cons (.call 15 (.cons (.var 0) (.cons (.bin .add (.var 2) (.lit (.int 1))) .nil))) .nil))) (.nm 6) .nil (aE n bl tk bd (some (.p (.lst (ws.map P.str)))) none none none none none none none none none)) (fun i acc M' => Mv n M M' ∧ Pen M' n (B + 20 + i) ∧ ∃ ds : List (Str × Nat), acc = ds.map dP ∧ ds.map (·.1) = ws.take i ∧ ∀ x ∈ ds, x.2 ≤ tk) (ws.map P.str) [] M2 0 (by
      rintro i x acc M' hx ⟨e1, e2, ds, rfl, e3, e4⟩
      rw [Nat.zero_add] at e2 e3 ⊢
      rw [List.getElem?_map] at hx
      obtain ⟨w, hw, rfl⟩ := Option.map_eq_some_iff.mp hx
      have hi := (List.getElem?_eq_some_iff.mp hw).1
      obtain ⟨q, M'', f1, f2, f3, f4⟩ := take_s (d := d + 3) e2 (by omega) (a := tk + 1) (by omega)
      refine ⟨rfl, [dP (w, q)], M'', ?_, e1.trans f3, f4, ds ++ [(w, q)], by simp, ?_, fun y hy => ?_⟩
      · exact st_yes rfl if_nil (e_tup (ps_cons (e_var rfl) (ps_cons (e_call (es_two (e_var rfl) (e_addN (q := 1) (e_var rfl) (e_lit _))) f1) ps_nil)) (by show 2 ≤ line; decide))
      · rw [List.map_append, e3, List.take_succ, hw]; rfl
      · rcases List.mem_append.mp hy with hy | hy
        · exact e4 y hy
        · rw [List.mem_singleton] at hy; subst hy; show q ≤ tk; omega) (fun _ _ _ => rfl) ⟨a3.trans b5, b6.mono (by omega), [], rfl, rfl, fun y hy => (by cases hy)⟩
  rw [Nat.zero_add, List.length_map] at c3 c4
  rw [List.take_of_length_le (Nat.le_refl _)] at c4
  have hdl : ds.length = 1 + k0 := by rw [← List.length_map (f := (·.1)), c4, b2]
  have okd : ∀ x ∈ ds, sOk x.1 ∧ x.2 ≤ 20 := fun x hx => ⟨(b4 _ (by rw [← c4]; exact List.mem_map.mpr ⟨x, hx, rfl⟩)).1, by have := c5 x hx; omega⟩
  obtain ⟨k1, M4, g1, g2, g3, g4⟩ := take_s (d := d + 3) c3 (by omega) (a := 3) (by decide)
  obtain ⟨st, M5, k1', k2', k3', k4', k5', k6'⟩ := spelt_s (d := d + 2) g4 (by omega) (lot := 1 + k1) (by omega)
  have mv5 : Mv n M M5 := c2.trans (g3.trans k5')
  have hL5 : M5.length = M.length := mv5.len
  let W : Option D := some (.p (.lst (ws.map P.str)))
  let Ds : Option D := some (.p (.lst (ds.map dP)))
  let S : Option D := some (.p (.lst (st.map P.str)))
  have z : ∀ R, evSs (prog.call (d + 5)) prog.mt (dropS 4 f_law_any_text.body) (aE n bl tk bd W Ds none S (some (.ref (M.length + 0) 0)) none none none none none) (M5 ++ [.val (.lst (([] : List Blk).map Blk.p))]) = R → evSs (prog.call (d + 5)) prog.mt f_law_any_text.body (aE n bl tk bd none none none none none none none none none none) M = R := fun R hR => by
    refine (ss_nx (v_set (e_call (es_two (e_var rfl) (e_addN (p := 1) (e_lit _) (e_call (es_two (e_var rfl) (e_var rfl)) a1))) b1))).trans ?_
    refine (ss_nx (v_setc (e_comp (i_seq (d := .p (.lst (ws.map P.str))) (q := .lst (ws.map P.str)) (e_var rfl) rfl rfl) c1 (by rw [List.length_map]; unfold line; omega)))).trans ?_
    refine (ss_nx (v_set (e_call (es_two (e_var rfl) (e_addN (p := 1) (e_lit _) (e_call (es_two (e_var rfl) (e_lit _)) g1))) k1'))).trans ?_
    refine (ss_nx (v_set (e_alloc (e_lst ps_nil (Nat.zero_le _))))).trans ?_
    rw [hL5]
    exact hR
  obtain ⟨ρ', M', hfor, hI⟩ := for_inv (g := fun _ => true) (step := fun x ρ m => match bindTg (.tp [9, 10]) x ρ with
    | some ρ1 => evSs (prog.call (d + 5)) prog.mt (.cons (.set 11 (.call 18 (.cons (.var 0) (.cons (.bin .add (.var 10) (.var 3)) .nil)))) (.cons (.unp [12, 13] (.call 23 (.cons (.var 0) (.cons (.slice (.var 11) .nob (.var 10)) (.cons (.slice (.var 11) (.var 10) .nob) (.cons (.var 7) (.cons (.var 3) .nil))))))) (.cons (.expr (.bmeth .append (.var 8) (.cons (.tup (.cons (.var 9) (.cons (.prim .tuple (.cons (.slice (.var 11) .nob (.var 10)) .nil)) (.cons (.var 12) (.cons (.call 24 (.cons (.var 0) (.cons (.var 13) (.cons (.var 5) .nil)))) .nil))))) .nil))) .nil))) ρ1 m
    | none => .bad) (fun i ρ m => ∃ (t : List Blk) (M' : Mem) (g h i' j k : Option D), ρ = aE n bl tk bd W Ds none S (some (.ref (M.length + 0) 0)) g h i' j k ∧ m = M' ++ [.val (.lst (t.map Blk.p))] ∧ t.length = i ∧ (∀ b ∈ t, BIn tk bd b) ∧ Mv n M M' ∧ Pen M' n (B + 60 + 200 * i)) (ds.map dP) (aE n bl tk bd W Ds none S (some (.ref (M.length + 0) 0)) none none none none none) (M5 ++ [.val (.lst (([] : List Blk).map Blk.p))]) 0 (by
      rintro i x ρ m hx ⟨t, M', g, h, i', j, k, rfl, rfl, e1, e2, e3, e4⟩
      rw [Nat.zero_add] at e1 e4 ⊢
      refine ⟨rfl, ?_⟩
      rw [List.getElem?_map] at hx
      obtain ⟨⟨nm, sz⟩, hx', rfl⟩ := Option.map_eq_some_iff.mp hx
      have hi := (List.getElem?_eq_some_iff.mp hx').1
      have hm : (nm, sz) ∈ ds := List.mem_of_getElem? hx'
      have hsz : sz ≤ tk := c5 _ hm
      have hnm : sOk nm := (okd _ hm).1
      let O : Mem := [.val (.lst (t.map Blk.p))]
      obtain ⟨fr, Ma, f1, f2, f3, f4, f5, f6⟩ := spelt_s (d := d + 2) (M := M' ++ O) e4.app (by omega) (lot := sz + bd) (by omega)
      obtain ⟨Ma, rfl, f5', f6'⟩ := Mv.un e4.lt f5 f6
      have ht : fr.take sz ++ fr.drop sz = fr := List.take_append_drop ..
      have hft : (fr.take sz).length = sz := by rw [List.length_take]; omega
      have hfd : (fr.drop sz).length = bd := by rw [List.length_drop]; omega
      obtain ⟨rows, Mb, g1, g2, g2', gs, gn', g3, g4, g5⟩ := rows_s (d := d) (M := Ma ++ O) (bound := bd) (gn := fr.take sz) (fr := fr.drop sz) (st := st) f6'.app (by omega) (by rw [ht]; exact f3) (by omega) (fun v hv => (f4 v (List.mem_of_mem_take hv)).1) (fun v hv => (f4 v (List.mem_of_mem_drop hv)).1) (fun v hv => (k4' v hv).1) (by omega) hfd.symm (by omega)
      obtain ⟨Mb, rfl, g4', g5'⟩ := Mv.un f6'.lt g4 g5
      generalize hkn : fr.take sz ++ rows.filterMap Rw.mk = kn at *
      have okk : ∀ v ∈ kn, sOk v := fun v hv => by
        rw [← hkn] at hv
        rcases List.mem_append.mp hv with hv | hv
        · exact (f4 v (List.mem_of_mem_take hv)).1
        · obtain ⟨r, r1, r2⟩ := List.mem_filterMap.mp hv
          refine g2.ok r r1 v ?_
          cases r <;> cases r2 <;> simp [Rw.strs]
      have hkl : kn.length ≤ 1000 := by
        rw [← hkn, List.length_append]
        have := List.length_filterMap_le Rw.mk rows
        omega
      obtain ⟨fi, Mc, h1, h2, h3, h4, h5, h6⟩ := finish_s (d := d + 1) (M := Mb ++ O) (kn := kn) (ds := ds) g5'.app (by omega) hkl okk okd (by omega)
      obtain ⟨Mc, rfl, h5', h6'⟩ := Mv.un g5'.lt h5 h6
      have mvc : Mv n M Mc := e3.trans (f5'.trans (g4'.trans h5'))
      let b : Blk := ⟨nm, fr.take sz, rows, fi⟩
      have hb : BIn tk bd b := by
        refine ⟨⟨g2, fun v hv => by rw [show b.takes ++ b.rows.filterMap Rw.mk = kn from hkn]; exact h2 v hv, h3, hnm, fun v hv => by
        obtain ⟨y, y1, rfl⟩ := List.mem_map.mp (h4 v hv)
        exact (okd y y1).1⟩, by show (fr.take sz).length ≤ tk; omega, g3, fun v hv => (f4 v (List.mem_of_mem_take hv)).1, g2', ⟨(b4 nm (by rw [← c4]; exact List.mem_map.mpr ⟨_, hm, rfl⟩)).2, fun v hv => (f4 v (List.mem_of_mem_take hv)).2, fun r hr s hs => ?_, fun v hv => ?_, gn'⟩⟩
        · have := gs r hr s hs
          rw [ht] at this
          rcases List.mem_append.mp this with h | h
          · exact (f4 s h).2
          · exact (k4' s h).2
        · obtain ⟨y, y1, rfl⟩ := List.mem_map.mp (h4 v hv)
          exact (b4 _ (by rw [← c4]; exact List.mem_map.mpr ⟨y, y1, rfl⟩)).2
      let E1 : Env := aE n bl tk bd W Ds none S (some (.ref (M.length + 0) 0)) (some (.p (.str nm))) (some (.p (.int (sz : Nat)))) (some (.p (.lst (fr.map P.str)))) j k
      let E2 : Env := aE n bl tk bd W Ds none S (some (.ref (M.length + 0) 0)) (some (.p (.str nm))) (some (.p (.int (sz : Nat)))) (some (.p (.lst (fr.map P.str)))) (some (.p (rowsP rows))) (some (.p (.lst (kn.map P.str))))
      refine ⟨E2, Mc ++ [.val (.lst ((t ++ [b]).map Blk.p))], ?_, t ++ [b], Mc, _, _, _, _, _, rfl, rfl, by rw [List.length_append, e1]; rfl, fun v hv => ?_, mvc, h6'.mono (by omega)⟩
      · show evSs _ _ _ (aE n bl tk bd W Ds none S (some (.ref (M.length + 0) 0)) (some (.p (.str nm))) (some (.p (.int (sz : Nat)))) i' j k) _ = _
        have s1 : evS (prog.call (d + 5)) prog.mt (.set 11 (.call 18 (.cons (.var 0) (.cons (.bin .add (.var 10) (.var 3)) .nil)))) (aE n bl tk bd W Ds none S (some (.ref (M.length + 0) 0)) (some (.p (.str nm))) (some (.p (.int (sz : Nat)))) i' j k) (M' ++ O) = .ok (.nx E1) (Ma ++ O) := v_set (e_call (es_two (e_var rfl) (e_addN (e_var rfl) (e_var rfl))) f1)
        have sl1 : ∀ (m : Mem) (E : Env), (E[11]?).bind id = some (.p (.lst (fr.map P.str))) → (E[10]?).bind id = some (.p (.int (sz : Nat))) → evE (prog.call (d + 5)) prog.mt (.slice (.var 11) .nob (.var 10)) E m = .ok (.p (.lst ((fr.take sz).map P.str))) m := fun m E q1 q2 => e_slice (e_var q1) rfl (bnd_var (e_var q2)) (slice_hi (by omega) (by omega))
        have sl2 : ∀ (m : Mem) (E : Env), (E[11]?).bind id = some (.p (.lst (fr.map P.str))) → (E[10]?).bind id = some (.p (.int (sz : Nat))) → evE (prog.call (d + 5)) prog.mt (.slice (.var 11) (.var 10) .nob) E m = .ok (.p (.lst ((fr.drop sz).map P.str))) m := fun m E q1 q2 => e_slice (e_var q1) (bnd_var (e_var q2)) rfl (slice_lo (by omega) (by omega))
        have s2 : evS (prog.call (d + 5)) prog.mt (.unp [12, 13] (.call 23 (.cons (.var 0) (.cons (.slice (.var 11) .nob (.var 10)) (.cons (.slice (.var 11) (.var 10) .nob) (.cons (.var 7) (.cons (.var 3) .nil))))))) E1 (Ma ++ O) = .ok (.nx E2) (Mb ++ O) := v_unp (xs := [rowsP rows, .lst (kn.map P.str)]) (e_call (es_cons (e_var rfl) (es_cons (sl1 _ _ rfl rfl) (es_cons (sl2 _ _ rfl rfl) (es_two (e_var rfl) (e_var rfl))))) g1) rfl rfl
        have s3 : evS (prog.call (d + 5)) prog.mt (.expr (.bmeth .append (.var 8) (.cons (.tup (.cons (.var 9) (.cons (.prim .tuple (.cons (.slice (.var 11) .nob (.var 10)) .nil)) (.cons (.var 12) (.cons (.call 24 (.cons (.var 0) (.cons (.var 13) (.cons (.var 5) .nil)))) .nil))))) .nil))) E2 (Mb ++ O) = .ok (.nx E2) (Mc ++ [.val (.lst ((t ++ [b]).map Blk.p))]) := by
          have q0 : evE (prog.call (d + 5)) prog.mt (.var 8) E2 (Mb ++ O) = .ok (.ref (M.length + 0) 0) (Mb ++ O) := e_var rfl
          have q1 : bmT .append (.ref (M.length + 0) 0) (Mb ++ O) = true := bmT_locL (w := .append) (B := Mb) (objs := O) (i := 0) (l := t.map Blk.p) (e3.trans (f5'.trans g4')).len rfl rfl
          have q2 : evE (prog.call (d + 5)) prog.mt (.tup (.cons (.var 9) (.cons (.prim .tuple (.cons (.slice (.var 11) .nob (.var 10)) .nil)) (.cons (.var 12) (.cons (.call 24 (.cons (.var 0) (.cons (.var 13) (.cons (.var 5) .nil)))) .nil))))) E2 (Mb ++ O) = .ok (.p b.p) (Mc ++ O) := e_tup (xs := [.str nm, tupS (fr.take sz), rowsP rows, fi.p]) (ps_cons (e_var rfl) (ps_cons (e_prim (es_one (sl1 _ _ rfl rfl)) prim_tupL) (ps_cons (e_var rfl) (ps_cons (e_call (es_cons (e_var rfl) (es_two (e_var rfl) (e_var rfl))) h1) ps_nil)))) (by show 4 ≤ line; decide)
          refine v_expr (d := .p .non) ?_
          refine e_bm q0 q1 (es_one q2) ?_
          rw [app_locL (i := 0) (l := t.map Blk.p) mvc.len rfl (by rw [List.length_map]; unfold line; omega)]
          rw [show (t ++ [b]).map Blk.p = t.map Blk.p ++ [b.p] from by rw [List.map_append]; rfl]
          rfl
        exact (ss_nx s1).trans ((ss_nx s2).trans ((ss_nx s3).trans ss_nil))
      · rcases List.mem_append.mp hv with hv | hv
        · exact e2 v hv
        · rw [List.mem_singleton] at hv; subst hv; exact hb) (fun _ _ _ => rfl) ⟨[], M5, none, none, none, none, none, rfl, rfl, rfl, fun v hv => (by cases hv), mv5, k6'.mono (by omega)⟩
  obtain ⟨t, M', g, h, i', j, k, rfl, rfl, e1, e2, e3, e4⟩ := hI
  rw [Nat.zero_add, List.length_map] at e1 e4
  have hf : evS (prog.call (d + 5)) prog.mt (getS 4 f_law_any_text.body) (aE n bl tk bd W Ds none S (some (.ref (M.length + 0) 0)) none none none none none) (M5 ++ [.val (.lst (([] : List Blk).map Blk.p))]) = .ok (.nx (aE n bl tk bd W Ds none S (some (.ref (M.length + 0) 0)) g h i' j k)) (M' ++ [.val (.lst (t.map Blk.p))]) := v_for (i_seq (d := .p (.lst (ds.map dP))) (q := .lst (ds.map dP)) (e_var rfl) rfl rfl) hfor
  exact ⟨t, M', call_mvl (d := d + 5) (f := i_law_any_text) (q := f_law_any_text) rfl rfl (z _ ((ss_nx hf).trans (ss_rt (v_ret (e_prim (es_one (e_var (d := .ref (M.length + 0) 0) rfl)) (prim_tupR (cell_locL (objs := [.val (.lst (t.map Blk.p))]) (i := 0) e3.len rfl))))))) e3, by omega, by omega, e2, e3, e4.mono (by omega)⟩
end K02
end Lot
namespace Lot
open PySem
/-- a sign so many times -/
def zs (c j : Nat) : Str := ⟨(List.replicate j [c]).flatten.toArray⟩
theorem zs_l (c : Nat) : ∀ j : Nat, (zs c j).cps.toList = List.replicate j c := fun j => by
  show ((List.replicate j [c]).flatten.toArray).toList = _
  induction j with
  | zero => rfl
  | succ j ih => rw [List.replicate_succ, List.flatten_cons, List.replicate_succ, ← ih]; rfl
theorem zs_inj {c i j : Nat} (h : zs c i = zs c j) : i = j := by
  have := congrArg (fun s : Str => s.cps.toList.length) h
  rw [zs_l, zs_l, List.length_replicate, List.length_replicate] at this
  exact this
theorem zs_ok {c j : Nat} (h : c < 1114112) : sOk (zs c j) := sOk_of fun x hx => by
  rw [zs_l] at hx
  rw [List.eq_of_mem_replicate hx]; exact h
theorem zs_mul {s : Str} {c j : Nat} (h : s.cps.toList = [c]) (hj : j ≤ 100) : mulP (.str s) (.int (j : Nat)) = some (.str (zs c j)) := by
  have hl : s.length = 1 := by show s.cps.size = 1; rw [← Array.length_toList, h]; rfl
  show (if (decide ((0 : Int) ≤ ((j : Nat) : Int)) && decide (((j : Nat) : Int) ≤ 1000) && decide (s.length ≤ 1000)) = true then some (P.str ⟨(List.replicate ((j : Nat) : Int).toNat s.cps.toList).flatten.toArray⟩) else none) = _
  rw [if_pos (by rw [decide_eq_true (by omega), decide_eq_true (by omega), decide_eq_true (by omega)]; rfl), h]
  rfl
theorem in_strs (x : Str) (l : List Str) : inP (.str x) (.lst (l.map P.str)) = some (l.contains x) := by
  show (if ((true && (l.map P.str).all sc) || _) = true then some ((l.map P.str).any fun z => eqP z (.str x)) else none) = _
  rw [all_sc, if_pos (by simp), any_str]
def zw (c : Nat) (N : Nat) (names : List Str) : List Nat := (List.range' 1 N).filter fun j => !names.contains (zs c j)
theorem i_rng {cf : Nat → List D → Mem → Out D} {mt : Nat → Nat → Option Nat} {ρ : Env} {m : Mem} {N : Nat} (h : N = 7 ∨ N = 8) : evI cf mt (.rng (.lit (.int 1)) (.lit (.int ((N : Nat) + 1)))) ρ m = .ok ((List.range' 1 N).map (fun (j : Nat) => P.int (j : Nat)), fun _ => true) m := by
  rcases h with rfl | rfl <;> rfl
theorem z_comp {cf : Nat → List D → Mem → Out D} {mt : Nat → Nat → Option Nat} {ρ : Env} {m : Mem} {s : Str} {c N v : Nat} {F : CE} {names : List Str} (hs : s.cps.toList = [c]) (hN : N = 7 ∨ N = 8) (hv : v < ρ.length) (hF : ∀ j : Nat, evE cf mt F ((ρ.set v none).set v (some (.p (.int (j : Nat))))) m = .ok (.p (.lst (names.map P.str))) m) : evE cf mt (.comp (.bin .mul (.lit (.str s)) (.var v)) (.nm v) (.rng (.lit (.int 1)) (.lit (.int ((N : Nat) + 1)))) (.cons (.cmp .notin (.bin .mul (.lit (.str s)) (.var v)) F) .nil)) ρ m = .ok (.p (.lst ((zw c N names).map fun j => P.str (zs c j)))) m := by
  have e := e_compE (cf := cf) (mt := mt) (ρ := ρ) (m := m) (elt := .bin .mul (.lit (.str s)) (.var v)) (tg := .nm v) (ifs := .cons (.cmp .notin (.bin .mul (.lit (.str s)) (.var v)) F) .nil) (enc := fun (j : Nat) => P.int (j : Nat)) (L := List.range' 1 N) (f := fun j => if !names.contains (zs c j) then [P.str (zs c j)] else []) (i_rng hN) rfl rfl (fun j hj => ?_) ?_
  · rw [flatMap_if (q := fun j => !names.contains (zs c j)) (f := fun j => P.str (zs c j))] at e
    exact e
  · have hj9 : j ≤ 9 := by
      have := List.mem_range'_1.mp hj
      omega
    have hm : ∀ ρ' : Env, (ρ'[v]?).bind id = some (.p (.int (j : Nat))) → evE cf mt (.bin .mul (.lit (.str s)) (.var v)) ρ' m = .ok (.p (.str (zs c j))) m := fun ρ' h => e_bin (op := .mul) (e_lit _) (e_var h) rfl rfl (zs_mul hs (by omega))
    have hg : (((ρ.set v none).set v (some (.p (.int (j : Nat)))))[v]?).bind id = some (D.p (.int (j : Nat))) := by
      rw [List.getElem?_set_self (by simpa using hv)]; rfl
    have hc : evIfs cf mt (.cons (.cmp .notin (.bin .mul (.lit (.str s)) (.var v)) F) .nil) ((ρ.set v none).set v (some (.p (.int (j : Nat))))) m = .ok (!names.contains (zs c j)) m := by
      refine if_one (d := .p (.bl (!names.contains (zs c j)))) (e_cmp (x := .p (.str (zs c j))) (hm _ hg) (hF j) ?_) rfl
      show (inP (.str (zs c j)) (.lst (names.map P.str))).map not = _
      rw [in_strs]; rfl
    cases hb : !names.contains (zs c j) with
    | true => rw [hb] at hc; exact st_yes rfl hc (hm _ hg)
    | false => rw [hb] at hc; exact st_no rfl hc
  · rw [flatMap_if (q := fun j => !names.contains (zs c j)) (f := fun j => P.str (zs c j)), List.length_map]
    refine Nat.le_trans (List.length_filter_le _ _) ?_
    rw [List.length_range']
    unfold line
    omega
theorem nd_leG {α : Type} [DecidableEq α] : ∀ (l l' : List α), l.Nodup → (∀ x ∈ l, x ∈ l') → l.length ≤ l'.length
  | [], _, _, _ => Nat.zero_le _
  | x :: l, l', nd, h => by
    rw [List.nodup_cons] at nd
    have hx := h x (List.mem_cons_self ..)
    have ih := nd_leG l (l'.erase x) nd.2 fun y hy => by
      have hne : y ≠ x := fun e => nd.1 (e ▸ hy)
      exact (List.mem_erase_of_ne hne).mpr (h y (List.mem_cons_of_mem _ hy))
    rw [List.length_erase_of_mem hx] at ih
    have : 0 < l'.length := List.length_pos_of_mem hx
    rw [List.length_cons]
    omega
theorem zw_ne {c : Nat} {names : List Str} (h : names.length ≤ 6) : ∃ j rest, zw c 7 names = j :: rest := by
  cases hz : zw c 7 names with
  | cons j rest => exact ⟨j, rest, rfl⟩
  | nil =>
    exfalso
    have hall : ∀ j ∈ List.range' 1 7, zs c j ∈ names := fun j hj => by
      apply Classical.byContradiction
      intro q
      have : j ∈ zw c 7 names := List.mem_filter.mpr ⟨hj, by simpa using q⟩
      rw [hz] at this
      cases this
    have nd : ((List.range' 1 7).map (zs c)).Nodup := by
      have := List.nodup_range' (s := 1) (n := 7) (step := 1) 
      exact List.Pairwise.map (zs c) (fun a b hab e => hab (zs_inj e)) this
    have := nd_leG _ names nd fun x hx => by
      obtain ⟨j, hj, rfl⟩ := List.mem_map.mp hx
      exact hall j hj
    rw [List.length_map, List.length_range'] at this
    omega
theorem deeps_le {k : Nat} : ∀ {l : List P}, (∀ w ∈ l, deep w ≤ k) → deeps l ≤ k
  | [], _ => Nat.zero_le _
  | w :: l, h => by
    unfold deeps
    have := h w (List.mem_cons_self ..)
    have := deeps_le fun v hv => h v (List.mem_cons_of_mem _ hv)
    omega
theorem flat_tupS {l : List Str} (h : ∀ v ∈ l, sOk v) : flat (tupS l) = true := by unfold tupS flat; exact flats_strs h
theorem deep_tupS (l : List Str) : deep (tupS l) = 1 := by unfold tupS deep; rw [deeps_strs]
theorem flat_fin {f : Fi} (h : ∀ v ∈ f.vals, sOk v) (h2 : ∀ v ∈ f.nms, sOk v) : flat f.p = true ∧ deep f.p ≤ 2 := by
  have a : ∀ s : Str, s = "stop" ∨ s = "go" ∨ s = "when" → PyData.strOk s = true := fun s hs => by
    rcases hs with rfl | rfl | rfl <;> decide +kernel
  cases f with
  | stop l =>
    unfold Fi.p
    refine ⟨?_, by simp [deep, deeps, deep_tupS]⟩
    simp only [flat, flats, a "stop" (.inl rfl), flat_tupS (l := l) h]; rfl
  | go n l =>
    unfold Fi.p
    refine ⟨?_, by simp [deep, deeps, deep_tupS]⟩
    simp only [flat, flats, a "go" (.inr (.inl rfl)), show PyData.strOk n = true from h2 n (by simp [Fi.nms]), flat_tupS (l := l) h]; rfl
  | whn x n l k q =>
    unfold Fi.p
    refine ⟨?_, by simp [deep, deeps, deep_tupS]⟩
    simp only [flat, flats, a "when" (.inr (.inr rfl)), show PyData.strOk n = true from h2 n (by simp [Fi.nms]), show PyData.strOk k = true from h2 k (by simp [Fi.nms]), show PyData.strOk x = true from h x (by simp [Fi.vals]), flat_tupS (l := l) (fun v hv => h v (by simp [Fi.vals, hv])), flat_tupS (l := q) (fun v hv => h v (by simp [Fi.vals, hv]))]; rfl
theorem deep_row (r : Rw) : deep r.p = 1 := by cases r <;> rfl
theorem okD_row {r : Rw} (h : ∀ s ∈ r.strs, sOk s) : okD r.p = true := by
  unfold okD
  rw [flat_row h, deep_row]; rfl
theorem flat_rows {rows : List Rw} (h : ∀ r ∈ rows, ∀ s ∈ r.strs, sOk s) : flat (rowsP rows) = true ∧ deep (rowsP rows) ≤ 2 := by
  refine ⟨by unfold rowsP flat; exact flats_map fun r hr => flat_row (h r hr), ?_⟩
  unfold rowsP deep
  have := deeps_le (k := 1) (l := rows.map Rw.p) fun w hw => by
    obtain ⟨r, _, rfl⟩ := List.mem_map.mp hw
    rw [deep_row]; exact Nat.le_refl 1
  omega
/-- all its texts are texts -/
structure SOk (b : Blk) : Prop where
  nm : sOk b.name
  tk : ∀ v ∈ b.takes, sOk v
  rw_ : ∀ r ∈ b.rows, ∀ s ∈ r.strs, sOk s
  vl : ∀ v ∈ b.fin.vals, sOk v
  gn : ∀ v ∈ b.fin.nms, sOk v
theorem flat_blk {b : Blk} (h : SOk b) : flat b.p = true ∧ deep b.p ≤ 4 := by
  have f := flat_fin h.vl h.gn
  have r := flat_rows h.rw_
  unfold Blk.p
  refine ⟨?_, ?_⟩
  · simp only [flat, flats, show PyData.strOk b.name = true from h.nm, flat_tupS h.tk, f.1, r.1]; rfl
  · have : deep (.tup [.str b.name, tupS b.takes, rowsP b.rows, b.fin.p]) = max (deep (.str b.name)) (max (deep (tupS b.takes)) (max (deep (rowsP b.rows)) (max (deep b.fin.p) 0))) + 1 := by simp [deep, deeps]
    rw [this, deep_tupS]
    have : deep (.str b.name) = 0 := rfl
    omega
theorem okD_blk {b : Blk} (h : SOk b) : okD b.p = true := by
  unfold okD
  have := flat_blk h
  rw [this.1, decide_eq_true (by omega)]; rfl
theorem okD_blks {t : List Blk} (h : ∀ b ∈ t, SOk b) : okD (.lst (t.map Blk.p)) = true ∧ okD (.tup (t.map Blk.p)) = true := by
  have f : flats (t.map Blk.p) = true := flats_map fun b hb => (flat_blk (h b hb)).1
  have g : deeps (t.map Blk.p) ≤ 4 := deeps_le fun w hw => by
    obtain ⟨b, hb, rfl⟩ := List.mem_map.mp hw
    exact (flat_blk (h b hb)).2
  unfold okD flat deep
  rw [f, decide_eq_true (by omega)]
  exact ⟨rfl, rfl⟩
theorem BOk.sok {b : Blk} (h : BOk b) (ht : ∀ v ∈ b.takes, sOk v) : SOk b := by
  refine ⟨h.nok, ht, h.wf.ok, fun v hv => ?_, h.fok⟩
  rcases List.mem_append.mp (h.vals v hv) with hv | hv
  · exact ht v hv
  · obtain ⟨r, r1, r2⟩ := List.mem_filterMap.mp hv
    refine h.wf.ok r r1 v ?_
    cases r <;> cases r2 <;> simp [Rw.strs]
end Lot
namespace Lot
open PySem
/-! ### == both ways about -/
mutual
theorem eqP_symm : ∀ a b : P, eqP a b = eqP b a
  | .tup x, .tup y => by simp only [eqP]; exact eqPs_symm x y
  | .lst x, .lst y => by simp only [eqP]; exact eqPs_symm x y
  | .non, b => by cases b <;> simp [eqP]
  | .bl a, b => by cases b <;> simp [eqP, Bool.beq_comm, eq_comm]
  | .int a, b => by cases b <;> simp [eqP, Bool.beq_comm, eq_comm]
  | .str a, b => by cases b <;> simp [eqP, Bool.beq_comm, eq_comm]
  | .tup x, .non | .tup x, .bl _ | .tup x, .int _ | .tup x, .str _ | .tup x, .lst _ | .tup x, .dic .. | .tup x, .set _ | .tup x, .ins .. | .tup x, .exc .. => by simp [eqP]
  | .lst x, .non | .lst x, .bl _ | .lst x, .int _ | .lst x, .str _ | .lst x, .tup _ | .lst x, .dic .. | .lst x, .set _ | .lst x, .ins .. | .lst x, .exc .. => by simp [eqP]
  | .dic .., b => by cases b <;> simp [eqP]
  | .set .., b => by cases b <;> simp [eqP]
  | .ins .., b => by cases b <;> simp [eqP]
  | .exc .., b => by cases b <;> simp [eqP]
theorem eqPs_symm : ∀ a b : List P, eqPs a b = eqPs b a
  | [], [] => rfl
  | [], _ :: _ => rfl
  | _ :: _, [] => rfl
  | x :: xs, y :: ys => by simp only [eqPs]; rw [eqP_symm x y, eqPs_symm xs ys]
end
theorem rdiff_symm : ∀ R S : List Rw, rdiff R S = rdiff S R
  | [], [] => rfl
  | [], _ :: _ => rfl
  | _ :: _, [] => rfl
  | r :: R, s :: S => by unfold rdiff; rw [eqP_symm r.p s.p, rdiff_symm R S]
theorem fdiff_symm : ∀ (X Y : List Blk) (k : Nat), fdiff k X Y = fdiff k Y X
  | [], [], _ => rfl
  | [], _ :: _, _ => rfl
  | _ :: _, [], _ => rfl
  | x :: X, y :: Y, k => by unfold fdiff; rw [eqP_symm x.p y.p, fdiff_symm X Y (k + 1), rdiff_symm]
theorem fdiff_refl : ∀ (X : List Blk) (k : Nat), (∀ b ∈ X, SOk b) → fdiff k X X = none
  | [], _, _ => rfl
  | x :: X, k, h => by
    unfold fdiff
    rw [eqP_refl _ (flat_blk (h x (List.mem_cons_self ..))).1, if_pos rfl]
    exact fdiff_refl X (k + 1) fun b hb => h b (List.mem_cons_of_mem _ hb)
/-! ### plain forms are of texts, too -/
structure FI (s : St) (n : Nat) : Prop where
  nm : ∀ kv ∈ s.nm, sOk kv.2
  fd : ∀ r ∈ s.fd, ∀ x ∈ r.strs, sOk x
  len : s.fd.length ≤ n
theorem fN_sok {nm : List (Str × Str)} (h : ∀ kv ∈ nm, sOk kv.2) (v : Str) : sOk (fN nm v) := by
  unfold fN
  cases hl : nm.lookup v with
  | none => show PyData.strOk ⟨#[]⟩ = true; decide +kernel
  | some w => exact h _ (lookup_mem hl)
theorem strs_ren {f : Str → Str} (hf : ∀ v, sOk (f v)) {r : Rw} (h : ∀ x ∈ r.strs, sOk x) : ∀ x ∈ (r.ren f).strs, sOk x := fun x hx => by
  cases r <;> simp only [Rw.ren, Rw.strs, List.mem_cons, List.not_mem_nil, or_false] at hx h <;> grind
theorem strs_srt {r : Rw} (h : ∀ x ∈ r.strs, sOk x) : ∀ x ∈ r.srt.strs, sOk x := fun x hx => by
  cases r with
  | op w a y z =>
    unfold Rw.srt at hx
    split at hx <;> simp only [Rw.strs, List.mem_cons, List.not_mem_nil, or_false] at hx h <;> grind
  | _ => exact h x hx
theorem strs_re {a : Str} (ha : sOk a) {r : Rw} (h : ∀ x ∈ r.strs, sOk x) : ∀ x ∈ (r.re a).strs, sOk x := fun x hx => by
  cases r <;> simp only [Rw.re, Rw.strs, List.mem_cons, List.not_mem_nil, or_false] at hx h <;> grind
theorem strs_cand {rows : List Rw} (hr : ∀ r ∈ rows, ∀ x ∈ r.strs, sOk x) {nm : List (Str × Str)} (h : ∀ kv ∈ nm, sOk kv.2) (k : Nat) : ∀ x ∈ (cand rows nm k).strs, sOk x := by
  unfold cand
  cases hk : rows[k]? with
  | none => intro x hx; rw [show x = ⟨#[]⟩ from List.mem_singleton.mp hx]; show PyData.strOk ⟨#[]⟩ = true; decide +kernel
  | some r => exact strs_srt (strs_ren (fN_sok h) (hr r (List.mem_of_getElem? hk)))
theorem FI_nxt {rows : List Rw} (hr : ∀ r ∈ rows, ∀ x ∈ r.strs, sOk x) {s : St} {n : Nat} (I : FI s n) : FI (nxt rows s) (n + 1) := by
  unfold nxt
  cases ripe rows s.dn with
  | nil => exact ⟨I.nm, I.fd, by show s.fd.length ≤ n + 1; have := I.len; omega⟩
  | cons b ks =>
    show FI (putR rows s _) (n + 1)
    unfold putR
    cases mkAt rows (sel rows s.nm b ks) with
    | none =>
      refine ⟨I.nm, fun r h => ?_, by have := I.len; show (s.fd ++ [_]).length ≤ _; rw [List.length_append, List.length_singleton]; omega⟩
      rcases List.mem_append.mp h with h | h
      · exact I.fd r h
      · rw [List.mem_singleton] at h; subst h; exact strs_cand hr I.nm _
    | some x =>
      refine ⟨fun kv h => ?_, fun r h => ?_, by have := I.len; show (s.fd ++ [_]).length ≤ _; rw [List.length_append, List.length_singleton]; omega⟩
      · rcases List.mem_append.mp h with h | h
        · exact I.nm kv h
        · rw [List.mem_singleton] at h; subst h; exact letter_ok _
      · rcases List.mem_append.mp h with h | h
        · exact I.fd r h
        · rw [List.mem_singleton] at h; subst h; exact strs_re (letter_ok _) (strs_cand hr I.nm _)
theorem FI_run {rows : List Rw} (hr : ∀ r ∈ rows, ∀ x ∈ r.strs, sOk x) : ∀ (k : Nat) (s : St) (n : Nat), FI s n → FI (runN rows k s) (n + k)
  | 0, s, n, h => h
  | k + 1, s, n, h => by
    have := FI_run hr k (nxt rows s) (n + 1) (FI_nxt hr h)
    rw [show n + (k + 1) = n + 1 + k from by omega]
    exact this
theorem FI_end {b : Blk} (h : BOk b) : FI (endSt b.takes b.rows) b.rows.length := by
  have := FI_run h.wf.ok b.rows.length (st0 b.takes) 0 ⟨fun kv h => ?_, fun r h => (by cases h), Nat.le_refl _⟩
  · rw [Nat.zero_add] at this; exact this
  · obtain ⟨x, _, rfl⟩ := List.mem_map.mp h
    exact letter_ok _
theorem ren_nms (f : Str → Str) (a : Fi) : (a.ren f).nms = a.nms := by cases a <;> rfl
theorem ren_vals (f : Str → Str) (a : Fi) : (a.ren f).vals = a.vals.map f := by cases a <;> simp [Fi.ren, Fi.vals]
theorem pb_sok {b : Blk} (h : BOk b) : SOk b.pb := by
  have I := FI_end h
  refine ⟨h.nok, fun v hv => ?_, I.fd, fun v hv => ?_, fun v hv => ?_⟩
  · obtain ⟨k, _, rfl⟩ := List.mem_map.mp hv
    exact letter_ok _
  · have hv : v ∈ (b.fin.ren (fN (endSt b.takes b.rows).nm)).vals := hv
    rw [ren_vals] at hv
    obtain ⟨w, _, rfl⟩ := List.mem_map.mp hv
    exact fN_sok I.nm w
  · have hv : v ∈ (b.fin.ren (fN (endSt b.takes b.rows).nm)).nms := hv
    rw [ren_nms] at hv
    exact h.fok v hv
theorem pb_len {b : Blk} (h : BOk b) : b.pb.rows.length ≤ 100 := by
  have := (FI_end h).len
  have := h.wf.nr
  show (endSt b.takes b.rows).fd.length ≤ 100
  omega
theorem pb_okB {b : Blk} (h : BOk b) : okB b.pb := ⟨okD_blk (pb_sok h), fun r hr => okD_row ((pb_sok h).rw_ r hr)⟩
end Lot
/-! the plain form is alike to the block it is of -/
namespace Lot
open PySem
theorem letter_inj : ∀ i, i < 26 → ∀ j, j < 26 → letter i = letter j → i = j := by decide +kernel
section
variable {tk : List Str} {rows : List Rw}
structure PI (tk : List Str) (rows : List Rw) (s : St) : Prop where
  ok : Ok tk rows s
  fl : s.fd.length = s.dn.length
  row : ∀ (k i : Nat) (r : Rw), s.dn[k]? = some i → rows[i]? = some r → ∃ r', s.fd[k]? = some r' ∧ Like (fN s.nm) r r' ∧ (∀ v ∈ r.ends, v ∈ s.nm.map (·.1)) ∧ (∀ v, r.mk = some v → v ∈ s.nm.map (·.1))
  top : ∀ (k i : Nat), s.dn[k]? = some i → ∀ h ∈ hung rows i, ∃ j, j < k ∧ s.dn[j]? = some h
  let_ : ∀ (i : Nat) (kv : Str × Str), s.nm[i]? = some kv → kv.2 = letter i
  tls : s.nm.map (·.2) = (List.range tk.length).map letter ++ s.fd.filterMap Rw.mk
  kn : (s.nm.map (·.1)).Nodup
theorem fN_app {nm more : List (Str × Str)} {v : Str} (h : v ∈ nm.map (·.1)) : fN (nm ++ more) v = fN nm v := by
  obtain ⟨w, hw⟩ := lookup_some h
  unfold fN
  rw [lookup_app, hw]
theorem like_congr {f g : Str → Str} {r r' : Rw} (h : Like f r r') (h1 : ∀ v ∈ r.ends, g v = f v) (h2 : ∀ v, r.mk = some v → g v = f v) : Like g r r' := by
  have e : r.mv g = r.mv f := by
    cases r with
    | num x n => show Rw.num (g x) n = Rw.num (f x) n; rw [h2 x rfl]
    | op w x y z => show Rw.op w (g x) (g y) (g z) = Rw.op w (f x) (f y) (f z); rw [h2 x rfl, h1 y (by simp [Rw.ends]), h1 z (by simp [Rw.ends])]
    | read x c => show Rw.read (g x) c = Rw.read (f x) c; rw [h2 x rfl]
    | write c y => show Rw.write c (g y) = Rw.write c (f y); rw [h1 y (by simp [Rw.ends])]
    | out y => show Rw.out (g y) = Rw.out (f y); rw [h1 y (by simp [Rw.ends])]
  unfold Like
  rw [e]
  exact h
/-- what is put is alike -/
theorem like_put {f g : Str → Str} {r : Rw} (h1 : ∀ v ∈ r.ends, g v = f v) : (r.mk = none → Like g r ((r.ren f).srt)) ∧ (∀ x a, r.mk = some x → g x = a → Like g r (((r.ren f).srt).re a)) := by
  cases r with
  | num x n => exact ⟨fun h => (by cases h), fun u a hu ha => by cases hu; left; show Rw.num a n = Rw.num (g x) n; rw [ha]⟩
  | read x n => exact ⟨fun h => (by cases h), fun u a hu ha => by cases hu; left; show Rw.read a n = Rw.read (g x) n; rw [ha]⟩
  | write c y => exact ⟨fun _ => (by left; show Rw.write c (f y) = Rw.write c (g y); rw [h1 y (by simp [Rw.ends])]), fun u a hu => by cases hu⟩
  | out y => exact ⟨fun _ => (by left; show Rw.out (f y) = Rw.out (g y); rw [h1 y (by simp [Rw.ends])]), fun u a hu => by cases hu⟩
  | op w x y z =>
    refine ⟨fun h => (by cases h), fun u a hu ha => ?_⟩
    cases hu
    have hy := h1 y (by simp [Rw.ends])
    have hz := h1 z (by simp [Rw.ends])
    show Like g (.op w x y z) ((if w.even && ltT (f z) (f y) then Rw.op w x (f z) (f y) else Rw.op w x (f y) (f z)).re a)
    split
    · next h =>
      rw [Bool.and_eq_true] at h
      exact .inr ⟨h.1, by show Rw.op w a (f z) (f y) = Rw.op w (g x) (g z) (g y); rw [ha, hy, hz]⟩
    · exact .inl (by show Rw.op w a (f y) (f z) = Rw.op w (g x) (g y) (g z); rw [ha, hy, hz])
theorem like_mk {f : Str → Str} {r r' : Rw} (h : Like f r r') : r'.mk = r.mk.map f := by
  rcases h with rfl | ⟨_, rfl⟩ <;> cases r <;> rfl
theorem pi_nxt (W : WfB tk rows) {s : St} (I : PI tk rows s) (h : s.dn.length < rows.length) : PI tk rows (nxt rows s) := by
  obtain ⟨b, ks, e1, e2, e3, K', l'⟩ := ok_nxt W I.ok h
  generalize sel rows s.nm b ks = m at *
  have hm := mem_ripe.mp e3
  have hr : rows[m]? = some rows[m] := List.getElem?_eq_getElem hm.1
  generalize rows[m] = r at hr
  have hkn : ∀ v ∈ r.ends, v ∈ s.nm.map (·.1) := fun v hv => known W I.ok e3 hr hv
  have hc : cand rows s.nm m = (r.ren (fN s.nm)).srt := by unfold cand; rw [hr]
  have htop : ∀ (k i : Nat), (s.dn ++ [m])[k]? = some i → ∀ h ∈ hung rows i, ∃ j, j < k ∧ (s.dn ++ [m])[j]? = some h := fun k i hk q hq => by
    by_cases hlt : k < s.dn.length
    · rw [List.getElem?_append_left hlt] at hk
      obtain ⟨j, h1, h2⟩ := I.top k i hk q hq
      exact ⟨j, h1, by rw [List.getElem?_append_left (by omega)]; exact h2⟩
    · have hk' : k = s.dn.length := by
        have := (List.getElem?_eq_some_iff.mp hk).1
        rw [List.length_append, List.length_singleton] at this
        omega
      subst hk'
      rw [List.getElem?_append_right (Nat.le_refl _), Nat.sub_self] at hk
      cases hk
      obtain ⟨j, hj⟩ := List.getElem?_of_mem (hm.2.2 q hq)
      have := (List.getElem?_eq_some_iff.mp hj).1
      exact ⟨j, this, by rw [List.getElem?_append_left this]; exact hj⟩
  rw [e2] at K' ⊢
  unfold putR at K' ⊢
  have hmk : mkAt rows m = r.mk := mkAt_some hr
  cases hx : mkAt rows m with
  | none =>
    rw [hx] at K'
    rw [hx] at hmk
    refine ⟨K', by show (s.fd ++ [_]).length = (s.dn ++ [m]).length; rw [List.length_append, List.length_append, I.fl]; rfl, fun k i q hk hi => ?_, htop, I.let_, ?_, I.kn⟩
    · have hk : (s.dn ++ [m])[k]? = some i := hk
      show ∃ r', (s.fd ++ [cand rows s.nm m])[k]? = some r' ∧ _
      by_cases hlt : k < s.dn.length
      · rw [List.getElem?_append_left hlt] at hk
        obtain ⟨r', a1, a2⟩ := I.row k i q hk hi
        exact ⟨r', by rw [List.getElem?_append_left (by rw [I.fl]; exact hlt)]; exact a1, a2⟩
      · have hk' : k = s.dn.length := by
          have := (List.getElem?_eq_some_iff.mp hk).1
          rw [List.length_append, List.length_singleton] at this
          omega
        subst hk'
        rw [List.getElem?_append_right (Nat.le_refl _), Nat.sub_self] at hk
        cases hk
        rw [hr] at hi
        cases hi
        refine ⟨cand rows s.nm m, by rw [List.getElem?_append_right (by rw [I.fl]; exact Nat.le_refl _), I.fl, Nat.sub_self]; rfl, ?_, hkn, fun v hv => by rw [← hmk] at hv; cases hv⟩
        rw [hc]
        exact (like_put fun v _ => rfl).1 hmk.symm
    · show s.nm.map (·.2) = _ ++ (s.fd ++ [cand rows s.nm m]).filterMap Rw.mk
      have : (cand rows s.nm m).mk = none := by
        rw [hc]
        have := like_mk ((like_put (f := fN s.nm) (g := fN s.nm) (r := r) fun v _ => rfl).1 hmk.symm)
        rw [this, ← hmk]; rfl
      rw [List.filterMap_append, I.tls]
      simp [this]
  | some x =>
    rw [hx] at K'
    rw [hx] at hmk
    have hxf : x ∉ s.nm.map (·.1) := fresh W I.ok hm.2.1 hx
    have hg : ∀ v ∈ s.nm.map (·.1), fN (s.nm ++ [(x, letter s.nm.length)]) v = fN s.nm v := fun v hv => fN_app hv
    have hgx : fN (s.nm ++ [(x, letter s.nm.length)]) x = letter s.nm.length := by
      unfold fN
      rw [lookup_app, lookup_none hxf]
      simp [List.lookup_cons]
    have hlike : Like (fN (s.nm ++ [(x, letter s.nm.length)])) r ((cand rows s.nm m).re (letter s.nm.length)) := by
      rw [hc]
      exact (like_put fun v hv => hg v (hkn v hv)).2 x _ hmk.symm hgx
    refine ⟨K', by show (s.fd ++ [_]).length = (s.dn ++ [m]).length; rw [List.length_append, List.length_append, I.fl]; rfl, fun k i q hk hi => ?_, htop, fun i kv hi => ?_, ?_, ?_⟩
    · have hk : (s.dn ++ [m])[k]? = some i := hk
      show ∃ r', (s.fd ++ [(cand rows s.nm m).re (letter s.nm.length)])[k]? = some r' ∧ Like (fN (s.nm ++ [(x, letter s.nm.length)])) q r' ∧ (∀ v ∈ q.ends, v ∈ (s.nm ++ [(x, letter s.nm.length)]).map (·.1)) ∧ (∀ v, q.mk = some v → v ∈ (s.nm ++ [(x, letter s.nm.length)]).map (·.1))
      have inl : ∀ v, v ∈ s.nm.map (·.1) → v ∈ (s.nm ++ [(x, letter s.nm.length)]).map (·.1) := fun v hv => by rw [List.map_append]; exact List.mem_append.mpr (.inl hv)
      by_cases hlt : k < s.dn.length
      · rw [List.getElem?_append_left hlt] at hk
        obtain ⟨r', a1, a2, a3, a4⟩ := I.row k i q hk hi
        exact ⟨r', by rw [List.getElem?_append_left (by rw [I.fl]; exact hlt)]; exact a1, like_congr a2 (fun v hv => hg v (a3 v hv)) (fun v hv => hg v (a4 v hv)), fun v hv => inl v (a3 v hv), fun v hv => inl v (a4 v hv)⟩
      · have hk' : k = s.dn.length := by
          have := (List.getElem?_eq_some_iff.mp hk).1
          rw [List.length_append, List.length_singleton] at this
          omega
        subst hk'
        rw [List.getElem?_append_right (Nat.le_refl _), Nat.sub_self] at hk
        cases hk
        rw [hr] at hi
        cases hi
        refine ⟨_, by rw [List.getElem?_append_right (by rw [I.fl]; exact Nat.le_refl _), I.fl, Nat.sub_self]; rfl, hlike, fun v hv => inl v (hkn v hv), fun v hv => ?_⟩
        rw [← hmk] at hv
        cases hv
        rw [List.map_append]
        exact List.mem_append.mpr (.inr (by simp))
    · have hi : (s.nm ++ [(x, letter s.nm.length)])[i]? = some kv := hi
      by_cases hlt : i < s.nm.length
      · rw [List.getElem?_append_left hlt] at hi
        exact I.let_ i kv hi
      · have hi' : i = s.nm.length := by
          have := (List.getElem?_eq_some_iff.mp hi).1
          rw [List.length_append, List.length_singleton] at this
          omega
        subst hi'
        rw [List.getElem?_append_right (Nat.le_refl _), Nat.sub_self] at hi
        cases hi
        rfl
    · show (s.nm ++ [(x, letter s.nm.length)]).map (·.2) = _ ++ (s.fd ++ [(cand rows s.nm m).re (letter s.nm.length)]).filterMap Rw.mk
      have : ((cand rows s.nm m).re (letter s.nm.length)).mk = some (letter s.nm.length) := by
        rw [like_mk hlike, ← hmk]
        show some (fN _ x) = _
        rw [hgx]
      rw [List.map_append, I.tls, List.filterMap_append, List.append_assoc]
      simp [this]
    · show ((s.nm ++ [(x, letter s.nm.length)]).map (·.1)).Nodup
      rw [List.map_append, List.nodup_append]
      exact ⟨I.kn, by simp, fun a ha c hc' => by rw [show c = x by simpa using hc']; exact fun e => hxf (e ▸ ha)⟩
theorem pi_run (W : WfB tk rows) : ∀ (n : Nat) (s : St), PI tk rows s → s.dn.length + n = rows.length → PI tk rows (runN rows n s)
  | 0, s, I, _ => I
  | n + 1, s, I, h => by
    obtain ⟨b, ks, _, _, _, K', l'⟩ := ok_nxt W I.ok (by omega)
    exact pi_run W n (nxt rows s) (pi_nxt W I (by omega)) (by omega)
theorem pi_st0 (W : WfB tk rows) : PI tk rows (st0 tk) := by
  have nd := W.nd
  rw [List.nodup_append] at nd
  refine ⟨ok_st0, rfl, fun k i r h => (by cases h), fun k i h => (by cases h), fun i kv hi => ?_, ?_, ?_⟩
  · have hi : (tk.zipIdx.map fun (x : Str × Nat) => (x.1, letter x.2))[i]? = some kv := hi
    rw [List.getElem?_map, List.getElem?_zipIdx] at hi
    cases e : tk[i]? with
    | none => rw [e] at hi; cases hi
    | some t => rw [e] at hi; cases hi; simp
  · show (tk.zipIdx.map fun (x : Str × Nat) => (x.1, letter x.2)).map (·.2) = (List.range tk.length).map letter ++ []
    rw [List.append_nil, List.map_map]
    have : tk.zipIdx.map ((fun (x : Str × Str) => x.2) ∘ fun (x : Str × Nat) => (x.1, letter x.2)) = (tk.zipIdx.map Prod.snd).map letter := by rw [List.map_map]; rfl
    rw [this, List.zipIdx_map_snd, List.range_eq_range']
  · show ((tk.zipIdx.map fun (x : Str × Nat) => (x.1, letter x.2)).map (·.1)).Nodup
    rw [List.map_map]
    show (tk.zipIdx.map Prod.fst).Nodup
    rw [List.zipIdx_map_fst]
    exact nd.1
theorem pi_end (W : WfB tk rows) : PI tk rows (endSt tk rows) ∧ (endSt tk rows).dn.length = rows.length := ⟨pi_run W _ _ (pi_st0 W) (by show 0 + _ = _; omega), (end_ok W).2⟩
end
end Lot
namespace Lot
open PySem
/-! ### alike blocks have one plain form -/
theorem iso_pb {b c : Blk} {π : Nat → Nat} {φ : Str → Str} (B : BOk b) (I : Iso b.takes b.rows c.takes c.rows π φ) (U : UQ b.takes b.rows) (hn : c.name = b.name) (hf : c.fin = b.fin.ren φ) : c.pb = b.pb := by
  have W := B.wf
  have R : SR b.rows π φ (endSt b.takes b.rows) (endSt c.takes c.rows) := by
    unfold endSt
    rw [I.len]
    have := sr_run W I U b.rows.length 0 (st0 c.takes) ok_st0 (sr_st0 I) (by show 0 + _ = _; omega)
    rw [Nat.zero_add] at this
    exact this
  have K := (end_ok W).1
  unfold Blk.pb
  rw [hn, R.fd]
  have e1 : c.takes.length = b.takes.length := by rw [I.tks, List.length_map]
  rw [e1]
  have e2 : c.fin.ren (fN (endSt c.takes c.rows).nm) = b.fin.ren (fN (endSt b.takes b.rows).nm) := by
    have hv : ∀ v ∈ b.fin.vals, fN (endSt c.takes c.rows).nm (φ v) = fN (endSt b.takes b.rows).nm v := fun v hv => fN_map I K R (B.vals v hv)
    rw [hf]
    cases h : b.fin with
    | stop l =>
      rw [h] at hv
      show Fi.stop _ = Fi.stop _
      rw [List.map_map]
      congr 1
      exact List.map_congr_left fun v hv' => hv v hv'
    | go n l =>
      rw [h] at hv
      show Fi.go n _ = Fi.go n _
      rw [List.map_map]
      congr 1
      exact List.map_congr_left fun v hv' => hv v hv'
    | whn x n l k q =>
      rw [h] at hv
      show Fi.whn _ n _ k _ = Fi.whn _ n _ k _
      rw [List.map_map, List.map_map, hv x (by simp [Fi.vals])]
      congr 1
      · exact List.map_congr_left fun v hv' => hv v (by simp [Fi.vals, hv'])
      · exact List.map_congr_left fun v hv' => hv v (by simp [Fi.vals, hv'])
  rw [e2]
/-! ### dependences of alike rows -/
theorem like_ends {f : Str → Str} {r r' : Rw} (h : Like f r r') (v : Str) : v ∈ r'.ends ↔ ∃ u ∈ r.ends, f u = v := by
  rcases h with rfl | ⟨_, rfl⟩ <;> cases r <;> simp [Rw.mv, Rw.turn, Rw.ends, eq_comm, or_comm]
theorem like_cell {f : Str → Str} {r r' : Rw} (h : Like f r r') : r'.cell = r.cell ∧ r'.isW = r.isW ∧ r'.isOut = r.isOut := by
  rcases h with rfl | ⟨_, rfl⟩ <;> cases r <;> exact ⟨rfl, rfl, rfl⟩
theorem hasO_iff {l : List Str} {o : Option Str} : hasO l o = true ↔ ∃ x, o = some x ∧ x ∈ l := by
  cases o with
  | none => simp [hasO]
  | some x => simp [hasO]
theorem like_dep {f : Str → Str} {r r' o o' : Rw} (h : Like f r r') (h2 : Like f o o') (inj : ∀ u x, u ∈ r.ends → o.mk = some x → f u = f x → u = x) : r'.dep o' = r.dep o := by
  have c1 := like_cell h
  have c2 := like_cell h2
  have e1 : r'.clash o' = r.clash o := by
    unfold Rw.clash clB
    rw [c1.1, c1.2.1, c1.2.2, c2.1, c2.2.1, c2.2.2]
  have e2 : hasO r'.ends o'.mk = hasO r.ends o.mk := by
    rw [Bool.eq_iff_iff, hasO_iff, hasO_iff, like_mk h2]
    constructor
    · rintro ⟨x, hx, hm⟩
      obtain ⟨u, hu, rfl⟩ := Option.map_eq_some_iff.mp hx
      obtain ⟨v, hv, e⟩ := (like_ends h _).mp hm
      exact ⟨u, hu, by rw [← inj v u hv hu e]; exact hv⟩
    · rintro ⟨x, hx, hm⟩
      exact ⟨f x, by rw [hx]; rfl, (like_ends h _).mpr ⟨x, hm, rfl⟩⟩
  unfold Rw.dep
  rw [e1, e2]
theorem clash_symm (r o : Rw) : r.clash o = o.clash r := by
  unfold Rw.clash clB
  rw [Bool.and_comm]
  congr 1
  cases r.cell <;> cases o.cell <;> simp [Bool.or_comm, eq_comm, Bool.beq_comm]
section
variable {tk : List Str} {rows : List Rw}
/-- the places of rows that go as what they hang on lets them: two orders have the same hanging -/
theorem dep_order (W : WfB tk rows) {i j : Nat} {r o : Rw} (hr : rows[i]? = some r) (ho : rows[j]? = some o) (hd : r.dep o = true) (hij : i < j) : o.dep r = true := by
  unfold Rw.dep at hd ⊢
  rw [Bool.or_eq_true] at hd ⊢
  rcases hd with hd | hd
  · exfalso
    obtain ⟨x, hx, hm⟩ := hasO_iff.mp hd
    have nd := W.nd
    rw [List.nodup_append] at nd
    rcases W.use i r hr x hm with h | ⟨k, o', h1, h2, h3⟩
    · exact nd.2.2 x h x (List.mem_filterMap.mpr ⟨o, List.mem_of_getElem? ho, hx⟩) rfl
    · have := fm_inj nd.2.1 (by rw [mkAt_some h2]; exact h3) (by rw [mkAt_some ho]; exact hx)
      omega
  · right
    rw [clash_symm]; exact hd
end
theorem nodup_at {α : Type} {l : List α} {i j : Nat} {x : α} (nd : l.Nodup) (h1 : l[i]? = some x) (h2 : l[j]? = some x) : i = j := by
  obtain ⟨a1, a2⟩ := List.getElem?_eq_some_iff.mp h1
  obtain ⟨b1, b2⟩ := List.getElem?_eq_some_iff.mp h2
  have p := List.pairwise_iff_getElem.mp nd
  rcases Nat.lt_trichotomy i j with h | h | h
  · exact absurd (a2.trans b2.symm) (p i j a1 b1 h)
  · exact h
  · exact absurd (b2.trans a2.symm) (p j i b1 a1 h)
/-- the place in the plain form's order -/
def pl (b : Blk) (j : Nat) : Nat := ((endSt b.takes b.rows).dn[j]?).getD 0
theorem known_all {b : Blk} (B : BOk b) {v : Str} (h : v ∈ b.takes ++ b.rows.filterMap Rw.mk) : v ∈ (endSt b.takes b.rows).nm.map (·.1) := end_all B.wf h
theorem fN_inj {b : Blk} (B : BOk b) {u v : Str} (hu : u ∈ b.takes ++ b.rows.filterMap Rw.mk) (hv : v ∈ b.takes ++ b.rows.filterMap Rw.mk) (e : fN (endSt b.takes b.rows).nm u = fN (endSt b.takes b.rows).nm v) : u = v := by
  have W := B.wf
  obtain ⟨P, hl⟩ := pi_end W
  have hnl : (endSt b.takes b.rows).nm.length ≤ 20 := by
    have := keys_len P.ok
    have := W.nt
    have := W.nr
    omega
  have at_ : ∀ w, w ∈ b.takes ++ b.rows.filterMap Rw.mk → ∃ i, (endSt b.takes b.rows).nm[i]? = some (w, fN (endSt b.takes b.rows).nm w) := fun w hw => by
    have h := (fN_ok P.ok (known_all B hw)).1
    exact List.getElem?_of_mem (lookup_mem h)
  obtain ⟨i, hi⟩ := at_ u hu
  obtain ⟨j, hj⟩ := at_ v hv
  have li := P.let_ i _ hi
  have lj := P.let_ j _ hj
  have h1 := (List.getElem?_eq_some_iff.mp hi).1
  have h2 := (List.getElem?_eq_some_iff.mp hj).1
  have : i = j := letter_inj i (by omega) j (by omega) (by rw [← li, ← lj]; exact e)
  subst this
  rw [hi] at hj
  cases hj
  rfl
theorem pb_iso {b : Blk} (B : BOk b) : Iso b.takes b.rows b.pb.takes b.pb.rows (pl b) (fN (endSt b.takes b.rows).nm) := by
  have W := B.wf
  obtain ⟨P, hl⟩ := pi_end W
  have K := P.ok
  have hdn : ∀ j, j < b.rows.length → (endSt b.takes b.rows).dn[j]? = some (pl b j) := fun j hj => by
    unfold pl
    rw [List.getElem?_eq_getElem (by rw [hl]; exact hj)]
    rfl
  have hlt : ∀ j, j < b.rows.length → pl b j < b.rows.length := fun j hj => K.lt _ (List.mem_of_getElem? (hdn j hj))
  have hinj : ∀ i j, i < b.rows.length → j < b.rows.length → pl b i = pl b j → i = j := fun i j hi hj e => by
    have h1 := hdn i hi
    have h2 := hdn j hj
    rw [e] at h1
    exact nodup_at K.nd h1 h2
  have hsur : ∀ k, k < b.rows.length → ∃ j, j < b.rows.length ∧ pl b j = k := fun k hk => by
    have hm : k ∈ (endSt b.takes b.rows).dn := by
      apply Classical.byContradiction
      intro q
      have := nd_le (k :: (endSt b.takes b.rows).dn) (List.range b.rows.length) (List.nodup_cons.mpr ⟨q, K.nd⟩) fun j hj => by
        rcases List.mem_cons.mp hj with rfl | hj
        · exact List.mem_range.mpr hk
        · exact List.mem_range.mpr (K.lt j hj)
      rw [List.length_range, List.length_cons, hl] at this
      omega
    obtain ⟨j, hj⟩ := List.getElem?_of_mem hm
    have hj' := (List.getElem?_eq_some_iff.mp hj).1
    rw [hl] at hj'
    have := hdn j hj'
    rw [this] at hj
    cases hj
    exact ⟨j, hj', rfl⟩
  have hrow : ∀ j r, j < b.rows.length → b.rows[pl b j]? = some r → ∃ r', b.pb.rows[j]? = some r' ∧ Like (fN (endSt b.takes b.rows).nm) r r' := fun j r hj hr => by
    obtain ⟨r', h1, h2, _⟩ := P.row j _ r (hdn j hj) hr
    exact ⟨r', h1, h2⟩
  have hends : ∀ {r : Rw} {k : Nat}, b.rows[k]? = some r → ∀ v ∈ r.ends, v ∈ b.takes ++ b.rows.filterMap Rw.mk := fun {r k} hr v hv => by
    rcases W.use k r hr v hv with h | ⟨j, o, _, h2, h3⟩
    · exact List.mem_append.mpr (.inl h)
    · exact List.mem_append.mpr (.inr (List.mem_filterMap.mpr ⟨o, List.mem_of_getElem? h2, h3⟩))
  refine ⟨by show (endSt b.takes b.rows).fd.length = _; rw [P.fl, hl], hlt, hinj, hsur, (end_takes W).symm, fun u v hu hv e => fN_inj B hu hv e, hrow, fun i j hi hj => ?_⟩
  obtain ⟨r, hr⟩ : ∃ r, b.rows[pl b j]? = some r := ⟨_, List.getElem?_eq_getElem (hlt j hj)⟩
  obtain ⟨o, ho⟩ : ∃ o, b.rows[pl b i]? = some o := ⟨_, List.getElem?_eq_getElem (hlt i hi)⟩
  obtain ⟨r', hr', lr⟩ := hrow j r hj hr
  obtain ⟨o', ho', lo⟩ := hrow i o hi ho
  have hd : r'.dep o' = r.dep o := like_dep lr lo fun u x hu hx e => fN_inj B (hends hr u hu) (List.mem_append.mpr (.inr (List.mem_filterMap.mpr ⟨o, List.mem_of_getElem? ho, hx⟩))) e
  rw [mem_hung hr', mem_hung hr]
  constructor
  · rintro ⟨h1, o2, h2, h3⟩
    rw [ho'] at h2
    cases h2
    rw [hd] at h3
    refine ⟨?_, o, ho, h3⟩
    rcases Nat.lt_trichotomy (pl b i) (pl b j) with h | h | h
    · exact h
    · exact absurd (hinj i j hi hj h) (by omega)
    · -- then the other one hangs on this one, and stands ahead of it
      have := (mem_hung ho).mpr ⟨h, r, hr, dep_order W hr ho h3 h⟩
      obtain ⟨q, h4, h5⟩ := P.top i _ (hdn i hi) _ this
      have h6 := (List.getElem?_eq_some_iff.mp h5).1
      rw [hl] at h6
      have h7 := hdn q h6
      rw [h5] at h7
      have := hinj q j h6 hj (Option.some.inj h7).symm
      omega
  · rintro ⟨h1, o2, h2, h3⟩
    rw [ho] at h2
    cases h2
    refine ⟨?_, o', ho', by rw [hd]; exact h3⟩
    obtain ⟨q, h4, h5⟩ := P.top j _ (hdn j hj) _ ((mem_hung hr).mpr ⟨h1, o, ho, h3⟩)
    have h6 := (List.getElem?_eq_some_iff.mp h5).1
    rw [hl] at h6
    have h7 := hdn q h6
    rw [h5] at h7
    have := hinj q i h6 hi (Option.some.inj h7).symm
    omega
/-- the plain form can be told plainly -/
theorem pb_ok {b : Blk} (B : BOk b) : BOk b.pb := by
  have W := B.wf
  obtain ⟨P, hl⟩ := pi_end W
  have I := pb_iso B
  have S := pb_sok B
  have hdn : ∀ j, j < b.rows.length → (endSt b.takes b.rows).dn[j]? = some (pl b j) := fun j hj => by
    unfold pl
    rw [List.getElem?_eq_getElem (by rw [hl]; exact hj)]
    rfl
  have hval : ∀ v, v ∈ b.takes ++ b.rows.filterMap Rw.mk → fN (endSt b.takes b.rows).nm v ∈ b.pb.takes ++ b.pb.rows.filterMap Rw.mk := fun v hv => by
    show _ ∈ (List.range b.takes.length).map letter ++ (endSt b.takes b.rows).fd.filterMap Rw.mk
    rw [← P.tls]
    exact List.mem_map.mpr ⟨_, lookup_mem (fN_ok P.ok (known_all B hv)).1, rfl⟩
  refine ⟨⟨fun k r' hk v hv => ?_, ?_, ?_, ?_, S.rw_⟩, fun v hv => ?_, ?_, B.nok, S.gn⟩
  · have hkl : k < b.rows.length := by have := (List.getElem?_eq_some_iff.mp hk).1; rw [I.len] at this; exact this
    obtain ⟨r, hr⟩ : ∃ r, b.rows[pl b k]? = some r := ⟨_, List.getElem?_eq_getElem (I.lt k hkl)⟩
    obtain ⟨r2, h1, lr⟩ := I.row k r hkl hr
    rw [h1] at hk
    cases hk
    obtain ⟨u, hu, rfl⟩ := (like_ends lr v).mp hv
    rcases W.use _ r hr u hu with h | ⟨j, o, h2, h3, h4⟩
    · left
      rw [I.tks]
      exact List.mem_map.mpr ⟨u, h, rfl⟩
    · right
      have hd : r.dep o = true := by
        unfold Rw.dep
        rw [hasO_iff.mpr ⟨u, h4, hu⟩]
        rfl
      have hh := (mem_hung hr).mpr ⟨h2, o, h3, hd⟩
      have hjl : j < b.rows.length := (List.getElem?_eq_some_iff.mp h3).1
      obtain ⟨i, hi, rfl⟩ := I.sur j hjl
      have := hung_lt ((I.dep i k hi hkl).mpr hh)
      obtain ⟨o', h5, lo⟩ := I.row i o hi h3
      exact ⟨i, o', this, h5, by rw [like_mk lo, h4]; rfl⟩
  · show ((List.range b.takes.length).map letter ++ (endSt b.takes b.rows).fd.filterMap Rw.mk).Nodup
    rw [← P.tls]
    have hnl : (endSt b.takes b.rows).nm.length ≤ 20 := by
      have := keys_len P.ok
      have := W.nt
      have := W.nr
      omega
    rw [List.nodup_iff_pairwise_ne, List.pairwise_iff_getElem]
    intro i j hi hj hij e
    rw [List.length_map] at hi hj
    rw [List.getElem_map, List.getElem_map] at e
    have li := P.let_ i _ (List.getElem?_eq_getElem hi)
    have lj := P.let_ j _ (List.getElem?_eq_getElem hj)
    rw [li, lj] at e
    have := letter_inj i (by omega) j (by omega) e
    omega
  · rw [I.tks, List.length_map]; exact W.nt
  · rw [I.len]; exact W.nr
  · have hv : v ∈ (b.fin.ren (fN (endSt b.takes b.rows).nm)).vals := hv
    rw [ren_vals] at hv
    obtain ⟨u, hu, rfl⟩ := List.mem_map.mp hv
    exact hval u (B.vals u hu)
  · show (b.fin.ren _).short
    have := B.short
    cases h : b.fin with
    | stop l => rw [h] at this; show (l.map _).length ≤ 20; rw [List.length_map]; exact this
    | go n l => rw [h] at this; show (l.map _).length ≤ 20; rw [List.length_map]; exact this
    | whn x n l k q => rw [h] at this; exact ⟨by rw [List.length_map]; exact this.1, by rw [List.length_map]; exact this.2⟩
/-- of that again itself -/
theorem pb_pb {b : Blk} (B : BOk b) (U : UQ b.takes b.rows) : b.pb.pb = b.pb := iso_pb B (pb_iso B) U rfl rfl
end Lot
namespace Lot
open PySem
theorem encS_inj {s t : Str} {A B : List Int} (h : encS s ++ A = encS t ++ B) : s = t ∧ A = B := by
  have n1 : ¬ (encS s ++ A < encS t ++ B) := by rw [h]; exact List.lt_irrefl _
  have n2 : ¬ (encS t ++ B < encS s ++ A) := by rw [h]; exact List.lt_irrefl _
  rw [lt_encS, not_or] at n1 n2
  have e : s = t := ltT_tri (by unfold ltT; exact decide_eq_false n1.1) (by unfold ltT; exact decide_eq_false n2.1)
  subst e
  exact ⟨rfl, List.append_cancel_left h⟩
section
variable {tk : List Str} {rows : List Rw}
theorem ripe_lt {s : St} (K : Ok tk rows s) {k : Nat} (h : k ∈ ripe rows s.dn) : s.dn.length < rows.length := by
  have hk := mem_ripe.mp h
  have := nd_le (k :: s.dn) (List.range rows.length) (List.nodup_cons.mpr ⟨hk.2.1, K.nd⟩) fun j hj => by
    rcases List.mem_cons.mp hj with rfl | hj
    · exact List.mem_range.mpr hk.1
    · exact List.mem_range.mpr (K.lt j hj)
  rw [List.length_range, List.length_cons] at this
  omega
theorem pi_all (W : WfB tk rows) : ∀ n, PI tk rows (runN rows n (st0 tk))
  | 0 => pi_st0 W
  | n + 1 => by
    have I := pi_all W n
    rw [← runN_succ]
    cases h : ripe rows (runN rows n (st0 tk)).dn with
    | nil =>
      have : nxt rows (runN rows n (st0 tk)) = runN rows n (st0 tk) := by unfold nxt; rw [h]
      rw [this]; exact I
    | cons b ks => exact pi_nxt W I (ripe_lt I.ok (k := b) (by rw [h]; exact List.mem_cons_self ..))
theorem pi_inj (W : WfB tk rows) {s : St} (I : PI tk rows s) {u v : Str} (hu : u ∈ s.nm.map (·.1)) (hv : v ∈ s.nm.map (·.1)) (e : fN s.nm u = fN s.nm v) : u = v := by
  have hnl : s.nm.length ≤ 20 := by
    have h1 := keys_len I.ok
    have h2 := W.nt
    have h3 := W.nr
    have h4 := nd_le s.dn (List.range rows.length) I.ok.nd fun j hj => List.mem_range.mpr (I.ok.lt j hj)
    rw [List.length_range] at h4
    omega
  obtain ⟨i, hi⟩ := List.getElem?_of_mem (lookup_mem (fN_ok I.ok hu).1)
  obtain ⟨j, hj⟩ := List.getElem?_of_mem (lookup_mem (fN_ok I.ok hv).1)
  have li := I.let_ i _ hi
  have lj := I.let_ j _ hj
  have h1 := (List.getElem?_eq_some_iff.mp hi).1
  have h2 := (List.getElem?_eq_some_iff.mp hj).1
  have : i = j := letter_inj i (by omega) j (by omega) (by rw [← li, ← lj]; exact e)
  subst this
  rw [hi] at hj
  cases hj
  rfl
theorem en_cases {f : Str → Str} {r o : Rw} (h : ((r.ren f).srt).en = ((o.ren f).srt).en) (inj : ∀ u v, u ∈ r.ends → v ∈ o.ends → f u = f v → u = v) :
    (∃ x y n, r = .num x n ∧ o = .num y n) ∨ (∃ w x y z x' y' z', r = .op w x y z ∧ o = .op w x' y' z' ∧ ((y = y' ∧ z = z') ∨ (w.even = true ∧ y = z' ∧ z = y'))) ∨ (∃ x y c, r = .read x c ∧ o = .read y c) ∨ (∃ c y z, r = .write c y ∧ o = .write c z) ∨ (∃ y z, r = .out y ∧ o = .out z) := by
  have hs : ∀ w x y z, ((Rw.op w x y z).ren f).srt = .op w x (f y) (f z) ∨ (w.even = true ∧ ((Rw.op w x y z).ren f).srt = .op w x (f z) (f y)) := fun w x y z => by
    show (if w.even && ltT (f z) (f y) then Rw.op w x (f z) (f y) else Rw.op w x (f y) (f z)) = _ ∨ (_ ∧ (if w.even && ltT (f z) (f y) then Rw.op w x (f z) (f y) else Rw.op w x (f y) (f z)) = _)
    split
    · next q =>
      rw [Bool.and_eq_true] at q
      exact .inr ⟨q.1, rfl⟩
    · exact .inl rfl
  have hidx : ∀ w x y z, (((Rw.op w x y z).ren f).srt).idx = (Rw.op w x y z).idx := fun w x y z => by
    rcases hs w x y z with e | ⟨_, e⟩ <;> rw [e] <;> cases w <;> rfl
  have hi : ((r.ren f).srt).idx = ((o.ren f).srt).idx := (List.cons.inj h).1
  have ht := (List.cons.inj h).2
  cases r with
  | num x n => cases o with
    | num y m =>
      left
      have : n = m := by simpa [Rw.ren, Rw.srt, Rw.tl, encP] using ht
      subst this
      exact ⟨x, y, n, rfl, rfl⟩
    | op w a b c => rw [hidx] at hi; cases w <;> simp [Rw.idx, Rw.ren, Rw.srt] at hi
    | _ => simp [Rw.idx, Rw.ren, Rw.srt] at hi
  | read x c => cases o with
    | read y c' =>
      right; right; left
      have ht : encS c ++ [] = encS c' ++ [] := by simpa [Rw.ren, Rw.srt, Rw.tl, encP] using ht
      obtain ⟨rfl, _⟩ := encS_inj ht
      exact ⟨x, y, c, rfl, rfl⟩
    | op w a b c' => rw [hidx] at hi; cases w <;> simp [Rw.idx, Rw.ren, Rw.srt] at hi
    | _ => simp [Rw.idx, Rw.ren, Rw.srt] at hi
  | write c y => cases o with
    | write c' z =>
      right; right; right; left
      have ht : encS c ++ (encS (f y) ++ []) = encS c' ++ (encS (f z) ++ []) := by simpa [Rw.ren, Rw.srt, Rw.tl, encP] using ht
      obtain ⟨rfl, _⟩ := encS_inj ht
      exact ⟨c, y, z, rfl, rfl⟩
    | op w a b c' => rw [hidx] at hi; cases w <;> simp [Rw.idx, Rw.ren, Rw.srt] at hi
    | _ => simp [Rw.idx, Rw.ren, Rw.srt] at hi
  | out y => cases o with
    | out z => exact .inr (.inr (.inr (.inr ⟨y, z, rfl, rfl⟩)))
    | op w a b c' => rw [hidx] at hi; cases w <;> simp [Rw.idx, Rw.ren, Rw.srt] at hi
    | _ => simp [Rw.idx, Rw.ren, Rw.srt] at hi
  | op w x y z => cases o with
    | op w' x' y' z' =>
      right; left
      have hw : w = w' := by
        rw [hidx, hidx] at hi
        cases w <;> cases w' <;> first | rfl | simp [Rw.idx] at hi
      subst hw
      refine ⟨w, x, y, z, x', y', z', rfl, rfl, ?_⟩
      have tls : ∀ a b u, (Rw.op w u a b).tl.flatMap encP = encS a ++ (encS b ++ []) := fun a b u => by simp [Rw.tl, encP]
      have k1 := inj y y' (by simp [Rw.ends]) (by simp [Rw.ends])
      have k2 := inj y z' (by simp [Rw.ends]) (by simp [Rw.ends])
      have k3 := inj z y' (by simp [Rw.ends]) (by simp [Rw.ends])
      have k4 := inj z z' (by simp [Rw.ends]) (by simp [Rw.ends])
      rcases hs w x y z with e1 | ⟨ev, e1⟩ <;> rcases hs w x' y' z' with e2 | ⟨ev2, e2⟩ <;> rw [e1, e2, tls, tls] at ht <;> obtain ⟨a1, a2⟩ := encS_inj ht <;> obtain ⟨a3, _⟩ := encS_inj a2
      · exact .inl ⟨k1 a1, k4 a3⟩
      · exact .inr ⟨ev2, k2 a1, k3 a3⟩
      · exact .inr ⟨ev, k2 a3, k3 a1⟩
      · exact .inl ⟨k1 a3, k4 a1⟩
    | _ => rw [hidx] at hi; cases w <;> simp [Rw.idx, Rw.ren, Rw.srt] at hi
theorem uq_of (W : WfB tk rows) (D : Dist rows) : UQ tk rows := fun n => by
  have I := pi_all W n
  generalize runN rows n (st0 tk) = s at I
  have half : ∀ j k, j < k → j ∈ ripe rows s.dn → k ∈ ripe rows s.dn → (cand rows s.nm j).en = (cand rows s.nm k).en → False := fun j k hjk hj hk e => by
    have mj := mem_ripe.mp hj
    have mk_ := mem_ripe.mp hk
    obtain ⟨r, hr⟩ : ∃ r, rows[j]? = some r := ⟨_, List.getElem?_eq_getElem mj.1⟩
    obtain ⟨o, ho⟩ : ∃ o, rows[k]? = some o := ⟨_, List.getElem?_eq_getElem mk_.1⟩
    unfold cand at e
    rw [hr, ho] at e
    have nohang : o.dep r = false := by
      cases q : o.dep r
      · rfl
      · exact absurd (mk_.2.2 j ((mem_hung ho).mpr ⟨hjk, r, hr, q⟩)) mj.2.1
    have noclash : o.clash r = false := by
      unfold Rw.dep at nohang
      rw [Bool.or_eq_false_iff] at nohang
      exact nohang.2
    rcases en_cases e (fun u v hu hv e => pi_inj W I (known W I.ok hj hr hu) (known W I.ok hk ho hv) e) with ⟨x, y, m, rfl, rfl⟩ | ⟨w, x, y, z, x', y', z', rfl, rfl, h⟩ | ⟨x, y, c, rfl, rfl⟩ | ⟨c, y, z, rfl, rfl⟩ | ⟨y, z, rfl, rfl⟩
    · exact D j k _ _ hjk hr ho rfl
    · exact D j k _ _ hjk hr ho ⟨rfl, h⟩
    · refine D j k _ _ hjk hr ho ⟨rfl, fun m q h1 h2 h3 h4 => ?_⟩
      have d1 : (Rw.read y c).dep q = true := by
        unfold Rw.dep Rw.clash clB
        rw [h4.2]
        simp [Rw.cell, h4.1]
      have d2 : q.dep (.read x c) = true := by
        unfold Rw.dep Rw.clash clB
        rw [h4.2]
        simp [Rw.cell, h4.1]
      have i1 := mk_.2.2 m ((mem_hung ho).mpr ⟨h2, q, h3, d1⟩)
      obtain ⟨p, hp⟩ := List.getElem?_of_mem i1
      obtain ⟨a, _, ha⟩ := I.top p m hp j ((mem_hung h3).mpr ⟨h1, _, hr, d2⟩)
      exact mj.2.1 (List.mem_of_getElem? ha)
    · unfold Rw.clash clB at noclash
      simp [Rw.cell, Rw.isW, Rw.isOut] at noclash
    · unfold Rw.clash clB at noclash
      simp [Rw.cell, Rw.isW, Rw.isOut] at noclash
  intro j k hj hk e
  rcases Nat.lt_trichotomy j k with h | h | h
  · exact (half j k h hj hk e).elim
  · exact h
  · exact (half k j h hk hj e.symm).elim
end
end Lot
/-! texts can be shown; found alike -/
namespace Lot
open PySem
mutual
def inB : P → Bool
  | .int i => decide (i.natAbs < 1073741824)
  | .lst l => inBs l
  | .tup l => inBs l
  | _ => true
def inBs : List P → Bool
  | [] => true
  | x :: r => inB x && inBs r
end
mutual
theorem show_p : ∀ x : P, flat x = true → inB x = true → (toPy x).showable = true
  | .non, _, _ => by simp only [toPy, PyData.showable]
  | .bl _, _, _ => by simp only [toPy, PyData.showable]
  | .str _, _, _ => by simp only [toPy, PyData.showable]
  | .int i, _, h => by
    simp only [toPy, PyData.showable]
    simp only [inB, decide_eq_true_eq] at h
    rw [decide_eq_true_eq]
    by_cases z : i.natAbs = 0
    · rw [z]; decide
    · rw [Nat.log2_lt z]
      exact Nat.lt_trans h (by rw [show (1073741824 : Nat) = 2 ^ 30 by decide]; exact Nat.pow_lt_pow_right (by decide) (by decide))
  | .lst l, h, h2 => by
    simp only [toPy, PyData.showable]
    unfold flat at h
    unfold inB at h2
    exact shows_p l h h2
  | .tup l, h, h2 => by
    simp only [toPy, PyData.showable]
    unfold flat at h
    unfold inB at h2
    exact shows_p l h h2
  | .dic .., h, _ => by simp [flat] at h
  | .set .., h, _ => by simp [flat] at h
  | .ins .., h, _ => by simp [flat] at h
  | .exc .., h, _ => by simp [flat] at h
theorem shows_p : ∀ l : List P, flats l = true → inBs l = true → PyData.showableAll (toPys l) = true
  | [], _, _ => by simp only [toPys, PyData.showableAll]
  | x :: r, h, h2 => by
    simp only [flats, Bool.and_eq_true] at h
    simp only [inBs, Bool.and_eq_true] at h2
    simp only [toPys, PyData.showableAll, Bool.and_eq_true]
    exact ⟨show_p x h.1 h2.1, shows_p r h.2 h2.2⟩
end
mutual
theorem short_p : ∀ x : P, flat x = true → inB x = true → (toPy x).intsShort 13 = true
  | .non, _, _ => by simp only [toPy, PyData.intsShort]
  | .bl _, _, _ => by simp only [toPy, PyData.intsShort]
  | .str _, _, _ => by simp only [toPy, PyData.intsShort]
  | .int i, _, h => by
    simp only [toPy, PyData.intsShort, decide_eq_true_eq]
    simp only [inB, decide_eq_true_eq] at h
    exact PyData.shown_int_le (Nat.lt_trans h (by decide))
  | .lst l, h, h2 => by
    simp only [toPy, PyData.intsShort]
    unfold flat at h
    unfold inB at h2
    exact shorts_p l h h2
  | .tup l, h, h2 => by
    simp only [toPy, PyData.intsShort]
    unfold flat at h
    unfold inB at h2
    exact shorts_p l h h2
  | .dic .., h, _ => by simp [flat] at h
  | .set .., h, _ => by simp [flat] at h
  | .ins .., h, _ => by simp [flat] at h
  | .exc .., h, _ => by simp [flat] at h
theorem shorts_p : ∀ l : List P, flats l = true → inBs l = true → PyData.intsShortAll 13 (toPys l) = true
  | [], _, _ => by simp only [toPys, PyData.intsShortAll]
  | x :: r, h, h2 => by
    simp only [flats, Bool.and_eq_true] at h
    simp only [inBs, Bool.and_eq_true] at h2
    simp only [toPys, PyData.intsShortAll, Bool.and_eq_true]
    exact ⟨short_p x h.1 h2.1, shorts_p r h.2 h2.2⟩
end
theorem inBs_map {α : Type} {f : α → P} : ∀ {l : List α}, (∀ a ∈ l, inB (f a) = true) → inBs (l.map f) = true
  | [], _ => rfl
  | a :: l, h => by
    rw [List.map_cons]
    unfold inBs
    rw [h a (List.mem_cons_self ..), inBs_map fun b hb => h b (List.mem_cons_of_mem _ hb)]
    rfl
theorem bulks {k : Nat} : ∀ {l : List P}, (∀ x ∈ l, (toPy x).bulk ≤ k) → PyData.bulkAll (toPys l) ≤ l.length * (k + 1)
  | [], _ => by simp [toPys, PyData.bulkAll]
  | x :: l, h => by
    have h1 := h x (List.mem_cons_self ..)
    have h2 := bulks fun y hy => h y (List.mem_cons_of_mem _ hy)
    simp only [toPys, PyData.bulkAll, List.length_cons]
    rw [Nat.succ_mul]
    omega
theorem bulk_tup {l : List P} {n k b : Nat} (hl : l.length ≤ n) (h : ∀ x ∈ l, (toPy x).bulk ≤ k) (hb : n * (k + 1) ≤ b) : (toPy (.tup l)).bulk ≤ b := by
  simp only [toPy, PyData.bulk]
  exact Nat.le_trans (bulks h) (Nat.le_trans (Nat.mul_le_mul_right _ hl) hb)
theorem bulk_str {s : Str} (h : s.length ≤ 8) : (toPy (.str s)).bulk ≤ 8 := by simp only [toPy, PyData.bulk]; exact h
theorem bulk_tupS {l : List Str} {n b : Nat} (hl : l.length ≤ n) (h : ∀ v ∈ l, v.length ≤ 8) (hb : n * 9 ≤ b) : (toPy (tupS l)).bulk ≤ b := bulk_tup (k := 8) (by rw [List.length_map]; exact hl) (fun x hx => by
  obtain ⟨v, hv, rfl⟩ := List.mem_map.mp hx
  exact bulk_str (h v hv)) hb
theorem inB_tupS (l : List Str) : inB (tupS l) = true := by unfold tupS inB; exact inBs_map fun _ _ => rfl
theorem row_small {r : Rw} (h : ∀ s ∈ r.strs, s.length ≤ 8) (hn : ∀ x n, r = .num x n → 0 ≤ n ∧ n < 1073741824) : (toPy r.p).bulk ≤ 36 ∧ inB r.p = true := by
  cases r with
  | num x n =>
    refine ⟨bulk_tup (n := 4) (k := 8) (by show 3 ≤ 4; decide) (fun y hy => ?_) (by decide), ?_⟩
    · simp only [List.mem_cons, List.not_mem_nil, or_false] at hy
      rcases hy with rfl | rfl | rfl
      · exact bulk_str (by decide)
      · exact bulk_str (h x (by simp [Rw.strs]))
      · simp [toPy, PyData.bulk]
    · have := hn x n rfl
      show (true && (true && (decide (n.natAbs < 1073741824) && true))) = true
      rw [decide_eq_true (by omega)]
      rfl
  | op w x y z =>
    refine ⟨bulk_tup (n := 4) (k := 8) (by show 4 ≤ 4; decide) (fun v hv => ?_) (by decide), rfl⟩
    simp only [List.mem_cons, List.not_mem_nil, or_false] at hv
    rcases hv with rfl | rfl | rfl | rfl
    · exact bulk_str (by cases w <;> decide)
    · exact bulk_str (h _ (by simp [Rw.strs]))
    · exact bulk_str (h _ (by simp [Rw.strs]))
    · exact bulk_str (h _ (by simp [Rw.strs]))
  | read x c =>
    refine ⟨bulk_tup (n := 4) (k := 8) (by show 3 ≤ 4; decide) (fun v hv => ?_) (by decide), rfl⟩
    simp only [List.mem_cons, List.not_mem_nil, or_false] at hv
    rcases hv with rfl | rfl | rfl
    · exact bulk_str (by decide)
    · exact bulk_str (h _ (by simp [Rw.strs]))
    · exact bulk_str (h _ (by simp [Rw.strs]))
  | write x c =>
    refine ⟨bulk_tup (n := 4) (k := 8) (by show 3 ≤ 4; decide) (fun v hv => ?_) (by decide), rfl⟩
    simp only [List.mem_cons, List.not_mem_nil, or_false] at hv
    rcases hv with rfl | rfl | rfl
    · exact bulk_str (by decide)
    · exact bulk_str (h _ (by simp [Rw.strs]))
    · exact bulk_str (h _ (by simp [Rw.strs]))
  | out x =>
    refine ⟨bulk_tup (n := 4) (k := 8) (by show 2 ≤ 4; decide) (fun v hv => ?_) (by decide), rfl⟩
    simp only [List.mem_cons, List.not_mem_nil, or_false] at hv
    rcases hv with rfl | rfl
    · exact bulk_str (by decide)
    · exact bulk_str (h _ (by simp [Rw.strs]))
theorem fin_small {f : Fi} (hs : f.short) (hv : ∀ v ∈ f.vals, v.length ≤ 8) (hg : ∀ v ∈ f.nms, v.length ≤ 8) : (toPy f.p).bulk ≤ 1086 ∧ inB f.p = true := by
  cases f with
  | stop l =>
    refine ⟨bulk_tup (n := 6) (k := 180) (by show 2 ≤ 6; decide) (fun v hv' => ?_) (by decide), ?_⟩
    · simp only [List.mem_cons, List.not_mem_nil, or_false] at hv'
      rcases hv' with rfl | rfl
      · exact Nat.le_trans (bulk_str (by decide)) (by decide)
      · exact bulk_tupS hs hv (by decide)
    · show (true && (inB (tupS l) && true)) = true
      rw [inB_tupS]; rfl
  | go n l =>
    refine ⟨bulk_tup (n := 6) (k := 180) (by show 3 ≤ 6; decide) (fun v hv' => ?_) (by decide), ?_⟩
    · simp only [List.mem_cons, List.not_mem_nil, or_false] at hv'
      rcases hv' with rfl | rfl | rfl
      · exact Nat.le_trans (bulk_str (by decide)) (by decide)
      · exact Nat.le_trans (bulk_str (hg _ (by simp [Fi.nms]))) (by decide)
      · exact bulk_tupS hs hv (by decide)
    · show (true && (true && (inB (tupS l) && true))) = true
      rw [inB_tupS]; rfl
  | whn x n l k q =>
    refine ⟨bulk_tup (n := 6) (k := 180) (by show 6 ≤ 6; decide) (fun v hv' => ?_) (by decide), ?_⟩
    · simp only [List.mem_cons, List.not_mem_nil, or_false] at hv'
      rcases hv' with rfl | rfl | rfl | rfl | rfl | rfl
      · exact Nat.le_trans (bulk_str (by decide)) (by decide)
      · exact Nat.le_trans (bulk_str (hv _ (by simp [Fi.vals]))) (by decide)
      · exact Nat.le_trans (bulk_str (hg _ (by simp [Fi.nms]))) (by decide)
      · exact bulk_tupS hs.1 (fun v h => hv v (by simp [Fi.vals, h])) (by decide)
      · exact Nat.le_trans (bulk_str (hg _ (by simp [Fi.nms]))) (by decide)
      · exact bulk_tupS hs.2 (fun v h => hv v (by simp [Fi.vals, h])) (by decide)
    · show (true && (true && (true && (inB (tupS l) && (true && (inB (tupS q) && true)))))) = true
      rw [inB_tupS, inB_tupS]; rfl
theorem blk_small {b : Blk} (B : BOk b) (S : K02.Small b) : (toPy b.p).bulk ≤ 4348 ∧ inB b.p = true := by
  have hv : ∀ v ∈ b.fin.vals, v.length ≤ 8 := fun v hv => by
    rcases List.mem_append.mp (B.vals v hv) with h | h
    · exact S.tk v h
    · obtain ⟨r, h1, h2⟩ := List.mem_filterMap.mp h
      refine S.rw_ r h1 v ?_
      cases r <;> cases h2 <;> simp [Rw.strs]
  have f := fin_small B.short hv S.gn
  have rs : (toPy (rowsP b.rows)).bulk ≤ 518 := bulk_tup (n := 14) (k := 36) (by rw [List.length_map]; exact B.wf.nr) (fun x hx => by
    obtain ⟨r, hr, rfl⟩ := List.mem_map.mp hx
    exact (row_small (S.rw_ r hr) (S.num r hr)).1) (by decide)
  refine ⟨bulk_tup (n := 4) (k := 1086) (by show 4 ≤ 4; decide) (fun x hx => ?_) (by decide), ?_⟩
  · simp only [List.mem_cons, List.not_mem_nil, or_false] at hx
    rcases hx with rfl | rfl | rfl | rfl
    · exact Nat.le_trans (bulk_str S.nm) (by decide)
    · exact Nat.le_trans (bulk_tupS (b := 54) B.wf.nt S.tk (by decide)) (by decide)
    · exact Nat.le_trans rs (by decide)
    · exact f.1
  · show (true && (inB (tupS b.takes) && (inB (rowsP b.rows) && (inB b.fin.p && true)))) = true
    rw [inB_tupS, f.2, show inB (rowsP b.rows) = true from by unfold rowsP inB; exact inBs_map fun r hr => (row_small (S.rw_ r hr) (S.num r hr)).2]
    rfl
theorem text_rep {t : List Blk} (hl : t.length ≤ 10) (h : ∀ b ∈ t, BOk b ∧ SOk b ∧ K02.Small b) : repOk (K02.textP t) = true := by
  have fl : flat (K02.textP t) = true := by unfold K02.textP flat; exact flats_map fun b hb => (flat_blk (h b hb).2.1).1
  have dp : deep (K02.textP t) ≤ 5 := by
    unfold K02.textP deep
    have := deeps_le (k := 4) (l := t.map Blk.p) fun w hw => by
      obtain ⟨b, hb, rfl⟩ := List.mem_map.mp hw
      exact (flat_blk (h b hb).2.1).2
    omega
  have ib : inB (K02.textP t) = true := by unfold K02.textP inB; exact inBs_map fun b hb => (blk_small (h b hb).1 (h b hb).2.2).2
  have bk : (toPy (K02.textP t)).bulk ≤ 2 ^ 20 := bulk_tup (n := 10) (k := 4348) (by rw [List.length_map]; exact hl) (fun x hx => by
    obtain ⟨b, hb, rfl⟩ := List.mem_map.mp hx
    exact (blk_small (h b hb).1 (h b hb).2.2).1) (by decide)
  have sh : (toPy (K02.textP t)).shown.length ≤ sizeLine := PyData.shown_fits_bulk (B := 13) (by decide) (by decide) (PyData.leavesShort_of_canLay0 13 _ (lay_py _ fl) (short_p _ fl ib)) bk
  unfold repOk
  rw [fl, show_p _ fl ib, decide_eq_true (show deep (K02.textP t) ≤ 64 by omega), decide_eq_true sh]
  rfl
end Lot
namespace Lot
open PySem
mutual
def wide : P → Bool
  | .lst l => decide (l.length ≤ 1000) && wides l
  | .tup l => decide (l.length ≤ 1000) && wides l
  | _ => true
def wides : List P → Bool
  | [] => true
  | x :: r => wide x && wides r
end
theorem wides_mem : ∀ {l : List P}, wides l = true → ∀ x ∈ l, wide x = true
  | y :: l, h, x, hx => by
    simp only [wides, Bool.and_eq_true] at h
    rcases List.mem_cons.mp hx with rfl | hx
    · exact h.1
    · exact wides_mem h.2 x hx
theorem flats_mem' : ∀ {l : List P}, flats l = true → ∀ x ∈ l, flat x = true
  | y :: l, h, x, hx => by
    simp only [flats, Bool.and_eq_true] at h
    rcases List.mem_cons.mp hx with rfl | hx
    · exact h.1
    · exact flats_mem' h.2 x hx
theorem deeps_mem : ∀ {l : List P}, ∀ x ∈ l, deep x ≤ deeps l
  | y :: l, x, hx => by
    unfold deeps
    rcases List.mem_cons.mp hx with rfl | hx
    · omega
    · have := deeps_mem x hx; omega
theorem wides_map {α : Type} {f : α → P} : ∀ {l : List α}, (∀ a ∈ l, wide (f a) = true) → wides (l.map f) = true
  | [], _ => rfl
  | a :: l, h => by
    rw [List.map_cons]
    unfold wides
    rw [h a (List.mem_cons_self ..), wides_map fun b hb => h b (List.mem_cons_of_mem _ hb)]
    rfl
theorem wide_tupS {l : List Str} (h : l.length ≤ 1000) : wide (tupS l) = true := by
  unfold tupS wide
  rw [List.length_map, decide_eq_true h, wides_map fun _ _ => rfl]; rfl
theorem wide_blk {b : Blk} (B : BOk b) : wide b.p = true := by
  have h1 : wide (tupS b.takes) = true := wide_tupS (by have := B.wf.nt; omega)
  have h2 : wide (rowsP b.rows) = true := by
    unfold rowsP wide
    rw [List.length_map, decide_eq_true (by have := B.wf.nr; omega), wides_map fun r _ => by cases r <;> rfl]; rfl
  have h3 : wide b.fin.p = true := by
    have := B.short
    cases h : b.fin with
    | stop l => rw [h] at this; show (true && (true && (wide (tupS l) && true))) = true; rw [wide_tupS (Nat.le_trans this (by decide))]; rfl
    | go n l => rw [h] at this; show (true && (true && (true && (wide (tupS l) && true)))) = true; rw [wide_tupS (Nat.le_trans this (by decide))]; rfl
    | whn x n l k q => rw [h] at this; show (true && (true && (true && (true && (wide (tupS l) && (true && (wide (tupS q) && true))))))) = true; rw [wide_tupS (Nat.le_trans this.1 (by decide)), wide_tupS (Nat.le_trans this.2 (by decide))]; rfl
  show (true && (true && (wide (tupS b.takes) && (wide (rowsP b.rows) && (wide b.fin.p && true))))) = true
  rw [h1, h2, h3]; rfl
namespace K02
variable {d : Nat} {M : Mem} {B : Nat}
theorem same_p : ∀ (n : Nat) (x : P), flat x = true → wide x = true → deep x ≤ n → prog.call (d + n + 1) i_law_same [.p x, .p x] M = .ok (.p (.bl true)) M
  | n, .non, _, _, _ => same_s rfl
  | n, .bl _, _, _, _ => same_s rfl
  | n, .int _, _, _, _ => same_s rfl
  | n, .str _, _, _, _ => same_s rfl
  | 0, .lst l, _, _, h => by simp [deep] at h
  | 0, .tup l, _, _, h => by simp [deep] at h
  | n + 1, .lst l, f, w, h => by
    unfold flat at f
    unfold wide at w
    unfold deep at h
    rw [Bool.and_eq_true, decide_eq_true_eq] at w
    exact call_same (d := d + n + 1) (same_lst (.inl rfl) w.1 fun y hy => same_p n y (flats_mem' f y hy) (wides_mem w.2 y hy) (by have := deeps_mem y hy; omega))
  | n + 1, .tup l, f, w, h => by
    unfold flat at f
    unfold wide at w
    unfold deep at h
    rw [Bool.and_eq_true, decide_eq_true_eq] at w
    exact call_same (d := d + n + 1) (same_lst (.inr rfl) w.1 fun y hy => same_p n y (flats_mem' f y hy) (wides_mem w.2 y hy) (by have := deeps_mem y hy; omega))
  | _, .dic .., h, _, _ => by simp [flat] at h
  | _, .set .., h, _, _ => by simp [flat] at h
  | _, .ins .., h, _, _ => by simp [flat] at h
  | _, .exc .., h, _, _ => by simp [flat] at h
abbrev lE (s t a b c e : Option D) : Env := [s, some (.ref 1 0), t, a, b, c, e]
def turnB : CSs := match getS 1 f_law.body with
  | .for _ _ b => b
  | _ => .nil
theorem turn_s {s u a b c e : Option D} (p : Pen M 1 B) (hB : B + 20000 < 1073741824) : ∃ (a' b' c' e' : Option D) (M' : Mem), evSs (prog.call (d + 8)) prog.mt turnB (lE s u a b c e) M = .ok (.nx (lE s u a' b' c' e')) M' ∧ Pen M' 1 (B + 6000) := by
  obtain ⟨q, M0, q1, q2, q3, q4⟩ := take_s (d := d + 6) p (by omega) (a := 3) (by decide)
  obtain ⟨bd, hbd, hbl⟩ : ∃ bd : Nat, ([P.int 9, P.int 9, P.int 14] : List P)[q]? = some (.int (bd : Nat)) ∧ bd ≤ 14 := by
    have : q = 0 ∨ q = 1 ∨ q = 2 := by omega
    rcases this with rfl | rfl | rfl
    · exact ⟨9, rfl, by decide⟩
    · exact ⟨9, rfl, by decide⟩
    · exact ⟨14, rfl, by decide⟩
  obtain ⟨t, M1, a1, a2, a3, a4, a5, a6⟩ := any_s (d := d + 2) (bl := 5) (tk := 6) (bd := bd) q4 (by omega) (by omega) (by omega) (by omega)
  have h : ∀ b ∈ t, BOk b := fun b hb => (a4 b hb).1
  have hs : ∀ b ∈ t, SOk b := fun b hb => (a4 b hb).1.sok (a4 b hb).2.2.2.1
  have l : t.length ≤ 100 := by omega
  let X := t.map Blk.pb
  have hX : ∀ b ∈ X, BOk b := fun b hb => by
    obtain ⟨x, hx, rfl⟩ := List.mem_map.mp hb
    exact pb_ok (h x hx)
  have sX : ∀ b ∈ X, SOk b := fun b hb => by
    obtain ⟨x, hx, rfl⟩ := List.mem_map.mp hb
    exact pb_sok (h x hx)
  have lX : X.length ≤ 100 := by show (t.map Blk.pb).length ≤ 100; rw [List.length_map]; exact l
  have hXX : X.map Blk.pb = X := by
    show (t.map Blk.pb).map Blk.pb = t.map Blk.pb
    rw [List.map_map]
    exact List.map_congr_left fun b hb => pb_pb (h b hb) (uq_of (h b hb).wf (a4 b hb).2.2.2.2.1)
  have rep : repOk (textP t) = true := text_rep (by omega) fun b hb => ⟨h b hb, hs b hb, (a4 b hb).2.2.2.2.2⟩
  have hr : ∀ (E : Env) (m : Mem), (E[3]?).bind id = some (.p (textP t)) → evE (prog.call (d + 8)) prog.mt (.prim .repr (.cons (.var 3) .nil)) E m = .ok (.p (.str (toPy (textP t)).shown)) m := fun E m hE => by
    refine e_prim (es_one (e_var hE)) ?_
    show pureO .repr [.p (textP t)] m = _
    unfold pureO
    rw [show rds [.p (textP t)] m = some [textP t] from rfl]
    dsimp only
    rw [show primP .repr [textP t] = some (.str (toPy (textP t)).shown) from if_pos rep]
    rfl
  have p1 := c_law_plain (d := d + 4) (m := M1) t h l
  have p2 := c_plain (d := d) (m := M1) t h l
  have p3 := c_plain (d := d) (m := M1) X hX lX
  rw [hXX] at p3
  have sm : prog.call (d + 8) i_law_same [.p (textP X), .p (textP X)] M1 = .ok (.p (.bl true)) M1 := by
    refine same_p (d := d + 2) 5 (textP X) ?_ ?_ ?_
    · unfold textP flat; exact flats_map fun b hb => (flat_blk (sX b hb)).1
    · unfold textP wide
      rw [List.length_map, decide_eq_true (by omega), wides_map fun b hb => wide_blk (hX b hb)]; rfl
    · unfold textP deep
      have := deeps_le (k := 4) (l := X.map Blk.p) fun w hw => by
        obtain ⟨b, hb, rfl⟩ := List.mem_map.mp hw
        exact (flat_blk (sX b hb)).2
      omega
  let T : Option D := some (.p (textP t))
  let Sh : Option D := some (.p (.str (toPy (textP t)).shown))
  let Du : Option D := some (.p (textP X))
  have z0 : evS (prog.call (d + 8)) prog.mt (getS 0 turnB) (lE s u a b c e) M = .ok (.nx (lE s u T b c e)) M1 := v_set (e_call (es_cons (e_var rfl) (es_cons (e_lit _) (es_two (e_lit _) (e_ix (x := .p (.lst [P.int 9, P.int 9, P.int 14])) (y := .p (.int (q : Nat))) (e_lst (ps_cons (e_lit _) (ps_cons (e_lit _) (ps_cons (e_lit _) ps_nil))) (by show 3 ≤ line; decide)) (e_call (es_two (e_var rfl) (e_lit _)) q1) (ixD_lst hbd))))) a1)
  have z1 : evS (prog.call (d + 8)) prog.mt (getS 1 turnB) (lE s u T b c e) M1 = .ok (.nx (lE s u T Sh c e)) M1 := v_set (hr _ _ rfl)
  have z2 : evS (prog.call (d + 8)) prog.mt (getS 2 turnB) (lE s u T Sh c e) M1 = .ok (.nx (lE s u T Sh Du e)) M1 := v_set (e_call (es_one (e_var rfl)) p1)
  have z3 : evS (prog.call (d + 8)) prog.mt (getS 3 turnB) (lE s u T Sh Du e) M1 = .ok (.nx (lE s u T Sh Du Du)) M1 := v_set (e_call (es_one (e_var rfl)) p2)
  have n1 : evE (prog.call (d + 8)) prog.mt (.not (.call 17 (.cons (.var 6) (.cons (.var 5) .nil)))) (lE s u T Sh Du Du) M1 = .ok (.p (.bl false)) M1 := e_not' (d := .p (.bl true)) (t := true) (e_call (es_two (e_var rfl) (e_var rfl)) sm) rfl
  have n2 : evE (prog.call (d + 8)) prog.mt (.not (.call 17 (.cons (.call 12 (.cons (.var 6) .nil)) (.cons (.var 5) .nil)))) (lE s u T Sh Du Du) M1 = .ok (.p (.bl false)) M1 := e_not' (d := .p (.bl true)) (t := true) (e_call (es_two (e_call (es_one (e_var rfl)) p3) (e_var rfl)) sm) rfl
  have n3 : evE (prog.call (d + 8)) prog.mt (.cmp .ne (.prim .repr (.cons (.var 3) .nil)) (.var 4)) (lE s u T Sh Du Du) M1 = .ok (.p (.bl false)) M1 := by
    refine e_cmp (x := .p (.str (toPy (textP t)).shown)) (y := .p (.str (toPy (textP t)).shown)) (hr _ _ rfl) (e_var rfl) ?_
    show some (!((toPy (textP t)).shown == (toPy (textP t)).shown)) = _
    rw [beq_self_eq_true]; rfl
  have hor : evE (prog.call (d + 8)) prog.mt (.or (.cons (.not (.call 17 (.cons (.var 6) (.cons (.var 5) .nil)))) (.cons (.not (.call 17 (.cons (.call 12 (.cons (.var 6) .nil)) (.cons (.var 5) .nil)))) (.cons (.cmp .ne (.prim .repr (.cons (.var 3) .nil)) (.var 4)) .nil)))) (lE s u T Sh Du Du) M1 = .ok (.p (.bl false)) M1 := (e_or n1 rfl).trans ((if_neg Bool.false_ne_true).trans ((e_or n2 rfl).trans ((if_neg Bool.false_ne_true).trans (e_or1.trans n3))))
  have z4 : evS (prog.call (d + 8)) prog.mt (getS 4 turnB) (lE s u T Sh Du Du) M1 = .ok (.nx (lE s u T Sh Du Du)) M1 := (v_ift_f hor rfl).trans ss_nil
  exact ⟨T, Sh, Du, Du, M1, (ss_nx z0).trans ((ss_nx z1).trans ((ss_nx z2).trans ((ss_nx z3).trans ((ss_nx z4).trans ss_nil)))), a6.mono (by omega)⟩
theorem ev : ∀ ns : List Int, ns.length ≤ 63 → ∃ m, sg.g.call 9 i_law [.scr ns] [] = .ok (.p (.bl true)) m := fun ns _ => by
  obtain ⟨cs, hc, ho⟩ := open_body (cf := prog.call 7) (mt := prog.mt) ns
  have ho := call_r (g := prog) (f := i_law_open) (q := f_law_open) (ds := [.scr ns]) rfl rfl ho
  have p0 : Pen (pm m0 1 cs 0 0) 1 0 := ⟨cs, 0, 0, rfl, by omega, Int.le_refl _, Int.le_refl _⟩
  obtain ⟨ρ', M', hfor, hI⟩ := for_inv (g := fun _ => true) (step := fun x ρ m => match bindTg (.nm 2) x ρ with
    | some ρ1 => evSs (prog.call 8) prog.mt turnB ρ1 m
    | none => .bad) (fun i ρ m => ∃ (u a b c e : Option D), ρ = lE (some (.scr ns)) u a b c e ∧ Pen m 1 (6000 * i)) (rngL 0 ((3 : Nat) : Int).toNat) (lE (some (.scr ns)) none none none none none) (pm m0 1 cs 0 0) 0 (by
      rintro i x ρ m hx ⟨u, a, b, c, e, rfl, hp⟩
      rw [Nat.zero_add] at hp ⊢
      have hi : i < 3 := by
        have := (List.getElem?_eq_some_iff.mp hx).1
        rw [rngL0, List.length_map, List.length_range] at this
        omega
      obtain ⟨a', b', c', e', M', h1, h3⟩ := turn_s (d := 0) (s := some (.scr ns)) (u := some (.p x)) (a := a) (b := b) (c := c) (e := e) hp (by omega)
      exact ⟨rfl, _, _, h1, _, _, _, _, _, rfl, h3.mono (by omega)⟩) (fun _ _ _ => rfl) ⟨none, none, none, none, none, rfl, p0⟩
  obtain ⟨u, a, b, c, e, rfl, hp⟩ := hI
  have hb : evSs (prog.call 8) prog.mt f_law.body [some (.scr ns), none, none, none, none, none, none] [] = .ok (.rt (.p (.bl true))) M' := by
    refine Eq.trans (ss_nx (v_set (e_call (es_one (e_var rfl)) ho))) ?_
    refine Eq.trans (ss_nx (v_for (i_rng1 (e := .lit (.int 3)) (j := ((3 : Nat) : Int)) (e_lit _) (by omega)) hfor)) ?_
    exact ss_rt rfl
  exact ⟨_, call_p (g := prog) (q := f_law) rfl rfl hb⟩
end K02
end Lot
namespace Lot
namespace K02
open PySem PySem.Spec PyProof.Rows L2

theorem hd : ∀ (f : Nat) q, sg.g.fns[f]? = some q → ∃ st, sts[f]? = some st ∧ defOf q st ∈ fnl ∧ fnB sg q st = true ∧ BindP q.name q.qual (q.names.take q.np) st
  | 0, q, h => by cases h; exact ⟨top 4, rfl, List.mem_of_getElem? (i := 0) rfl, ok0, bd0⟩
  | 1, q, h => by cases h; exact ⟨top 5, rfl, List.mem_of_getElem? (i := 1) rfl, ok1, bd1⟩
  | 2, q, h => by cases h; exact ⟨top 6, rfl, List.mem_of_getElem? (i := 2) rfl, ok2, bd2⟩
  | 3, q, h => by cases h; exact ⟨top 7, rfl, List.mem_of_getElem? (i := 3) rfl, ok3, bd3⟩
  | 4, q, h => by cases h; exact ⟨top 8, rfl, List.mem_of_getElem? (i := 4) rfl, ok4, bd4⟩
  | 5, q, h => by cases h; exact ⟨top 9, rfl, List.mem_of_getElem? (i := 5) rfl, ok5, bd5⟩
  | 6, q, h => by cases h; exact ⟨top 10, rfl, List.mem_of_getElem? (i := 6) rfl, ok6, bd6⟩
  | 7, q, h => by cases h; exact ⟨top 13, rfl, List.mem_of_getElem? (i := 7) rfl, ok7, bd7⟩
  | 8, q, h => by cases h; exact ⟨top 14, rfl, List.mem_of_getElem? (i := 8) rfl, ok8, bd8⟩
  | 9, q, h => by cases h; exact ⟨top 15, rfl, List.mem_of_getElem? (i := 9) rfl, ok9, bd9⟩
  | 10, q, h => by cases h; exact ⟨top 16, rfl, List.mem_of_getElem? (i := 10) rfl, ok10, bd10⟩
  | 11, q, h => by cases h; exact ⟨top 17, rfl, List.mem_of_getElem? (i := 11) rfl, ok11, bd11⟩
  | 12, q, h => by cases h; exact ⟨top 18, rfl, List.mem_of_getElem? (i := 12) rfl, ok12, bd12⟩
  | 13, q, h => by cases h; exact ⟨top 20, rfl, List.mem_of_getElem? (i := 13) rfl, ok13, bd13⟩
  | 14, q, h => by cases h; exact ⟨top 21, rfl, List.mem_of_getElem? (i := 14) rfl, ok14, bd14⟩
  | 15, q, h => by cases h; exact ⟨top 22, rfl, List.mem_of_getElem? (i := 15) rfl, ok15, bd15⟩
  | 16, q, h => by cases h; exact ⟨top 23, rfl, List.mem_of_getElem? (i := 16) rfl, ok16, bd16⟩
  | 17, q, h => by cases h; exact ⟨top 24, rfl, List.mem_of_getElem? (i := 17) rfl, ok17, bd17⟩
  | 18, q, h => by cases h; exact ⟨top 25, rfl, List.mem_of_getElem? (i := 18) rfl, ok18, bd18⟩
  | 19, q, h => by cases h; exact ⟨top 26, rfl, List.mem_of_getElem? (i := 19) rfl, ok19, bd19⟩
  | 20, q, h => by cases h; exact ⟨top 27, rfl, List.mem_of_getElem? (i := 20) rfl, ok20, bd20⟩
  | 21, q, h => by cases h; exact ⟨top 28, rfl, List.mem_of_getElem? (i := 21) rfl, ok21, bd21⟩
  | 22, q, h => by cases h; exact ⟨top 29, rfl, List.mem_of_getElem? (i := 22) rfl, ok22, bd22⟩
  | 23, q, h => by cases h; exact ⟨top 30, rfl, List.mem_of_getElem? (i := 23) rfl, ok23, bd23⟩
  | 24, q, h => by cases h; exact ⟨top 31, rfl, List.mem_of_getElem? (i := 24) rfl, ok24, bd24⟩
  | 25, q, h => by cases h; exact ⟨top 32, rfl, List.mem_of_getElem? (i := 25) rfl, ok25, bd25⟩
  | 26, q, h => by cases h; exact ⟨top 33, rfl, List.mem_of_getElem? (i := 26) rfl, ok26, bd26⟩
  | 27, q, h => by cases h; exact ⟨top 34, rfl, List.mem_of_getElem? (i := 27) rfl, ok27, bd27⟩
  | 28, q, h => by cases h; exact ⟨top 35, rfl, List.mem_of_getElem? (i := 28) rfl, ok28, bd28⟩
  | 29, q, h => by cases h; exact ⟨top 36, rfl, List.mem_of_getElem? (i := 29) rfl, ok29, bd29⟩
  | 30, q, h => by cases h; exact ⟨top 37, rfl, List.mem_of_getElem? (i := 30) rfl, ok30, bd30⟩
  | 31, q, h => by cases h; exact ⟨top 38, rfl, List.mem_of_getElem? (i := 31) rfl, ok31, bd31⟩
  | 32, q, h => by cases h; exact ⟨top 39, rfl, List.mem_of_getElem? (i := 32) rfl, ok32, bd32⟩
  | n + 33, q, h => by cases (show (none : Option Fn) = some q from h)
theorem hn : ∀ (j : Nat) q, sg.xs[j]? = some q → sg.G.lookup q.name = some (.xc j) := fun j q h => by cases j <;> cases (show (none : Option Xc) = some q from h)
theorem hi : ∀ (j : Nat) q, sg.xs[j]? = some q → q.own = true → ∃ st qual, ∃ (b : PySem.Str), ∃ N ps, (none : Option PySem.Str) = some b ∧ He.Fa.glo b ∈ fal ∧ iniOf q qual st ∈ fnl ∧ fscB N ps (defScope st) = true ∧ ps.length = q.flds.length + 1 ∧ N.length = q.flds.length + 1 ∧ initB ⟨N, defScope st, []⟩ b q.flds (defBody st) = true ∧ BindP "__init__" qual ps st := fun j q h _ => by cases j <;> cases (show (none : Option Xc) = some q from h)
theorem hfa : ∀ p ∈ sg.G, faOf p ∈ fal := fun p hp => List.mem_cons_of_mem _ (List.mem_map_of_mem hp)
theorem hg : gB sg = true := by decide +kernel
theorem fin_ {P : Program} {w : World} {K : PySem.W.Frag} {h : Heap} {mg : Str → Option Value} {fa' : Addr} (X : K.In h) (G : h.Ns mainGlobals mg) (c : He.SaysD fal fnl K) (cx : ex K = true) (hmg : mg "law" = some (.ref fa')) :
    ∃ (K : PySem.W.Frag) (fd : FuncData) (sp : Sp), K.In h ∧ (∀ (s : Shared) (u : Value), BindsTo s fd ⟨[u], []⟩ [("script", u)]) ∧
      (∀ (H : Hp) (a : Addr) (ns : List Int), ns.length ≤ 63 → Only H → SqL K H a (ns.map V.int) → sp [.ref a] H (fun v _ => v = .bl true) fun _ _ _ => False) ∧
      ∀ base : Heap, K.In base → base.Ns mainGlobals mg → FnG P w K mg base 12 fa' fd ["script"] sp := by
  have hl := He.glo_ok X G (c.fact 0 (f := .glo "law") rfl)
  rw [hl] at hmg
  cases hmg
  obtain ⟨fd, F⟩ := c.def_ 32 (d := defOf f_law (top 39)) rfl
  have cx1 : exB sg.xs none K = true := (Bool.and_eq_true_iff.mp cx).1
  have cx2 : gtB sg.G K = true := (Bool.and_eq_true_iff.mp cx).2
  exact law_end (S := sg) (P := P) (w := w) (mg := mg) (d := 8) (li := 32) (q := f_law) (st := top 39) X (tops_of (sts := sts) X G c hfa hg cx2 hd) (fun base => xcs_of X G c hfa hg cx1 base hn hi) (Nat.le_refl _) rfl rfl (by decide) rfl F ok32 bd32 rfl ev
end K02
end Lot
open PySem PySem.W PySem.Calls PyProof.Rows
theorem PySem.Challenge.cw_codelots_k02_plain_forms_holds : PySem.Challenge.rw_codelots_k02_plain_forms.Holds := by
  w_on; o_law
  refine HandSHeadRun.head_any (r := OpenLaw.row PySem.Challenge.rw_codelots_k02_plain_forms) (q := view (OpenLaw.row PySem.Challenge.rw_codelots_k02_plain_forms).prog [39]) (H := Lot.K02.hk) (ob := Lot.K02.ob) (M := 4000) (loose := Lot.K02.loose) (d := HandSHeadRun.topDef (OpenLaw.row PySem.Challenge.rw_codelots_k02_plain_forms).prog 39) (kwd := []) Lot.K02.ob_eq
    (by kernel_rfl) (fun s => by kernel_rfl) Lot.K02.run (by kernel_rfl) (by kernel_rfl) (by kernel_rfl) (by rfl) (by first | assumption | decide +kernel) (by decide +kernel) ⟨rfl, rfl, rfl, rfl, rfl, by decide +kernel⟩ ?hw ?hc
  case hw => w_witness2
  case hc =>
    refine Lot.walk_g (l := PySem.Challenge.rw_codelots_k02_plain_forms) (n := 63) (k := 12) (x := "script") rfl (by decide) (by kernel_rfl) ⟨rfl, by decide, by decide⟩ ?F
    intro w mg fa h Y G hmg0
    obtain ⟨K, KX, c, cx⟩ := Y
    have hmg : mg ("law" : PySem.Str) = some (.ref fa) := by
      have e : (HandSHeadRun.topDef (OpenLaw.row PySem.Challenge.rw_codelots_k02_plain_forms).prog 39).name = ("law" : PySem.Str) := by kernel_rfl
      rw [← e]
      exact hmg0
    exact Lot.K02.fin_ KX G c cx hmg
