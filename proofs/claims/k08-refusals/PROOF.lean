import PyProof.Rows.All
import PyProof.Lay0
import PyProof.EqLayable
import Wide.All
import OpenK.AllK
import Wide.FinOn
import HandS.ForMost
import HandS.TupAny
import HandS.SetKeys
import HandS.ExcInit
import HandS.ExcValue
import HandS.IsInst
import HandS.TupLe
import HandS.Deep
import HandS.Flow
import HandS.NoneIn
import HandS.CallLocal
import HandS.HeadWalk
import HandS.Walk
import HandS.Zip
import HandS.Rev
import HandS.Style
import HandS.SortInts
import HandS.WordsDict
import HandS.TupLen
import HandS.ExcField
import KE.KExcIs
import HandS.Words
import HandS.Defaults
import HandS.Head0
import HandS.Head1
import HandS.Head2
import HandS.HeadEnd
import HandS.HeadHook1
import HandS.HeadHook2
import HandS.HeadHook3
import HandS.HeadHook4
import KE.KStateDown
import PySem.Challenge.RW_codelots_k08_refusals_made_by_hand
set_option Elab.async false
set_option linter.all false
set_option maxRecDepth 100000
set_option maxHeartbeats 0
/-! LotA: a small language of the program's and the laws' own kind: its values, memory, terms, and what a term evaluates to. -/
namespace Lot
open PySem

/-- data (a dict: its items as pairs, t: whether its keys are tuples; an instance that no longer changes) -/
inductive P where
  | non | bl (b : Bool) | int (i : Int) | str (s : Str) | tup (l : List P) | lst (l : List P) | dic (t : Bool) (l : List P) | set (l : List P) | ins (c : Nat) (fs : List P) | exc (c : Nat) (fs : List P)
  deriving Inhabited

/-- a value: data; an object of the memory (k = 0) or the own object of its field k - 1; a def; the law's script; a tuple of the module's top -/
inductive D where
  | p (x : P) | ref (n k : Nat) | fn (i : Nat) | scr (l : List Int) | gt (l : List P)

/-- an object that may change: a list, dict or set by what it holds; an instance, its fields data (false) or objects of its own (true) -/
inductive Obj where
  | val (x : P) | ins (c : Nat) (fs : List (Bool × P)) | dead

abbrev Mem := List Obj

inductive Out (α : Type) where
  | ok (a : α) (m : Mem) | exn (c : Nat) (xs : List P) (m : Mem) | bad

def Out.bind {α β : Type} (o : Out α) (f : α → Mem → Out β) : Out β := match o with
  | .ok a m => f a m
  | .exn c xs m => .exn c xs m
  | .bad => .bad
def Out.of {α : Type} (o : Option α) (m : Mem) : Out α := match o with
  | some a => .ok a m
  | none => .bad

@[simp] theorem Out.bind_ok {α β : Type} (a : α) (m : Mem) (f : α → Mem → Out β) : (Out.ok a m).bind f = f a m := rfl
@[simp] theorem Out.bind_bad {α β : Type} (f : α → Mem → Out β) : (Out.bad : Out α).bind f = .bad := rfl
@[simp] theorem Out.bind_exn {α β : Type} (c : Nat) (xs : List P) (m : Mem) (f : α → Mem → Out β) : (Out.exn c xs m : Out α).bind f = .exn c xs m := rfl
@[simp] theorem Out.of_some {α : Type} (a : α) (m : Mem) : Out.of (some a) m = .ok a m := rfl
@[simp] theorem Out.of_none {α : Type} (m : Mem) : (Out.of (none : Option α) m) = .bad := rfl

/-- the longest list -/
def line : Nat := 16777216

abbrev Env := List (Option D)

inductive BOp | add | sub | mul | fdiv | mod | pow
inductive COp | eq | ne | lt | le | gt | ge | is | isnot | inn | notin
inductive Ty | tInt | tStr | tBool | tTup | tLst | tDic
inductive Pr | len | sorted | tuple | list | set | dict | all | any | sum | int | bool | repr | min | max | lenset | sortset | isi (ts : List Ty)
inductive Bm | append | add | get1 | get2 | join | pop | popAt | insert | index | extend | clear | setdefault | count
/-- targets -/
inductive Tg | nm (i : Nat) | tp (l : List Nat)

mutual
inductive CE where
  | var (i : Nat) | lit (x : P) | gint (x : Str) (i : Int) | gstr (x : Str) (s : Str) | gtup (x : Str) (l : List P) | gfn (i : Nat)
  | tup (es : CEs) | lst (es : CEs) | ndict (t : Bool) | ddict (ks vs : CEs)
  | alloc (e : CE) | frz (e : CE)
  | bin (op : BOp) (a b : CE) | neg (a : CE) | not (a : CE) | cmp (op : COp) (a b : CE) | chain (op1 op2 : COp) (a b c : CE)
  | and (es : CEs) | or (es : CEs) | ife (c a b : CE)
  | call (f : Nat) (es : CEs) | callv (i : Nat) (es : CEs) | new (c : Nat) (es : CEs) | meth (c : Nat) (o : CE) (m : Nat) (es : CEs) | fld (c : Nat) (o : CE) (f : Nat)
  | prim (p : Pr) (es : CEs) | bmeth (m : Bm) (o : CE) (es : CEs)
  | mkx (c : Nat) (own : Option Nat) (es : CEs) | isx (n : Nat) (js : List Nat) (a : CE) | fldx (f : Str) (cks : List (Nat × Nat)) (a : CE)
  | nob | ix (o i : CE) | gix (x : Str) (kvs : List (Str × List P)) (i : CE) | gin (x : Str) (ks : List Str) (i : CE) | slice (o lo hi : CE) | rev (o : CE)
  | comp (elt : CE) (tg : Tg) (it : CI) (ifs : CEs)
  | comp2 (elt : CE) (tg : Tg) (it : CI) (ifs : CEs) (tg2 : Tg) (it2 : CI) (ifs2 : CEs)
  | dcomp (k v : CE) (t : Bool) (tg : Tg) (it : CI) (ifs : CEs)
inductive CEs where
  | nil | cons (e : CE) (es : CEs)
/-- what is walked -/
inductive CI where
  | seq (e : CE) | rng (a b : CE) | rng1 (a : CE) | enum (e : CE) | zip (a b : CE) (strict : Bool) | revd (e : CE) | items (e : CE)
end

mutual
inductive CS where
  | expr (e : CE) | set (i : Nat) (e : CE) | setc (i : Nat) (e : CE) | unp (is : List Nat) (e : CE) | par (is : List Nat) (es : CEs)
  | setix (o i e : CE) | setfld (c : Nat) (o : CE) (f : Nat) (e : CE) | aug (i : Nat) (op : BOp) (e : CE)
  | ift (c : CE) (a b : CSs) | for (tg : Tg) (it : CI) (body : CSs) | while (c : CE) (body : CSs)
  | ret (e : CE) | retn | brk | cont | pass | raise (c : Nat) (es : CEs)
inductive CSs where
  | nil | cons (s : CS) (ss : CSs)
end

/-- how a statement ends -/
inductive Fl where
  | nx (ρ : Env) | rt (d : D) | bk (ρ : Env) | ct (ρ : Env)

def getM (m : Mem) (n : Nat) : Obj := (m[n]?).getD .dead

/-- what an object of the memory holds -/
def cell (m : Mem) (n k : Nat) : Option P := match getM m n, k with
  | .val x, 0 => some x
  | .ins _ fs, k + 1 => match fs[k]? with
    | some (true, x) => some x
    | _ => none
  | _, _ => none
def setCell (m : Mem) (n k : Nat) (x : P) : Mem := match getM m n, k with
  | .val _, 0 => m.set n (.val x)
  | .ins c fs, k + 1 => m.set n (.ins c (fs.set k (true, x)))
  | _, _ => m
/-- data that a value is read as -/
def rd : D → Mem → Option P
  | .p x, _ => some x
  | .ref n k, m => cell m n k
  | _, _ => none

/-- .. also off a tuple of the top -/
def rg : D → Mem → Option P
  | .gt l, _ => some (.tup l)
  | d, m => rd d m

def seqOf : P → Option (List P)
  | .lst l => some l
  | .tup l => some l
  | _ => none

def truthP : P → Option Bool
  | .non => some false
  | .bl b => some b
  | .int i => some (i != 0)
  | .lst l => some (!l.isEmpty)
  | .tup l => some (!l.isEmpty)
  | _ => none
def truth (d : D) (m : Mem) : Option Bool := (rd d m).bind truthP

def signs (s : Str) : List P := s.cps.toList.map fun c => .str ⟨#[c]⟩

def addP : P → P → Option P
  | .int i, .int j => some (.int (i + j))
  | .str s, .str t => if s.length + t.length ≤ line then some (.str (s ++ t)) else none
  | .lst a, .lst b => if a.length + b.length ≤ line then some (.lst (a ++ b)) else none
  | .tup a, .tup b => if a.length + b.length ≤ line then some (.tup (a ++ b)) else none
  | _, _ => none
def subP : P → P → Option P
  | .int i, .int j => some (.int (i - j))
  | _, _ => none
def small64 (i : Int) : Bool := decide (-(2 ^ 64) < i) && decide (i < 2 ^ 64)
def mulP : P → P → Option P
  | .int i, .int j => if small64 i || small64 j then some (.int (i * j)) else none
  | .lst a, .int k => if decide (-(2 ^ 63) ≤ k) && decide (k < 2 ^ 63) && decide (a.length * k.toNat ≤ line) then some (.lst (List.replicate k.toNat a).flatten) else none
  | _, _ => none
def fdivP : P → P → Option P
  | .int i, .int j => if 0 < j ∧ j < 1073741824 then some (.int (i / j)) else none
  | _, _ => none
def modP : P → P → Option P
  | .int i, .int j => if 0 < j then some (.int (i % j)) else none
  | _, _ => none
def powP : P → P → Option P
  | .int i, .int j => if 0 ≤ j ∧ j ≤ 1000000 ∧ i.natAbs < 2 ^ 64 then some (.int (i ^ j.toNat)) else none
  | _, _ => none
def binP : BOp → P → P → Option P
  | .add => addP | .sub => subP | .mul => mulP | .fdiv => fdivP | .mod => modP | .pow => powP

mutual
/-- data that == and repr are asked of: no dict, set or instance in it; its texts plain -/
def flat : P → Bool
  | .non => true
  | .bl _ => true
  | .int _ => true
  | .str s => PyData.strOk s
  | .lst l => flats l
  | .tup l => flats l
  | _ => false
def flats : List P → Bool
  | [] => true
  | x :: r => flat x && flats r
end
mutual
def deep : P → Nat
  | .lst l => deeps l + 1
  | .tup l => deeps l + 1
  | _ => 0
def deeps : List P → Nat
  | [] => 0
  | x :: r => max (deep x) (deeps r)
end
mutual
/-- == of data -/
def eqP : P → P → Bool
  | .non, .non => true
  | .bl a, .bl b => a == b
  | .bl a, .int j => (if a then 1 else 0) == j
  | .int i, .bl b => i == (if b then 1 else 0)
  | .int i, .int j => i == j
  | .str x, .str y => x == y
  | .lst xs, .lst ys => eqPs xs ys
  | .tup xs, .tup ys => eqPs xs ys
  | _, _ => false
def eqPs : List P → List P → Bool
  | [], [] => true
  | x :: xs, y :: ys => eqP x y && eqPs xs ys
  | _, _ => false
end
def okD (x : P) : Bool := flat x && decide (deep x ≤ 64)
def sc : P → Bool
  | .non => true
  | .bl _ => true
  | .int _ => true
  | .str _ => true
  | _ => false
/-- data that == is asked of -/
def okEq (a b : P) : Bool := (sc a && sc b) || (okD a && okD b)

def ltP : P → P → Option Bool
  | .int i, .int j => some (decide (i < j))
  | .str s, .str t => some (decide (s.cps.toList < t.cps.toList))
  | _, _ => none
def leP : P → P → Option Bool
  | .int i, .int j => some (decide (i ≤ j))
  | _, _ => none

def isNon : P → Bool
  | .non => true
  | _ => false
def isP : P → P → Option Bool
  | x, .non => some (isNon x)
  | .bl a, .bl b => some (a == b)
  | _, _ => none

/-- a key -/
abbrev Ky := Sum Int Str
def ky : P → Option Ky
  | .int i => some (.inl i)
  | .str s => some (.inr s)
  | _ => none
def kys : List P → Option (List Ky)
  | [] => some []
  | x :: r => match ky x, kys r with
    | some k, some ks => some (k :: ks)
    | _, _ => none
def kyT : P → Option (List Ky)
  | .tup l => kys l
  | _ => none
/-- a key of a dict of this kind -/
def kOk (t : Bool) (x : P) : Bool := if t then (kyT x).isSome else (ky x).isSome
def kEq (t : Bool) (a b : P) : Bool := if t then decide (kyT a = kyT b) else decide (ky a = ky b)
def keyOf : P → P
  | .tup [k, _] => k
  | _ => .non
def valOf : P → P
  | .tup [_, v] => v
  | _ => .non
def findK (t : Bool) (l : List P) (k : P) : Option P := (l.find? fun kv => kEq t (keyOf kv) k).map valOf
def putK (t : Bool) (l : List P) (k v : P) : List P := if (findK t l k).isSome then l.map fun kv => if kEq t (keyOf kv) k then .tup [keyOf kv, v] else kv else l ++ [.tup [k, v]]
def hasS (l : List P) (k : P) : Bool := l.any fun z => kEq false z k

def inP (x y : P) : Option Bool := match y with
  | .lst l => if (sc x && l.all sc) || (okD x && okD (.lst l)) then some (l.any fun z => eqP z x) else none
  | .tup l => if (sc x && l.all sc) || (okD x && okD (.tup l)) then some (l.any fun z => eqP z x) else none
  | .str t => match x with
    | .str s => match s.cps.toList with
      | [c] => some (decide (c ∈ t.cps.toList))
      | _ => none
    | _ => none
  | .dic t l => if kOk t x then some (findK t l x).isSome else (match t, x with | false, .non => some false | _, _ => none)
  | .set l => if kOk false x then some (hasS l x) else (match x with | .non => some false | _ => none)
  | _ => none

def cmpP (op : COp) (a b : P) : Option Bool := match op with
  | .is => isP a b
  | .isnot => (isP a b).map not
  | .inn => inP a b
  | .notin => (inP a b).map not
  | .eq => if okEq a b then some (eqP a b) else none
  | .ne => if okEq a b then some (!eqP a b) else none
  | .lt => ltP a b
  | .le => leP a b
  | .gt => ltP b a
  | .ge => leP b a
def isIn : COp → Bool
  | .inn => true
  | .notin => true
  | _ => false
def cmpD (op : COp) (x y : D) (m : Mem) : Option Bool := match (if isIn op then rd x m else rg x m), rg y m with
  | some a, some b => cmpP op a b
  | _, _ => none

/-- a place from the front or from behind -/
def ixN (n : Nat) (i : Int) : Option Nat := if 0 ≤ i then (if i < n then some i.toNat else none) else if -(n : Int) ≤ i then some (i + n).toNat else none
def atI {α : Type} (xs : List α) (i : Int) : Option α := (ixN xs.length i).bind fun j => xs[j]?
def sIx (n d : Nat) : Option Int → Nat
  | none => d
  | some v => if v < 0 then (v + n).toNat else min v.toNat n
def cut {α : Type} (xs : List α) (lo hi : Option Int) : List α := (xs.drop (sIx xs.length 0 lo)).take (sIx xs.length xs.length hi - sIx xs.length 0 lo)

def ixP : P → P → Option P
  | .lst l, .int i => atI l i
  | .tup l, .int i => atI l i
  | .str s, .int i => if s.length ≤ line then (atI s.cps.toList i).map fun c => .str ⟨#[c]⟩ else none
  | .dic t l, k => if kOk t k then findK t l k else none
  | _, _ => none
def ixD (o i : D) (m : Mem) : Option P := match rg o m, rd i m with
  | some x, some k => ixP x k
  | _, _ => none
def partOf : P → Option (Option Int)
  | .non => some none
  | .int i => some (some i)
  | _ => none
def sliceP (x : P) (lo hi : Option Int) : Option P := match x with
  | .lst l => some (.lst (cut l lo hi))
  | .tup l => some (.tup (cut l lo hi))
  | .str s => if s.length ≤ line then some (.str ⟨(cut s.cps.toList lo hi).toArray⟩) else none
  | _ => none
def sliceD (o : D) (lo hi : Option Int) (m : Mem) : Option P := match o with
  | .scr l => some (.lst (cut (l.map P.int) lo hi))
  | o => (rd o m).bind fun x => sliceP x lo hi

/-! ### built-ins -/
def asBls : List P → Option (List Bool)
  | [] => some []
  | .bl b :: r => (asBls r).map (b :: ·)
  | _ => none
def asInts : List P → Option (List Int)
  | [] => some []
  | .int b :: r => (asInts r).map (b :: ·)
  | _ => none
def asStrs : List P → Option (List Str)
  | [] => some []
  | .str b :: r => (asStrs r).map (b :: ·)
  | _ => none
def leI (a b : Int) : Bool := decide (a ≤ b)
def leS (a b : Str) : Bool := !decide (b.cps.toList < a.cps.toList)
/-- sorted -/
def sortP (l : List P) : Option (List P) := if line < l.length then none else match asInts l, asStrs l with
  | some ns, _ => some ((ns.mergeSort leI).map .int)
  | none, some ss => some ((ss.mergeSort leS).map .str)
  | none, none => none
/-- one of each -/
def once : List P → List P → List P
  | _, [] => []
  | seen, x :: r => if hasS seen x then once seen r else x :: once (seen ++ [x]) r
def isTy : Ty → P → Bool
  | .tInt, .int _ => true
  | .tInt, .bl _ => true
  | .tStr, .str _ => true
  | .tBool, .bl _ => true
  | .tTup, .tup _ => true
  | .tLst, .lst _ => true
  | .tDic, .dic _ _ => true
  | _, _ => false
/-- whose class is a built-in one -/
def hasTy : P → Bool
  | .set _ => false
  | .ins _ _ => false
  | .exc _ _ => false
  | _ => true
def lenP : P → Option Int
  | .lst l => some l.length
  | .tup l => some l.length
  | .str s => if s.length ≤ line then some s.length else none
  | .dic _ l => some l.length
  | _ => none
def joinS (sep : Str) : List Str → Str
  | [] => ⟨#[]⟩
  | [s] => s
  | s :: r => s ++ (sep ++ joinS sep r)

/-- a built-in of data -/
def primP : Pr → List P → Option P
  | .len, [x] => (lenP x).map P.int
  | .sorted, [x] => match x with
    | .lst l => (sortP l).map P.lst
    | .tup l => (sortP l).map P.lst
    | _ => none
  | .tuple, [x] => (seqOf x).map P.tup
  | .list, [x] => (seqOf x).map P.lst
  | .all, [.lst l] => (asBls l).map fun bs => .bl (bs.all id)
  | .any, [.lst l] => (asBls l).map fun bs => .bl (bs.any id)
  | .sum, [.lst l] => (asInts l).map fun ns => .int ns.sum
  | .int, [.bl b] => some (.int (if b then 1 else 0))
  | .int, [.int i] => some (.int i)
  | .min, [.int i, .int j] => some (.int (if j < i then j else i))
  | .max, [.int i, .int j] => some (.int (if i < j then j else i))
  | .isi ts, [x] => if hasTy x then some (.bl (ts.any fun t => isTy t x)) else none
  | .lenset, [x] => (seqOf x).bind fun l => if l.all (kOk false) && decide (l.length < 4096) then some (.int (once [] l).length) else none
  | _, _ => none
def rds : List D → Mem → Option (List P)
  | [], _ => some []
  | d :: ds, m => match rd d m, rds ds m with
    | some x, some xs => some (x :: xs)
    | _, _ => none
def isPair (t : Bool) : P → Bool
  | .tup [k, _] => kOk t k
  | _ => false
/-- a built-in's call: a new list is data, a new set or dict an object of the memory -/
def pureO (p : Pr) (xs : List D) (m : Mem) : Out D := match rds xs m with
  | some ys => (Out.of (primP p ys) m).bind fun x m => .ok (.p x) m
  | none => .bad
def lenO (xs : List D) (m : Mem) : Out D := match xs with
  | [d] => (match rg d m with
    | some x => (Out.of (lenP x) m).bind fun i m => .ok (.p (.int i)) m
    | none => .bad)
  | _ => .bad
def setcO (xs : List D) (m : Mem) : Out D := match rds xs m with
  | some [x] => (match seqOf x with
    | some l => if l.all (kOk false) && decide (l.length < 4096) then .ok (.ref m.length 0) (m ++ [.val (.set (once [] l))]) else .bad
    | none => .bad)
  | _ => .bad
def dictO (xs : List D) (m : Mem) : Out D := match rds xs m with
  | some [.lst l] => if l.all (isPair false) && decide (l.length ≤ line) then .ok (.ref m.length 0) (m ++ [.val (.dic false (l.foldl (fun acc z => putK false acc (keyOf z) (valOf z)) []))]) else .bad
  | _ => .bad
def isiO (ts : List Ty) (d : D) (m : Mem) : Out D := match rg d m with
  | some x => if hasTy x then .ok (.p (.bl (ts.any fun t => isTy t x))) m else .bad
  | none => .bad
def isiL (ts : List Ty) (xs : List D) (m : Mem) : Out D := match xs with
  | [d] => isiO ts d m
  | _ => .bad
def primD (p : Pr) (xs : List D) (m : Mem) : Out D := match p with
  | .len => lenO xs m
  | .isi ts => isiL ts xs m
  | .set => setcO xs m
  | .dict => dictO xs m
  | p => pureO p xs m
/-- a built-in method's call -/
def bmD (b : Bm) (o : D) (xs : List D) (m : Mem) : Out D := match rd o m, xs with
  | some (.lst l), [.p y] => match b, o with
    | .append, .ref n k => if l.length < line then .ok (.p .non) (setCell m n k (.lst (l ++ [y]))) else .bad
    | _, _ => .bad
  | some (.set l), [.p y] => match b, o with
    | .add, .ref n k => if kOk false y && decide (l.length < 4095) then .ok (.p .non) (setCell m n k (.set (if hasS l y then l else l ++ [y]))) else .bad
    | _, _ => .bad
  | some (.dic t l), [.p y] => match b with
    | .get1 => if kOk t y then .ok (.p ((findK t l y).getD .non)) m else .bad
    | _ => .bad
  | some (.dic t l), [.p y, .p z] => match b with
    | .get2 => if kOk t y then .ok (.p ((findK t l y).getD z)) m else .bad
    | _ => .bad
  | some (.str s), [x] => match b with
    | .join => match ((rd x m).bind seqOf).bind asStrs with
      | some ss => if (joinS s ss).length ≤ line then .ok (.p (.str (joinS s ss))) m else .bad
      | none => .bad
    | _ => .bad
  | _, _ => .bad

/-! ### evaluation -/
def wipe (ρ : Env) : List Nat → Env
  | [] => ρ
  | v :: vs => (wipe ρ vs).set v none
def Tg.vars : Tg → List Nat
  | .nm i => [i]
  | .tp l => l
def setAll (ρ : Env) : List Nat → List P → Env
  | i :: is, x :: xs => setAll (ρ.set i (some (.p x))) is xs
  | _, _ => ρ
def bindTg (tg : Tg) (x : P) (ρ : Env) : Option Env := match tg with
  | .nm i => some (ρ.set i (some (.p x)))
  | .tp is => match x with
    | .tup xs => if is.length = xs.length then some (setAll ρ is xs) else none
    | _ => none

mutual
def sameP : P → P → Bool
  | .non, .non => true
  | .bl a, .bl b => a == b
  | .int a, .int b => a == b
  | .str a, .str b => a == b
  | .tup a, .tup b => samePs a b
  | .lst a, .lst b => samePs a b
  | .dic t a, .dic u b => t == u && samePs a b
  | .set a, .set b => samePs a b
  | .ins c a, .ins d b => c == d && samePs a b
  | .exc c a, .exc d b => c == d && samePs a b
  | _, _ => false
def samePs : List P → List P → Bool
  | [], [] => true
  | x :: xs, y :: ys => sameP x y && samePs xs ys
  | _, _ => false
end
/-- the walked object is still what it was -/
def stays (g : D × P) (m : Mem) : Bool := match g.1 with
  | .p _ => true
  | .gt _ => true
  | d => match rd d m with
    | some y => sameP y g.2
    | none => false

def enumL (k : Nat) : List P → List P
  | [] => []
  | x :: r => .tup [.int (k : Nat), x] :: enumL (k + 1) r
def zipL : List P → List P → List P
  | x :: xs, y :: ys => .tup [x, y] :: zipL xs ys
  | _, _ => []
def rngL (a : Int) : Nat → List P
  | 0 => []
  | n + 1 => .int a :: rngL (a + 1) n
def itemsP : P → Option (List P)
  | .lst l => some l
  | .tup l => some l
  | .str s => some (signs s)
  | _ => none

/-- the loop of a for -/
def forL (g : Mem → Bool) (step : P → Env → Mem → Out Fl) : List P → Env → Mem → Out Fl
  | [], ρ, m => if g m then .ok (.nx ρ) m else .bad
  | x :: xs, ρ, m => if g m then (step x ρ m).bind fun f m1 => match f with
    | .nx ρ1 => forL g step xs ρ1 m1
    | .ct ρ1 => forL g step xs ρ1 m1
    | .bk ρ1 => .ok (.nx ρ1) m1
    | .rt d => .ok (.rt d) m1 else .bad
def whileL (test : Env → Mem → Out Bool) (body : Env → Mem → Out Fl) : Nat → Env → Mem → Out Fl
  | 0, _, _ => .bad
  | n + 1, ρ, m => (test ρ m).bind fun b m1 => if b then (body ρ m1).bind fun f m2 => (match f with
      | .nx ρ1 => whileL test body n ρ1 m2
      | .ct ρ1 => whileL test body n ρ1 m2
      | .bk ρ1 => .ok (.nx ρ1) m2
      | .rt d => .ok (.rt d) m2) else .ok (.nx ρ) m1
/-- the loop of a comprehension: acc holds what is made so far -/
def compL (g : Mem → Bool) (step : P → Mem → Out (List P)) : List P → List P → Mem → Out (List P)
  | [], acc, m => if g m then .ok acc m else .bad
  | x :: xs, acc, m => if g m then (step x m).bind fun o m1 => compL g step xs (acc ++ o) m1 else .bad

def asP (d : D) (m : Mem) : Out P := match d with
  | .p x => .ok x m
  | _ => .bad
def truthO (d : D) (m : Mem) : Out Bool := Out.of (truth d m) m
/-- a slice's bound: what is said, if anything -/
def bnd (e : CE) (o : Out D) : Out (Option Int) := o.bind fun d m => match e, d with
  | .nob, _ => .ok none m
  | _, .p (.int i) => .ok (some i) m
  | _, _ => .bad

/-- whether a value is an instance of the class -/
def isOf (c : Nat) (d : D) (m : Mem) : Bool := match d with
  | .ref n 0 => (match getM m n with
    | .ins c' _ => c' == c
    | _ => false)
  | .p (.ins c' _) => c' == c
  | _ => false
/-- a field of an instance of the class -/
def fldD (c k : Nat) (d : D) (m : Mem) : Out D := match d with
  | .ref n 0 => (match getM m n with
    | .ins c' fs => if c' = c then (match fs[k]? with
      | some (true, _) => .ok (.ref n (k + 1)) m
      | some (false, x) => .ok (.p x) m
      | none => .bad) else .bad
    | _ => .bad)
  | .p (.ins c' fs) => if c' = c then (match fs[k]? with
      | some x => .ok (.p x) m
      | none => .bad) else .bad
  | _ => .bad
/-- isinstance of an exception's class; a field of an exception -/
def isxO (n : Nat) (js : List Nat) (d : D) (m : Mem) : Out D := match d with
  | .p (.exc c _) => if c < n then .ok (.p (.bl (js.contains c))) m else .bad
  | _ => .bad
def mkxO (c : Nat) (own : Option Nat) (xs : List P) (m : Mem) : Out D := match own with
  | some n => if xs.length = n then .ok (.p (.exc c xs)) m else .bad
  | none => .ok (.p (.exc c [])) m
def fldxO (cks : List (Nat × Nat)) (d : D) (m : Mem) : Out D := match d with
  | .p (.exc c fs) => (match cks.lookup c with
    | some k => Out.of (fs[k]?.map D.p) m
    | none => .bad)
  | _ => .bad
def rng1O (y : D) (m2 : Mem) : Out (List P × (Mem → Bool)) := match y with
  | .p (.int j) => if -(2 ^ 62) ≤ j ∧ j < 2 ^ 62 then .ok (rngL 0 j.toNat, fun _ => true) m2 else .bad
  | _ => .bad
def rng2O (x y : D) (m2 : Mem) : Out (List P × (Mem → Bool)) := match x, y with
  | .p (.int i), .p (.int j) => if -(2 ^ 62) ≤ i ∧ i < 2 ^ 62 ∧ -(2 ^ 62) ≤ j ∧ j < 2 ^ 62 then .ok (rngL i (j - i).toNat, fun _ => true) m2 else .bad
  | _, _ => .bad
def seqO' (d : D) (m1 : Mem) : Out (List P × (Mem → Bool)) := match rg d m1 with
  | some x => (Out.of (itemsP x) m1).bind fun l m1 => .ok (l, stays (d, x)) m1
  | none => .bad
def enumO (d : D) (m1 : Mem) : Out (List P × (Mem → Bool)) := match rg d m1 with
  | some (.lst l) => .ok (enumL 0 l, stays (d, .lst l)) m1
  | _ => .bad
def zipO (d e : D) (m2 : Mem) : Out (List P × (Mem → Bool)) := match rg d m2, rg e m2 with
  | some (.lst l), some (.lst k) => .ok (zipL l k, fun m => stays (d, .lst l) m && stays (e, .lst k) m) m2
  | some (.tup l), some (.tup k) => .ok (zipL l k, fun m => stays (d, .tup l) m && stays (e, .tup k) m) m2
  | _, _ => .bad
abbrev Ev := Env → Mem → Out D
abbrev Es := Env → Mem → Out Fl
/-- a comprehension's turn, a comprehension -/
def stepO (vs : List Nat) (b : P → Env → Option Env) (fifs : Env → Mem → Out Bool) (fe : Ev) (ρ : Env) : P → Mem → Out (List P) := fun x m => match b x (wipe ρ vs) with
  | some ρ1 => (fifs ρ1 m).bind fun t m2 => if t then (fe ρ1 m2).bind fun d m3 => (asP d m3).bind fun y m3 => .ok [y] m3 else .ok [] m2
  | none => .bad
def lcO (vs : List Nat) (b : P → Env → Option Env) (fi : Env → Mem → Out (List P × (Mem → Bool))) (fifs : Env → Mem → Out Bool) (fe : Ev) : Ev := fun ρ m =>
  (fi ρ m).bind fun w m1 => (compL w.2 (stepO vs b fifs fe ρ) w.1 [] m1).bind fun l m2 => if l.length ≤ line then .ok (.p (.lst l)) m2 else .bad
/-- statements -/
def seqO (f g : Es) : Es := fun ρ m => (f ρ m).bind fun fl m1 => match fl with
  | .nx ρ1 => g ρ1 m1
  | fl => .ok fl m1
def setO (i : Nat) (f : Ev) : Es := fun ρ m => (f ρ m).bind fun d m1 => .ok (.nx (ρ.set i (some d))) m1
def unpO (is : List Nat) (f : Ev) : Es := fun ρ m => (f ρ m).bind fun d m1 => match rg d m1 with
  | some (.tup xs) => if is.length = xs.length then .ok (.nx (setAll ρ is xs)) m1 else .bad
  | _ => .bad
def setAllD (ρ : Env) : List Nat → List D → Env
  | i :: is, x :: xs => setAllD (ρ.set i (some x)) is xs
  | _, _ => ρ
def parO (is : List Nat) (f : Env → Mem → Out (List D)) : Es := fun ρ m => (f ρ m).bind fun ds m1 => if is.length = ds.length ∧ ds.length ≤ 1000 then .ok (.nx (setAllD ρ is ds)) m1 else .bad
/-- o[i] = v -/
def setixO (d k v : D) (m : Mem) : Out Unit := match d, k, v with
  | .ref n j, .p k, .p v => (match cell m n j, k with
    | some (.lst l), .int i => (match ixN l.length i with
      | some q => .ok () (setCell m n j (.lst (l.set q v)))
      | none => .bad)
    | some (.dic t l), k => if kOk t k && decide (l.length < line) then .ok () (setCell m n j (.dic t (putK t l k v))) else .bad
    | _, _ => .bad)
  | _, _, _ => .bad
def augO (i : Nat) (op : BOp) (f : Ev) : Es := fun ρ m => match (ρ[i]?).bind id with
  | some x => (f ρ m).bind fun y m1 => (match x, y with
    | .p (.int a), .p (.int b) => (Out.of (binP op (.int a) (.int b)) m1).bind fun r m2 => .ok (.nx (ρ.set i (some (.p r)))) m2
    | _, _ => .bad)
  | none => .bad
def forO (b : P → Env → Option Env) (fi : Env → Mem → Out (List P × (Mem → Bool))) (f : Es) : Es := fun ρ m => (fi ρ m).bind fun w m1 => forL w.2 (fun x ρ m => match b x ρ with
  | some ρ1 => f ρ1 m
  | none => .bad) w.1 ρ m1
def frzO (f : Ev) : Ev := fun ρ m => (f ρ m).bind fun d m1 => match d with
  | .ref n 0 => (match getM m1 n with
    | .val (.lst l) => .ok (.p (.lst l)) (m1.set n .dead)
    | .val (.dic t l) => .ok (.p (.dic t l)) (m1.set n .dead)
    | _ => .bad)
  | _ => .bad
/-- e as a new object of the memory's -/
def evAlloc (f : Ev) : Ev := fun ρ m => (f ρ m).bind fun d m1 => match d with
  | .p (.lst l) => .ok (.ref m1.length 0) (m1 ++ [.val (.lst l)])
  | _ => .bad
section
variable (cf : Nat → List D → Mem → Out D) (mt : Nat → Nat → Option Nat)
mutual
def evE : CE → Env → Mem → Out D
  | .var i, ρ, m => Out.of ((ρ[i]?).bind id) m
  | .lit x, _, m => .ok (.p x) m
  | .gint _ i, _, m => .ok (.p (.int i)) m
  | .gstr _ s, _, m => .ok (.p (.str s)) m
  | .gtup _ l, _, m => .ok (.gt l) m
  | .gfn i, _, m => .ok (.fn i) m
  | .tup es, ρ, m => (evPs es ρ m).bind fun xs m1 => if xs.length ≤ line then .ok (.p (.tup xs)) m1 else .bad
  | .lst es, ρ, m => (evPs es ρ m).bind fun xs m1 => if xs.length ≤ line then .ok (.p (.lst xs)) m1 else .bad
  | .ndict t, _, m => .ok (.ref m.length 0) (m ++ [.val (.dic t [])])
  | .ddict ks vs, ρ, m => .bad
  | .alloc e, ρ, m => evAlloc (fun ρ m => evE e ρ m) ρ m
  | .frz e, ρ, m => frzO (fun ρ m => evE e ρ m) ρ m
  | .bin op a b, ρ, m => (evE a ρ m).bind fun x m1 => (evE b ρ m1).bind fun y m2 => match rd x m2, rd y m2 with
    | some u, some v => (Out.of (binP op u v) m2).bind fun r m3 => .ok (.p r) m3
    | _, _ => .bad
  | .neg a, ρ, m => (evE a ρ m).bind fun x m1 => match x with
    | .p (.int i) => .ok (.p (.int (-i))) m1
    | _ => .bad
  | .not a, ρ, m => ((evE a ρ m).bind truthO).bind fun b m1 => .ok (.p (.bl (!b))) m1
  | .cmp op a b, ρ, m => (evE a ρ m).bind fun x m1 => (evE b ρ m1).bind fun y m2 => (Out.of (cmpD op x y m2) m2).bind fun r m3 => .ok (.p (.bl r)) m3
  | .chain o1 o2 a b c, ρ, m => (evE a ρ m).bind fun x m1 => (evE b ρ m1).bind fun y m2 => (Out.of (cmpD o1 x y m2) m2).bind fun r m3 =>
      if r then (evE c ρ m3).bind fun z m4 => (Out.of (cmpD o2 y z m4) m4).bind fun r m5 => .ok (.p (.bl r)) m5 else .ok (.p (.bl false)) m3
  | .and es, ρ, m => evAnd es ρ m
  | .or es, ρ, m => evOr es ρ m
  | .ife c a b, ρ, m => ((evE c ρ m).bind truthO).bind fun t m1 => if t then evE a ρ m1 else evE b ρ m1
  | .call f es, ρ, m => (evEs es ρ m).bind fun ds m1 => cf f ds m1
  | .callv i es, ρ, m => match (ρ[i]?).bind id with
    | some (.fn f) => (evEs es ρ m).bind fun ds m1 => cf f ds m1
    | _ => .bad
  | .new c es, ρ, m => match mt c 0 with
    | some f => (evEs es ρ m).bind fun ds m1 => (cf f (.ref m1.length 0 :: ds) (m1 ++ [.ins c []])).bind fun d m2 => match d with
      | .p .non => .ok (.ref m1.length 0) m2
      | _ => .bad
    | none => .bad
  | .meth c o k es, ρ, m => match mt c k with
    | some f => (evE o ρ m).bind fun d m1 => if isOf c d m1 then (evEs es ρ m1).bind fun ds m2 => cf f (d :: ds) m2 else .bad
    | none => .bad
  | .fld c o k, ρ, m => (evE o ρ m).bind fun d m1 => fldD c k d m1
  | .prim p es, ρ, m => (evEs es ρ m).bind fun ds m1 => primD p ds m1
  | .bmeth b o es, ρ, m => (evE o ρ m).bind fun d m1 => (evEs es ρ m1).bind fun ds m2 => bmD b d ds m2
  | .ix o i, ρ, m => (evE o ρ m).bind fun x m1 => (evE i ρ m1).bind fun y m2 => (Out.of (ixD x y m2) m2).bind fun r m3 => .ok (.p r) m3
  | .gix _ kvs i, ρ, m => (evE i ρ m).bind fun x m1 => match x with
    | .p (.str s) => (Out.of (kvs.lookup s) m1).bind fun r m2 => .ok (.gt r) m2
    | _ => .bad
  | .gin _ ks i, ρ, m => (evE i ρ m).bind fun x m1 => match x with
    | .p (.str s) => .ok (.p (.bl (ks.contains s))) m1
    | _ => .bad
  | .nob, _, m => .ok (.p .non) m
  | .mkx c own es, ρ, m => (evPs es ρ m).bind fun xs m1 => mkxO c own xs m1
  | .isx n js a, ρ, m => (evE a ρ m).bind fun d m1 => isxO n js d m1
  | .fldx _ cks a, ρ, m => (evE a ρ m).bind fun d m1 => fldxO cks d m1
  | .slice o lo hi, ρ, m => (evE o ρ m).bind fun x m1 => (bnd lo (evE lo ρ m1)).bind fun l m2 => (bnd hi (evE hi ρ m2)).bind fun h m3 => (Out.of (sliceD x l h m3) m3).bind fun r m4 => .ok (.p r) m4
  | .rev o, ρ, m => (evE o ρ m).bind fun x m1 => match rd x m1 with
    | some (.lst l) => .ok (.p (.lst l.reverse)) m1
    | some (.tup l) => .ok (.p (.tup l.reverse)) m1
    | _ => .bad
  | .comp elt tg it ifs, ρ, m => lcO tg.vars (bindTg tg) (fun ρ m => evI it ρ m) (fun ρ m => evIfs ifs ρ m) (fun ρ m => evE elt ρ m) ρ m
  | .comp2 elt tg it ifs tg2 it2 ifs2, ρ, m => (evI it ρ m).bind fun w m1 => (compL w.2 (fun x m => match bindTg tg x (wipe ρ (tg.vars ++ tg2.vars)) with
      | some ρ1 => (evIfs ifs ρ1 m).bind fun b m2 => if b then (evI it2 ρ1 m2).bind fun w2 m3 => compL w2.2 (fun y m => match bindTg tg2 y (wipe ρ1 tg2.vars) with
          | some ρ2 => (evIfs ifs2 ρ2 m).bind fun b m4 => if b then (evE elt ρ2 m4).bind fun d m5 => (asP d m5).bind fun y m5 => .ok [y] m5 else .ok [] m4
          | none => .bad) w2.1 [] m3 else .ok [] m2
      | none => .bad) w.1 [] m1).bind fun l m2 => if l.length ≤ line then .ok (.p (.lst l)) m2 else .bad
  | .dcomp k v t tg it ifs, ρ, m => (evI it ρ m).bind fun w m1 => (compL w.2 (fun x m => match bindTg tg x (wipe ρ tg.vars) with
      | some ρ1 => (evIfs ifs ρ1 m).bind fun b m2 => if b then (evE k ρ1 m2).bind fun d m3 => (asP d m3).bind fun y m3 => (evE v ρ1 m3).bind fun e m4 => (asP e m4).bind fun z m4 => if kOk t y then .ok [.tup [y, z]] m4 else .bad else .ok [] m2
      | none => .bad) w.1 [] m1).bind fun l m2 => if l.length ≤ line then .ok (.ref m2.length 0) (m2 ++ [.val (.dic t (l.foldl (fun acc z => putK t acc (keyOf z) (valOf z)) []))]) else .bad
def evEs : CEs → Env → Mem → Out (List D)
  | .nil, _, m => .ok [] m
  | .cons e es, ρ, m => (evE e ρ m).bind fun d m1 => (evEs es ρ m1).bind fun ds m2 => .ok (d :: ds) m2
/-- parts that are data -/
def evPs : CEs → Env → Mem → Out (List P)
  | .nil, _, m => .ok [] m
  | .cons e es, ρ, m => (evE e ρ m).bind fun d m1 => (asP d m1).bind fun x m1 => (evPs es ρ m1).bind fun ds m2 => .ok (x :: ds) m2
def evAnd : CEs → Env → Mem → Out D
  | .nil, _, _ => .bad
  | .cons e .nil, ρ, m => evE e ρ m
  | .cons e es, ρ, m => (evE e ρ m).bind fun d m1 => (truthO d m1).bind fun b m2 => if b then evAnd es ρ m2 else .ok d m2
def evOr : CEs → Env → Mem → Out D
  | .nil, _, _ => .bad
  | .cons e .nil, ρ, m => evE e ρ m
  | .cons e es, ρ, m => (evE e ρ m).bind fun d m1 => (truthO d m1).bind fun b m2 => if b then .ok d m2 else evOr es ρ m2
def evIfs : CEs → Env → Mem → Out Bool
  | .nil, _, m => .ok true m
  | .cons e es, ρ, m => ((evE e ρ m).bind truthO).bind fun b m1 => if b then evIfs es ρ m1 else .ok false m1
/-- the items of a walk, and the test that what is walked stays -/
def evI : CI → Env → Mem → Out (List P × (Mem → Bool))
  | .seq e, ρ, m => (evE e ρ m).bind fun d m1 => seqO' d m1
  | .rng a b, ρ, m => (evE a ρ m).bind fun x m1 => (evE b ρ m1).bind fun y m2 => rng2O x y m2
  | .rng1 b, ρ, m => (evE b ρ m).bind fun y m2 => rng1O y m2
  | .enum e, ρ, m => (evE e ρ m).bind fun d m1 => enumO d m1
  | .zip a b s, ρ, m => if s then .bad else (evE a ρ m).bind fun d m1 => (evE b ρ m1).bind fun e m2 => zipO d e m2
  | .revd e, ρ, m => (evE e ρ m).bind fun d m1 => match rg d m1 with
    | some x => (Out.of (seqOf x) m1).bind fun l m1 => .ok (l.reverse, stays (d, x)) m1
    | none => .bad
  | .items e, ρ, m => (evE e ρ m).bind fun d m1 => match rg d m1 with
    | some (.dic t l) => .ok (l, stays (d, .dic t l)) m1
    | _ => .bad
end

/-- o.f = v: data in the place of data, or behind the last field, or an object that is the field's own from now on -/
def setFldD (c k : Nat) (d v : D) (m : Mem) : Out Unit := match d with
  | .ref n 0 => (match getM m n with
    | .ins c' fs => if c' = c then (match v with
      | .p x => if k = fs.length then .ok () (m.set n (.ins c (fs ++ [(false, x)]))) else (match fs[k]? with
        | some (false, _) => .ok () (m.set n (.ins c (fs.set k (false, x))))
        | _ => .bad)
      | .ref q 0 => if k = fs.length then (match getM m q with
        | .val x => .ok () ((m.set q .dead).set n (.ins c (fs ++ [(true, x)])))
        | _ => .bad) else .bad
      | _ => .bad) else .bad
    | _ => .bad)
  | _ => .bad
/-- fuel of a while -/
def fuel : Nat := 100000

mutual
def evS : CS → Env → Mem → Out Fl
  | .expr e, ρ, m => (evE cf mt e ρ m).bind fun _ m1 => .ok (.nx ρ) m1
  | .set i e, ρ, m => setO i (fun ρ m => evE cf mt e ρ m) ρ m
  | .setc i e, ρ, m => setO i (fun ρ m => evE cf mt e ρ m) ρ m
  | .unp is e, ρ, m => unpO is (fun ρ m => evE cf mt e ρ m) ρ m
  | .par is es, ρ, m => parO is (fun ρ m => evEs cf mt es ρ m) ρ m
  | .setix o i e, ρ, m => (evE cf mt e ρ m).bind fun v m1 => (evE cf mt o ρ m1).bind fun d m2 => (evE cf mt i ρ m2).bind fun k m3 => (setixO d k v m3).bind fun _ m4 => .ok (.nx ρ) m4
  | .setfld c o k e, ρ, m => (evE cf mt e ρ m).bind fun v m1 => (evE cf mt o ρ m1).bind fun d m2 => (setFldD c k d v m2).bind fun _ m3 => .ok (.nx ρ) m3
  | .aug i op e, ρ, m => augO i op (fun ρ m => evE cf mt e ρ m) ρ m
  | .ift c a b, ρ, m => ((evE cf mt c ρ m).bind truthO).bind fun t m1 => if t then evSs a ρ m1 else evSs b ρ m1
  | .for tg it body, ρ, m => forO (bindTg tg) (fun ρ m => evI cf mt it ρ m) (fun ρ m => evSs body ρ m) ρ m
  | .while c body, ρ, m => whileL (fun ρ m => (evE cf mt c ρ m).bind truthO) (fun ρ m => evSs body ρ m) fuel ρ m
  | .ret e, ρ, m => (evE cf mt e ρ m).bind fun d m1 => .ok (.rt d) m1
  | .retn, _, m => .ok (.rt (.p .non)) m
  | .brk, ρ, m => .ok (.bk ρ) m
  | .cont, ρ, m => .ok (.ct ρ) m
  | .pass, ρ, m => .ok (.nx ρ) m
  | .raise c es, ρ, m => (evPs cf mt es ρ m).bind fun xs m1 => .exn c xs m1
def evSs : CSs → Env → Mem → Out Fl
  | .nil, ρ, m => .ok (.nx ρ) m
  | .cons s ss, ρ, m => seqO (fun ρ m => evS s ρ m) (fun ρ m => evSs ss ρ m) ρ m
end
end

/-- a def: its name, its names by slots (parameters first), how many parameters, its body -/
structure Fn where
  name : Str
  qual : Str
  cls : Option Str
  names : List Str
  np : Nat
  body : CSs
/-- a class: its name, its fields' names, its methods: name and def (number 0 is __init__) -/
structure Cl where
  name : Str
  flds : List Str
  meths : List (Str × Nat)
structure Pg where
  fns : List Fn
  cls : List Cl

def Pg.mt (g : Pg) (c k : Nat) : Option Nat := ((g.cls[c]?).bind fun q => q.meths[k]?).map (·.2)

/-- what a body's end hands back; an end that is data leaves nothing but what stood before -/
def settle (n : Nat) (o : Out Fl) : Out D := o.bind fun f m => match f with
  | .nx _ => .ok (.p .non) (m.take n)
  | .rt (.p x) => .ok (.p x) (m.take n)
  | .rt (.ref q k) => .ok (.ref q k) m
  | .rt (.fn i) => .ok (.fn i) (m.take n)
  | _ => .bad
/-- a call, so many calls deep -/
def Pg.call (g : Pg) : Nat → Nat → List D → Mem → Out D
  | 0, _, _, _ => .bad
  | d + 1, f, ds, m => match g.fns[f]? with
    | some q => if ds.length = q.np then settle m.length (evSs (g.call d) g.mt q.body (ds.map some ++ List.replicate (q.names.length - q.np) none) m) else .bad
    | none => .bad
end Lot
/-! LotB: how values of the small language lie in the hand layer's heap. -/
namespace Lot
open PySem PySem.Spec PyProof.Rows L2

/-- what is fixed: the program, the world, the written part, where defs and classes lie, the fields' names; hidden objects that stand as they are -/
structure Tb where
  P : Program
  w : World
  K : PySem.W.Frag
  fa : Nat → Addr
  ca : Nat → Addr
  fn : Nat → Nat → Option Str
  gh : Addr → Option HO
/-- .. with other hidden objects -/
def Tb.g (T : Tb) (gh : Addr → Option HO) : Tb := { T with gh := gh }

def KTup (K : PySem.W.Frag) (a : Addr) (xs : List V) : Prop :=
  ∃ (o : PySem.Obj) (its : Array Value) (n : Nat), K.lookup a = some o ∧ o.cls = .type "tuple" ∧ o.data = .seq its n ∧ its.size ≤ sizeLine ∧ Vals xs its.toList
/-- the script, where it is one of the top's own objects -/
def KLst (K : PySem.W.Frag) (a : Addr) (xs : List V) : Prop :=
  ∃ (o : PySem.Obj) (its : Array Value) (n : Nat), K.lookup a = some o ∧ o.cls = .type "list" ∧ o.dict = none ∧ o.data = .seq its n ∧ its.size ≤ sizeLine ∧ Vals xs its.toList
def TupAt (W : Addr → Prop) (H : Hp) (a : Addr) (xs : List V) : Prop := ¬ W a ∧ H a = some (.tup xs)
/-- an instance's fields, as __init__ stores them -/
def Flds (T : Tb) (c : Nat) : Nat → List V → List (Str × V) → Prop
  | _, [], fs => fs = []
  | k, x :: xs, fs => ∃ f r, T.fn c k = some f ∧ fs = (f, x) :: r ∧ Flds T c (k + 1) xs r
/-- an exception's fields, in its dict -/
def FldX (T : Tb) (c : Nat) (xs : List V) (r : List (Str × V)) : Prop := ∀ (i : Nat) (v : V), xs[i]? = some v → ∃ f, T.fn c i = some f ∧ r.lookup f = some v
theorem Flds_g {T : Tb} {gh : Addr → Option HO} {c : Nat} : ∀ {k : Nat} {xs : List V} {fs : List (Str × V)}, Flds (T.g gh) c k xs fs = Flds T c k xs fs
  | _, [], _ => rfl
  | k, x :: xs, fs => by simp only [Flds, Flds_g (k := k + 1) (xs := xs)]; rfl

section
variable (T : Tb) (W : Addr → Prop) (H : Hp)
mutual
/-- data as it lies; what no one writes -/
def Rp : P → V → Prop
  | .non, v => v = .non
  | .bl b, v => v = .bl b
  | .int i, v => v = .int i
  | .str s, v => v = .str s
  | .tup l, v => ∃ a xs, v = .ref a ∧ TupAt W H a xs ∧ RpL l xs
  | .lst l, v => ∃ a xs, v = .ref a ∧ ¬ W a ∧ H a = some (.lst xs) ∧ RpL l xs
  | .dic false l, v => ∃ a kvs, v = .ref a ∧ ¬ W a ∧ H a = some (.dK kvs) ∧ (kvs.map (·.1)).Nodup ∧ RpD l kvs
  | .dic true l, v => ∃ a kvs, v = .ref a ∧ ¬ W a ∧ H a = some (.dT kvs) ∧ (kvs.map (·.1)).Nodup ∧ RpT l kvs
  | .set _, _ => False
  | .ins c fs, v => ∃ a dx xs r, v = .ref a ∧ ¬ W a ∧ H a = some (.ins (T.ca c) dx r) ∧ Flds T c 0 xs r ∧ RpL fs xs
  | .exc c fs, v => ∃ a, v = .ref a ∧ ¬ W a ∧ ((∃ d xs r, ¬ W d ∧ H a = some (exo a (T.ca c) (some d)) ∧ H d = some (exd d r) ∧ FldX T c xs r ∧ RpL fs xs) ∨ (fs = [] ∧ H a = some (ExO (.ref (T.ca c)) a)))
def RpL : List P → List V → Prop
  | [], xs => xs = []
  | d :: ds, xs => ∃ v r, xs = v :: r ∧ Rp d v ∧ RpL ds r
def RpD : List P → List (Key × V) → Prop
  | [], kvs => kvs = []
  | .tup xs :: r, kvs => ∃ k y q, kvs = (k, y) :: q ∧ RpL xs [kV k, y] ∧ RpD r q
  | _ :: _, _ => False
def RpT : List P → List (List Key × V) → Prop
  | [], kvs => kvs = []
  | .tup [k, v] :: r, kvs => ∃ ks y q, kvs = (ks, y) :: q ∧ kyT k = some ks ∧ Rp v y ∧ RpT r q
  | _ :: _, _ => False
end
end

section
variable (T : Tb)
/-- what is read at an address, whether it may change or not -/
def At (W : Addr → Prop) (H : Hp) : P → Addr → Prop
  | .lst l, a => ∃ xs, H a = some (.lst xs) ∧ RpL T W H l xs
  | .dic false l, a => ∃ kvs, H a = some (.dK kvs) ∧ (kvs.map (·.1)).Nodup ∧ RpD T W H l kvs
  | .dic true l, a => ∃ kvs, H a = some (.dT kvs) ∧ (kvs.map (·.1)).Nodup ∧ RpT T W H l kvs
  | .set l, a => ∃ ks : List Ky, kys l = some ks ∧ ks.Nodup ∧ H a = some (SetK T.P T.w a (fun k => ks.any fun j => decide (j = k)) ks.length)
  | _, _ => False

/-- where objects and fields' own objects lie -/
abbrev Al := Nat → Nat → Option Addr
/-- one field's value: data, or an object of its own -/
def FldV (W : Addr → Prop) (H : Hp) (o : Option Addr) : Bool × P → V → Prop
  | (false, x), v => Rp T W H x v
  | (true, _), v => ∃ a, o = some a ∧ v = .ref a
def FldsV (W : Addr → Prop) (H : Hp) (g : Nat → Option Addr) : Nat → List (Bool × P) → List V → Prop
  | _, [], xs => xs = []
  | k, f :: fs, xs => ∃ v r, xs = v :: r ∧ FldV T W H (g (k + 1)) f v ∧ FldsV W H g (k + 1) fs r
/-- an instance that may change -/
def InsAt (W : Addr → Prop) (H : Hp) (g : Nat → Option Addr) (c : Nat) (fs : List (Bool × P)) (a : Addr) : Prop :=
  ∃ dx xs r, H a = some (.ins (T.ca c) dx r) ∧ Flds T c 0 xs r ∧ FldsV T W H g 0 fs xs

/-- whether there is an object -/
def live (m : Mem) (n k : Nat) : Bool := match getM m n, k with
  | .ins _ _, 0 => true
  | _, _ => (cell m n k).isSome
/-- the memory as it lies in the heap -/
structure HR (α : Al) (W : Addr → Prop) (H : Hp) (m : Mem) : Prop where
  wd : ∀ a, W a → H a ≠ none
  out : ∀ n k, m.length ≤ n → α n k = none
  cel : ∀ n k x, cell m n k = some x → ∃ a, α n k = some a ∧ W a ∧ At T W H x a
  ins : ∀ n c fs, getM m n = .ins c fs → ∃ a, α n 0 = some a ∧ W a ∧ InsAt T W H (α n) c fs a
  inj : ∀ n k n' k' a, live m n k = true → live m n' k' = true → α n k = some a → α n' k' = some a → n = n' ∧ k = k'
  gho : ∀ a o, T.gh a = some o → W a ∧ H a = some o ∧ ∀ n k, live m n k = true → α n k ≠ some a

/-- from one state to a later one: what isn't written stays -/
structure Ext (α : Al) (W : Addr → Prop) (H : Hp) (α' : Al) (W' : Addr → Prop) (H' : Hp) : Prop where
  al : ∀ n k a, α n k = some a → α' n k = some a
  hp : ∀ a o, ¬ W a → H a = some o → H' a = some o ∧ ¬ W' a
/-- a value as it lies -/
def RD (α : Al) (W : Addr → Prop) (H : Hp) : D → V → Prop
  | .p x, v => Rp T W H x v
  | .ref n k, v => ∃ a, α n k = some a ∧ v = .ref a
  | .fn i, v => v = .ref (T.fa i)
  | .scr l, v => ∃ a, v = .ref a ∧ ((∃ o, ¬ W a ∧ H a = some (.frz o (.lst (l.map V.int)))) ∨ KLst T.K a (l.map V.int))
  | .gt l, v => ∃ a xs, v = .ref a ∧ KTup T.K a xs ∧ RpL T W H l xs
def RDL (α : Al) (W : Addr → Prop) (H : Hp) : List D → List V → Prop
  | [], xs => xs = []
  | d :: ds, xs => ∃ v r, xs = v :: r ∧ RD T α W H d v ∧ RDL α W H ds r
def RS (α : Al) (W : Addr → Prop) (H : Hp) (ρ : Env) (σ : L2.St) : Prop := ρ.length = σ.length ∧ ∀ (i : Nat) (d : D), ρ[i]? = some (some d) → ∃ v, σ[i]? = some (some v) ∧ RD T α W H d v
/-- data read off a value at this moment -/
def Rc (W : Addr → Prop) (H : Hp) (x : P) (v : V) : Prop := Rp T W H x v ∨ ∃ a, v = .ref a ∧ At T W H x a
def Rg (W : Addr → Prop) (H : Hp) (x : P) (v : V) : Prop := Rc T W H x v ∨ ∃ l a xs, x = .tup l ∧ v = .ref a ∧ KTup T.K a xs ∧ RpL T W H l xs
end
section
variable {T : Tb} {α α' α'' : Al} {W W' W'' : Addr → Prop} {H H' H'' : Hp}
theorem Ext.refl : Ext α W H α W H := ⟨fun _ _ _ h => h, fun _ _ h e => ⟨e, h⟩⟩
theorem Ext.trans (e : Ext α W H α' W' H') (e' : Ext α' W' H' α'' W'' H'') : Ext α W H α'' W'' H'' :=
  ⟨fun n k a h => e'.al n k a (e.al n k a h), fun a o h1 h2 => let ⟨h3, h4⟩ := e.hp a o h1 h2; e'.hp a o h4 h3⟩
theorem TupAt.ext (e : Ext α W H α' W' H') {a : Addr} {xs : List V} (h : TupAt W H a xs) : TupAt W' H' a xs := by
  obtain ⟨h1, h2⟩ := h
  obtain ⟨h3, h4⟩ := e.hp a _ h1 h2
  exact ⟨h4, h3⟩
mutual
theorem Rp.ext (e : Ext α W H α' W' H') : ∀ (x : P) (v : V), Rp T W H x v → Rp T W' H' x v
  | .non, _, h => by simpa only [Rp] using h
  | .bl _, _, h => by simpa only [Rp] using h
  | .int _, _, h => by simpa only [Rp] using h
  | .str _, _, h => by simpa only [Rp] using h
  | .tup l, v, h => by
    simp only [Rp] at h ⊢
    obtain ⟨a, xs, rfl, h1, h2⟩ := h
    exact ⟨a, xs, rfl, h1.ext e, RpL.ext e l xs h2⟩
  | .lst l, v, h => by
    simp only [Rp] at h ⊢
    obtain ⟨a, xs, rfl, h1, h2, h3⟩ := h
    obtain ⟨h4, h5⟩ := e.hp a _ h1 h2
    exact ⟨a, xs, rfl, h5, h4, RpL.ext e l xs h3⟩
  | .dic false l, v, h => by
    simp only [Rp] at h ⊢
    obtain ⟨a, xs, rfl, h1, h2, nd, h3⟩ := h
    obtain ⟨h4, h5⟩ := e.hp a _ h1 h2
    exact ⟨a, xs, rfl, h5, h4, nd, RpD.ext e l xs h3⟩
  | .dic true l, v, h => by
    simp only [Rp] at h ⊢
    obtain ⟨a, xs, rfl, h1, h2, nd, h3⟩ := h
    obtain ⟨h4, h5⟩ := e.hp a _ h1 h2
    exact ⟨a, xs, rfl, h5, h4, nd, RpT.ext e l xs h3⟩
  | .set _, _, h => by simp only [Rp] at h
  | .ins c fs, v, h => by
    simp only [Rp] at h ⊢
    obtain ⟨a, dx, xs, r, rfl, h1, h2, h3, h4⟩ := h
    obtain ⟨h5, h6⟩ := e.hp a _ h1 h2
    exact ⟨a, dx, xs, r, rfl, h6, h5, h3, RpL.ext e fs xs h4⟩
  | .exc c fs, v, h => by
    simp only [Rp] at h ⊢
    obtain ⟨a, rfl, h1, h2⟩ := h
    refine ⟨a, rfl, ?_⟩
    rcases h2 with ⟨d, xs, r, h3, h4, h5, h6, h7⟩ | ⟨rfl, h3⟩
    · obtain ⟨g1, g2⟩ := e.hp a _ h1 h4
      obtain ⟨g3, g4⟩ := e.hp d _ h3 h5
      exact ⟨g2, .inl ⟨d, xs, r, g4, g1, g3, h6, RpL.ext e fs xs h7⟩⟩
    · obtain ⟨g1, g2⟩ := e.hp a _ h1 h3
      exact ⟨g2, .inr ⟨rfl, g1⟩⟩
theorem RpL.ext (e : Ext α W H α' W' H') : ∀ (l : List P) (xs : List V), RpL T W H l xs → RpL T W' H' l xs
  | [], _, h => by simpa only [RpL] using h
  | d :: ds, xs, h => by
    simp only [RpL] at h ⊢
    obtain ⟨v, r, rfl, h1, h2⟩ := h
    exact ⟨v, r, rfl, Rp.ext e d v h1, RpL.ext e ds r h2⟩
theorem RpD.ext (e : Ext α W H α' W' H') : ∀ (l : List P) (xs : List (Key × V)), RpD T W H l xs → RpD T W' H' l xs
  | [], _, h => by simpa only [RpD] using h
  | .tup l :: ds, xs, h => by
    simp only [RpD] at h ⊢
    obtain ⟨k, y, q, rfl, h1, h2⟩ := h
    exact ⟨k, y, q, rfl, RpL.ext e l _ h1, RpD.ext e ds q h2⟩
  | .non :: _, _, h => by simp only [RpD] at h
  | .bl _ :: _, _, h => by simp only [RpD] at h
  | .int _ :: _, _, h => by simp only [RpD] at h
  | .str _ :: _, _, h => by simp only [RpD] at h
  | .lst _ :: _, _, h => by simp only [RpD] at h
  | .dic _ _ :: _, _, h => by simp only [RpD] at h
  | .set _ :: _, _, h => by simp only [RpD] at h
  | .ins _ _ :: _, _, h => by simp only [RpD] at h
  | .exc _ _ :: _, _, h => by simp only [RpD] at h
theorem RpT.ext (e : Ext α W H α' W' H') : ∀ (l : List P) (xs : List (List Key × V)), RpT T W H l xs → RpT T W' H' l xs
  | [], _, h => by simpa only [RpT] using h
  | .tup [k, v] :: ds, xs, h => by
    simp only [RpT] at h ⊢
    obtain ⟨ks, y, q, rfl, h1, h2, h3⟩ := h
    exact ⟨ks, y, q, rfl, h1, Rp.ext e v _ h2, RpT.ext e ds q h3⟩
  | .tup [] :: _, _, h => by simp only [RpT] at h
  | .tup [_] :: _, _, h => by simp only [RpT] at h
  | .tup (_ :: _ :: _ :: _) :: _, _, h => by simp only [RpT] at h
  | .non :: _, _, h => by simp only [RpT] at h
  | .bl _ :: _, _, h => by simp only [RpT] at h
  | .int _ :: _, _, h => by simp only [RpT] at h
  | .str _ :: _, _, h => by simp only [RpT] at h
  | .lst _ :: _, _, h => by simp only [RpT] at h
  | .dic _ _ :: _, _, h => by simp only [RpT] at h
  | .set _ :: _, _, h => by simp only [RpT] at h
  | .ins _ _ :: _, _, h => by simp only [RpT] at h
  | .exc _ _ :: _, _, h => by simp only [RpT] at h
end
theorem RD.ext (e : Ext α W H α' W' H') : ∀ (d : D) (v : V), RD T α W H d v → RD T α' W' H' d v
  | .p x, v, h => Rp.ext e x v h
  | .ref n k, v, ⟨a, h1, h2⟩ => ⟨a, e.al n k a h1, h2⟩
  | .fn i, v, h => h
  | .scr l, v, ⟨a, h1, .inl ⟨o, h2, h3⟩⟩ => let ⟨h4, h5⟩ := e.hp a _ h2 h3; ⟨a, h1, .inl ⟨o, h5, h4⟩⟩
  | .scr l, v, ⟨a, h1, .inr h2⟩ => ⟨a, h1, .inr h2⟩
  | .gt l, v, ⟨a, xs, h1, h2, h3⟩ => ⟨a, xs, h1, h2, RpL.ext e l xs h3⟩
theorem RDL.ext (e : Ext α W H α' W' H') : ∀ (d : List D) (v : List V), RDL T α W H d v → RDL T α' W' H' d v
  | [], v, h => h
  | d :: ds, v, ⟨x, r, h1, h2, h3⟩ => ⟨x, r, h1, h2.ext e, RDL.ext e ds r h3⟩
theorem RS.ext (e : Ext α W H α' W' H') {ρ : Env} {σ : L2.St} (h : RS T α W H ρ σ) : RS T α' W' H' ρ σ :=
  ⟨h.1, fun i d q => let ⟨v, h1, h2⟩ := h.2 i d q; ⟨v, h1, h2.ext e⟩⟩
mutual
theorem Rp_g {gh : Addr → Option HO} : ∀ (x : P) (v : V), Rp (T.g gh) W H x v ↔ Rp T W H x v
  | .non, _ => by simp only [Rp]
  | .bl _, _ => by simp only [Rp]
  | .int _, _ => by simp only [Rp]
  | .str _, _ => by simp only [Rp]
  | .tup l, v => by simp only [Rp, RpL_g l]
  | .lst l, v => by simp only [Rp, RpL_g l]
  | .dic false l, v => by simp only [Rp, RpD_g l]
  | .dic true l, v => by simp only [Rp, RpT_g l]
  | .set _, _ => by simp only [Rp]
  | .ins c fs, v => by simp only [Rp, RpL_g fs, Flds_g]; exact Iff.rfl
  | .exc c fs, v => by simp only [Rp, RpL_g fs]; exact Iff.rfl
theorem RpL_g {gh : Addr → Option HO} : ∀ (l : List P) (xs : List V), RpL (T.g gh) W H l xs ↔ RpL T W H l xs
  | [], _ => by simp only [RpL]
  | d :: ds, xs => by simp only [RpL, Rp_g d, RpL_g ds]
theorem RpD_g {gh : Addr → Option HO} : ∀ (l : List P) (xs : List (Key × V)), RpD (T.g gh) W H l xs ↔ RpD T W H l xs
  | [], _ => by simp only [RpD]
  | .tup l :: ds, xs => by simp only [RpD, RpL_g l, RpD_g ds]
  | .non :: _, _ => by simp only [RpD]
  | .bl _ :: _, _ => by simp only [RpD]
  | .int _ :: _, _ => by simp only [RpD]
  | .str _ :: _, _ => by simp only [RpD]
  | .lst _ :: _, _ => by simp only [RpD]
  | .dic _ _ :: _, _ => by simp only [RpD]
  | .set _ :: _, _ => by simp only [RpD]
  | .ins _ _ :: _, _ => by simp only [RpD]
  | .exc _ _ :: _, _ => by simp only [RpD]
theorem RpT_g {gh : Addr → Option HO} : ∀ (l : List P) (xs : List (List Key × V)), RpT (T.g gh) W H l xs ↔ RpT T W H l xs
  | [], _ => by simp only [RpT]
  | .tup [k, v] :: ds, xs => by simp only [RpT, Rp_g v, RpT_g ds]
  | .tup [] :: _, _ => by simp only [RpT]
  | .tup [_] :: _, _ => by simp only [RpT]
  | .tup (_ :: _ :: _ :: _) :: _, _ => by simp only [RpT]
  | .non :: _, _ => by simp only [RpT]
  | .bl _ :: _, _ => by simp only [RpT]
  | .int _ :: _, _ => by simp only [RpT]
  | .str _ :: _, _ => by simp only [RpT]
  | .lst _ :: _, _ => by simp only [RpT]
  | .dic _ _ :: _, _ => by simp only [RpT]
  | .set _ :: _, _ => by simp only [RpT]
  | .ins _ _ :: _, _ => by simp only [RpT]
  | .exc _ _ :: _, _ => by simp only [RpT]
end
theorem Rp_ge (T : Tb) (W : Addr → Prop) (H : Hp) (gh : Addr → Option HO) : Rp (T.g gh) W H = Rp T W H := by funext x v; exact propext (Rp_g x v)
theorem RpL_ge (T : Tb) (W : Addr → Prop) (H : Hp) (gh : Addr → Option HO) : RpL (T.g gh) W H = RpL T W H := by funext x v; exact propext (RpL_g x v)
theorem RpD_ge (T : Tb) (W : Addr → Prop) (H : Hp) (gh : Addr → Option HO) : RpD (T.g gh) W H = RpD T W H := by funext x v; exact propext (RpD_g x v)
theorem RpT_ge (T : Tb) (W : Addr → Prop) (H : Hp) (gh : Addr → Option HO) : RpT (T.g gh) W H = RpT T W H := by funext x v; exact propext (RpT_g x v)
theorem At_ge (T : Tb) (W : Addr → Prop) (H : Hp) (gh : Addr → Option HO) : At (T.g gh) W H = At T W H := by
  funext x a
  unfold At
  split <;> try simp only [RpL_ge, RpD_ge, RpT_ge]
  all_goals rfl
theorem RD_ge (T : Tb) (α : Al) (W : Addr → Prop) (H : Hp) (gh : Addr → Option HO) : RD (T.g gh) α W H = RD T α W H := by
  funext d v
  cases d <;> try simp only [RD, Rp_ge, RpL_ge]
  all_goals rfl
theorem RDL_ge (T : Tb) (α : Al) (W : Addr → Prop) (H : Hp) (gh : Addr → Option HO) : ∀ ds vs, RDL (T.g gh) α W H ds vs = RDL T α W H ds vs
  | [], _ => rfl
  | d :: ds, vs => by simp only [RDL, RD_ge, RDL_ge T α W H gh ds]
theorem RS_ge (T : Tb) (α : Al) (W : Addr → Prop) (H : Hp) (gh : Addr → Option HO) : RS (T.g gh) α W H = RS T α W H := by
  funext ρ σ
  simp only [RS, RD_ge]
theorem FldV_ge (T : Tb) (W : Addr → Prop) (H : Hp) (gh : Addr → Option HO) (o : Option Addr) (f : Bool × P) : FldV (T.g gh) W H o f = FldV T W H o f := by
  obtain ⟨b, x⟩ := f
  funext v
  cases b <;> simp only [FldV, Rp_ge]
theorem FldsV_ge (T : Tb) (W : Addr → Prop) (H : Hp) (gh : Addr → Option HO) (g : Nat → Option Addr) : ∀ k fs xs, FldsV (T.g gh) W H g k fs xs = FldsV T W H g k fs xs
  | _, [], _ => rfl
  | k, f :: fs, xs => by simp only [FldsV, FldV_ge, FldsV_ge T W H gh g (k + 1) fs]
theorem InsAt_ge (T : Tb) (W : Addr → Prop) (H : Hp) (gh : Addr → Option HO) (g : Nat → Option Addr) (c : Nat) (fs : List (Bool × P)) (a : Addr) : InsAt (T.g gh) W H g c fs a = InsAt T W H g c fs a := by
  simp only [InsAt, FldsV_ge, Flds_g]
  rfl
theorem HR.gh {m : Mem} {gh : Addr → Option HO} (hr : HR T α W H m) (hg : ∀ a o, gh a = some o → W a ∧ H a = some o ∧ ∀ n k, live m n k = true → α n k ≠ some a) : HR (T.g gh) α W H m where
  wd := hr.wd
  out := hr.out
  cel := fun n k x h => by rw [At_ge]; exact hr.cel n k x h
  ins := fun n c fs h => let ⟨a, h1, h2, h3⟩ := hr.ins n c fs h; ⟨a, h1, h2, (InsAt_ge T W H gh (α n) c fs a).mpr h3⟩
  inj := hr.inj
  gho := hg
/-- less is written: more is told -/
theorem Ext.less (h : ∀ a, W' a → W a) : Ext α W H α W' H := ⟨fun _ _ _ h => h, fun a _ q e => ⟨e, fun z => q (h a z)⟩⟩
theorem At.ext {x : P} {a : Addr} (e : Ext α W H α' W' H') (hs : ∀ o, H a = some o → H' a = some o) (h : At T W H x a) : At T W' H' x a := by
  unfold At at h ⊢
  split at h
  · obtain ⟨xs, h1, h2⟩ := h
    exact ⟨xs, hs _ h1, RpL.ext e _ _ h2⟩
  · obtain ⟨xs, h1, nd, h2⟩ := h
    exact ⟨xs, hs _ h1, nd, RpD.ext e _ _ h2⟩
  · obtain ⟨xs, h1, nd, h2⟩ := h
    exact ⟨xs, hs _ h1, nd, RpT.ext e _ _ h2⟩
  · obtain ⟨ks, h1, nd, h2⟩ := h
    exact ⟨ks, h1, nd, hs _ h2⟩
  · exact h
theorem FldV.ext {o o' : Option Addr} {f : Bool × P} {v : V} (e : Ext α W H α' W' H') (ho : ∀ a, o = some a → o' = some a) (h : FldV T W H o f v) : FldV T W' H' o' f v := by
  obtain ⟨b, x⟩ := f
  cases b with
  | false => exact Rp.ext e x v h
  | true => obtain ⟨a, h1, h2⟩ := h; exact ⟨a, ho a h1, h2⟩
theorem FldsV.ext {g g' : Nat → Option Addr} (e : Ext α W H α' W' H') (hg : ∀ k a, g k = some a → g' k = some a) : ∀ (k : Nat) (fs : List (Bool × P)) (xs : List V), FldsV T W H g k fs xs → FldsV T W' H' g' k fs xs
  | _, [], _, h => h
  | k, f :: fs, xs, ⟨v, r, h1, h2, h3⟩ => ⟨v, r, h1, h2.ext e fun a => hg _ a, FldsV.ext e hg (k + 1) fs r h3⟩
theorem InsAt.ext {g g' : Nat → Option Addr} {c : Nat} {fs : List (Bool × P)} {a : Addr} (e : Ext α W H α' W' H') (hs : ∀ o, H a = some o → H' a = some o) (hg : ∀ k a, g k = some a → g' k = some a) (h : InsAt T W H g c fs a) : InsAt T W' H' g' c fs a := by
  obtain ⟨dx, xs, r, h1, h2, h3⟩ := h
  exact ⟨dx, xs, r, hs _ h1, h2, h3.ext e hg⟩
end
end Lot
/-! LotC: outcomes, readings, what stays of a memory. -/
namespace Lot
open PySem PySem.Spec PyProof.Rows L2

section
variable {T : Tb} {α α' : Al} {W W' : Addr → Prop} {H H' : Hp} {m : Mem}
/-- an outcome suffices: whatever later state bears it, Q -/
def Hg (T : Tb) {β : Type} (α : Al) (W : Addr → Prop) (H : Hp) (o : Out β) (Q : β → Mem → Al → (Addr → Prop) → Hp → Prop) : Prop := match o with
  | .ok b m => ∀ α' W' H', Ext α W H α' W' H' → HR T α' W' H' m → Q b m α' W' H'
  | _ => False
/-- the end of an expression -/
def fin (T : Tb) (Q : VK) : D → Mem → Al → (Addr → Prop) → Hp → Prop := fun d _ α W H => ∀ v, RD T α W H d v → Q v H
/-- .. whose value is a new list, which may still change -/
def HgF (T : Tb) (α : Al) (W : Addr → Prop) (H : Hp) (o : Out D) (Q : VK) : Prop := match o with
  | .ok (.p (.lst l)) m => ∀ α' W' H' xs p, Ext α W H α' W' H' → HR T α' W' H' m → W' p → H' p = some (.lst xs) → RpL T W' H' l xs → (∀ n k, live m n k = true → α' n k ≠ some p) → T.gh p = none → Q (.ref p) H'
  | _ => False
def Hx (T : Tb) (α : Al) (W : Addr → Prop) (H : Hp) (o : Out D) (Q : VK) : Prop := Hg T α W H o (fin T Q) ∨ HgF T α W H o Q
theorem Hg.mono {β : Type} {o : Out β} {Q Q' : β → Mem → Al → (Addr → Prop) → Hp → Prop} (h : Hg T α W H o Q) (f : ∀ b m α' W' H', Ext α W H α' W' H' → HR T α' W' H' m → Q b m α' W' H' → Q' b m α' W' H') : Hg T α W H o Q' := by
  unfold Hg at h ⊢
  split at h
  · intro α' W' H' e hr
    exact f _ _ _ _ _ e hr (h α' W' H' e hr)
  · exact h
theorem Hg.from {β : Type} {o : Out β} {Q : β → Mem → Al → (Addr → Prop) → Hp → Prop} (e : Ext α W H α' W' H') (h : Hg T α W H o Q) : Hg T α' W' H' o Q := by
  unfold Hg at h ⊢
  split at h
  · intro α2 W2 H2 e2 hr
    exact h _ _ _ (e.trans e2) hr
  · exact h
theorem HgF.from {o : Out D} {Q : VK} (e : Ext α W H α' W' H') (h : HgF T α W H o Q) : HgF T α' W' H' o Q := by
  unfold HgF at h ⊢
  split at h
  · intro α2 W2 H2 xs p e2 hr
    exact h _ _ _ _ _ (e.trans e2) hr
  · exact h
theorem Hx.from {o : Out D} {Q : VK} (e : Ext α W H α' W' H') (h : Hx T α W H o Q) : Hx T α' W' H' o Q := h.imp (·.from e) (·.from e)
theorem Hg.bind {β γ : Type} {o : Out β} {f : β → Mem → Out γ} {Q : γ → Mem → Al → (Addr → Prop) → Hp → Prop} (h : Hg T α W H (o.bind f) Q) : Hg T α W H o fun b m α1 W1 H1 => Hg T α1 W1 H1 (f b m) Q := by
  cases o with
  | ok b m => exact fun α1 W1 H1 e hr => Hg.from e h
  | exn _ _ _ => exact h
  | bad => exact h
theorem HgF.bind {β : Type} {o : Out β} {f : β → Mem → Out D} {Q : VK} (h : HgF T α W H (o.bind f) Q) : Hg T α W H o fun b m α1 W1 H1 => HgF T α1 W1 H1 (f b m) Q := by
  cases o with
  | ok b m => exact fun α1 W1 H1 e hr => HgF.from e h
  | exn _ _ _ => exact h.elim
  | bad => exact h.elim
theorem Hx.bind {β : Type} {o : Out β} {f : β → Mem → Out D} {Q : VK} (h : Hx T α W H (o.bind f) Q) : Hg T α W H o fun b m α1 W1 H1 => Hx T α1 W1 H1 (f b m) Q := by
  rcases h with h | h
  · exact h.bind.mono fun _ _ _ _ _ _ _ q => .inl q
  · exact h.bind.mono fun _ _ _ _ _ _ _ q => .inr q
theorem Hg.ok {β : Type} {b : β} {Q : β → Mem → Al → (Addr → Prop) → Hp → Prop} (h : Hg T α W H (.ok b m) Q) {α' : Al} {W' : Addr → Prop} {H' : Hp} (e : Ext α W H α' W' H') (hr : HR T α' W' H' m) : Q b m α' W' H' := h α' W' H' e hr
theorem Hg.here {β : Type} {b : β} {Q : β → Mem → Al → (Addr → Prop) → Hp → Prop} (h : Hg T α W H (.ok b m) Q) (hr : HR T α W H m) : Q b m α W H := h α W H .refl hr
/-- a value that is data already read -/
theorem Hx.p {x : P} {Q : VK} (h : Hx T α W H (.ok (.p x) m) Q) (hx : ∀ l, x ≠ .lst l) {α' : Al} {W' : Addr → Prop} {H' : Hp} (e : Ext α W H α' W' H') (hr : HR T α' W' H' m) {v : V} (r : Rp T W' H' x v) : Q v H' := by
  rcases h with h | h
  · exact h α' W' H' e hr v r
  · cases x <;> first | exact h.elim | exact absurd rfl (hx _)

theorem live_cell {n k : Nat} {x : P} (h : cell m n k = some x) : live m n k = true := by
  unfold live
  split
  · rfl
  · rw [h]; rfl
theorem live_ins {n c : Nat} {fs : List (Bool × P)} (h : getM m n = .ins c fs) : live m n 0 = true := by
  unfold live; rw [h]; rfl
theorem HR.keep (hr : HR T α W H m) (e : Ext α W H α W' H') (hw : ∀ a, W' a → H' a ≠ none) (hs : ∀ a o, (∃ n k, live m n k = true ∧ α n k = some a) ∨ (∃ u, T.gh a = some u) → W a → H a = some o → H' a = some o ∧ W' a) : HR T α W' H' m where
  wd := hw
  out := hr.out
  cel := fun n k x h => by
    obtain ⟨a, h1, h2, h3⟩ := hr.cel n k x h
    obtain ⟨o, ho⟩ : ∃ o, H a = some o := by
      cases q : H a with
      | none => exact absurd q (hr.wd a h2)
      | some o => exact ⟨o, rfl⟩
    have hl : (∃ n k, live m n k = true ∧ α n k = some a) ∨ (∃ u, T.gh a = some u) := .inl ⟨n, k, live_cell h, h1⟩
    exact ⟨a, h1, (hs a o hl h2 ho).2, h3.ext e fun o' q => (hs a o' hl h2 q).1⟩
  ins := fun n c fs h => by
    obtain ⟨a, h1, h2, h3⟩ := hr.ins n c fs h
    obtain ⟨o, ho⟩ : ∃ o, H a = some o := by
      cases q : H a with
      | none => exact absurd q (hr.wd a h2)
      | some o => exact ⟨o, rfl⟩
    have hl : (∃ n k, live m n k = true ∧ α n k = some a) ∨ (∃ u, T.gh a = some u) := .inl ⟨n, 0, live_ins h, h1⟩
    exact ⟨a, h1, (hs a o hl h2 ho).2, h3.ext e (fun o' q => (hs a o' hl h2 q).1) fun _ _ q => q⟩
  inj := hr.inj
  gho := fun a o h => by
    obtain ⟨h1, h2, h3⟩ := hr.gho a o h
    obtain ⟨h4, h5⟩ := hs a o (.inr ⟨o, h⟩) h1 h2
    exact ⟨h5, h4, h3⟩
/-- the heap grows by a new object -/
theorem Ext.new {p : Addr} {o : HO} (hp : H p = none) : Ext α W H α W (upd H p o) :=
  ⟨fun _ _ _ h => h, fun a o' h e => ⟨by rw [upd_ne (ne_of_none e hp)]; exact e, h⟩⟩
theorem HR.new {p : Addr} {o : HO} (hr : HR T α W H m) (hp : H p = none) : HR T α W (upd H p o) m :=
  hr.keep (.new hp) (fun a h q => by
    by_cases z : a = p
    · subst z; exact hr.wd a h hp
    · rw [upd_ne z] at q; exact hr.wd a h q) fun a o' _ hw e => ⟨by rw [upd_ne (ne_of_none e hp)]; exact e, hw⟩
theorem HR.free {p : Addr} (hr : HR T α W H m) (hp : H p = none) : ¬ W p := fun h => hr.wd p h hp
/-- a new object that is ours, but no object of the memory's -/
abbrev wUp (W : Addr → Prop) (p : Addr) : Addr → Prop := fun a => W a ∨ a = p
abbrev wDn (W : Addr → Prop) (p : Addr) : Addr → Prop := fun a => W a ∧ a ≠ p
theorem Ext.hid {p : Addr} {o : HO} (hp : H p = none) : Ext α W H α (wUp W p) (upd H p o) :=
  ⟨fun _ _ _ h => h, fun a o' h e => ⟨by rw [upd_ne (ne_of_none e hp)]; exact e, fun z => z.elim h (ne_of_none e hp)⟩⟩
theorem HR.hid {p : Addr} {o : HO} (hr : HR T α W H m) (hp : H p = none) : HR T α (wUp W p) (upd H p o) m :=
  hr.keep (.hid hp) (fun a h q => by
    by_cases z : a = p
    · subst z; rw [upd_same] at q; cases q
    · rw [upd_ne z] at q
      rcases h with h | h
      · exact hr.wd a h q
      · exact z h) fun a o' _ hw e => ⟨by rw [upd_ne (ne_of_none e hp)]; exact e, .inl hw⟩
/-- what is live lies somewhere -/
theorem HR.at_ (hr : HR T α W H m) (n k : Nat) (hl : live m n k = true) : ∃ a, α n k = some a ∧ W a := by
  have go : ∀ x, cell m n k = some x → ∃ a, α n k = some a ∧ W a := fun x q => let ⟨a, h1, h2, _⟩ := hr.cel n k x q; ⟨a, h1, h2⟩
  have go2 : (cell m n k).isSome = true → ∃ a, α n k = some a ∧ W a := fun h => by
    cases q : cell m n k with
    | none => rw [q] at h; cases h
    | some x => exact go x q
  cases q : getM m n with
  | ins c fs =>
    cases k with
    | zero => obtain ⟨a, h1, h2, _⟩ := hr.ins n c fs q; exact ⟨a, h1, h2⟩
    | succ k => exact go2 (by simpa [live, q] using hl)
  | val x => exact go2 (by simpa [live, q] using hl)
  | dead => exact go2 (by simpa [live, q] using hl)
theorem HR.noAl {p : Addr} (hr : HR T α W H m) (hp : H p = none) (n k : Nat) (hl : live m n k = true) : α n k ≠ some p := fun e => by
  obtain ⟨a, h1, h2⟩ := hr.at_ n k hl
  rw [e] at h1; cases h1
  exact hr.wd _ h2 hp
theorem live_lt {n k : Nat} (h : live m n k = true) : n < m.length := by
  refine Nat.lt_of_not_le fun q => ?_
  have e : getM m n = .dead := by unfold getM; rw [List.getElem?_eq_none q]; rfl
  simp [live, cell, e] at h
/-- an object of ours is from now on read alone -/
theorem HR.less {p : Addr} (hr : HR T α W H m) (hn : ∀ n k, live m n k = true → α n k ≠ some p) (hg : T.gh p = none) : HR T α (wDn W p) H m where
  wd := fun a h => hr.wd a h.1
  out := hr.out
  cel := fun n k x h => by
    obtain ⟨a, h1, h2, h3⟩ := hr.cel n k x h
    exact ⟨a, h1, ⟨h2, fun z => hn n k (live_cell h) (by rw [h1, z])⟩, h3.ext (α := α) (α' := α) (.less fun _ z => z.1) fun _ q => q⟩
  ins := fun n c fs h => by
    obtain ⟨a, h1, h2, h3⟩ := hr.ins n c fs h
    exact ⟨a, h1, ⟨h2, fun z => hn n 0 (live_ins h) (by rw [h1, z])⟩, h3.ext (α := α) (α' := α) (.less fun _ z => z.1) (fun _ q => q) fun _ _ q => q⟩
  inj := hr.inj
  gho := fun a o h => by
    obtain ⟨h1, h2, h3⟩ := hr.gho a o h
    exact ⟨⟨h1, fun z => by rw [z, hg] at h; cases h⟩, h2, h3⟩
theorem Ext.dn {p : Addr} (e : Ext α W H α' W' H') : Ext α W H α' (wDn W' p) H' := ⟨e.al, fun a o h q => let ⟨h1, h2⟩ := e.hp a o h q; ⟨h1, fun z => h2 z.1⟩⟩
/-- a new list as data -/
theorem Hg.frozen {l : List P} {Q : VK} (h : Hg T α W H (.ok (.p (.lst l)) m) (fin T Q)) : HgF T α W H (.ok (.p (.lst l)) m) Q := fun α' W' H' xs p e hr _ hp rl hn hg =>
  h α' (wDn W' p) H' e.dn (hr.less hn hg) (.ref p) (by
    show Rp T (wDn W' p) H' (.lst l) (.ref p)
    simp only [Rp]
    exact ⟨p, xs, rfl, fun z => z.2 rfl, hp, RpL.ext (α := α') (α' := α') (.less fun _ z => z.1) l xs rl⟩)
theorem Hx.F {l : List P} {Q : VK} (h : Hx T α W H (.ok (.p (.lst l)) m) Q) : HgF T α W H (.ok (.p (.lst l)) m) Q := h.elim (·.frozen) id
theorem getM_app {x : Obj} {n : Nat} (h : n < m.length) : getM (m ++ [x]) n = getM m n := by
  unfold getM; rw [List.getElem?_append_left h]
theorem getM_new {x : Obj} : getM (m ++ [x]) m.length = x := by
  unfold getM; rw [List.getElem?_append_right (Nat.le_refl _)]; simp
theorem getM_out {n : Nat} (h : m.length ≤ n) : getM m n = .dead := by
  unfold getM; rw [List.getElem?_eq_none h]; rfl
def aUp (α : Al) (n k : Nat) (p : Addr) : Al := fun i j => if i = n ∧ j = k then some p else α i j
theorem aUp_same {n k : Nat} {p : Addr} : aUp α n k p n k = some p := by unfold aUp; rw [if_pos ⟨rfl, rfl⟩]
theorem aUp_ne {n k i j : Nat} {p : Addr} (h : ¬ (i = n ∧ j = k)) : aUp α n k p i j = α i j := by unfold aUp; rw [if_neg h]
theorem live_app {x : P} {i j : Nat} (h : live (m ++ [.val x]) i j = true) : (i = m.length ∧ j = 0) ∨ live m i j = true := by
  by_cases hl : i < m.length
  · right
    unfold live cell at h ⊢
    rw [getM_app hl] at h
    exact h
  · left
    have := live_lt h
    rw [List.length_append] at this
    have this : i < m.length + 1 := this
    have e : i = m.length := by omega
    subst e
    refine ⟨rfl, ?_⟩
    unfold live cell at h
    rw [getM_new] at h
    cases j with
    | zero => rfl
    | succ j => simp at h
/-- what stands hidden is no new object -/
theorem HR.noGh {p : Addr} (hr : HR T α W H m) (hp : H p = none) : T.gh p = none := by
  cases q : T.gh p with
  | none => rfl
  | some o => have := (hr.gho p o q).2.1; rw [hp] at this; cases this
/-- a new object of the memory's -/
theorem HR.put {p : Addr} {x : P} (hr : HR T α W H m) (hw : W p) (ha : At T W H x p) (hn : ∀ n k, live m n k = true → α n k ≠ some p) (hg : T.gh p = none) : HR T (aUp α m.length 0 p) W H (m ++ [.val x]) where
  wd := hr.wd
  out := fun n k h => by
    rw [List.length_append] at h
    have h' : m.length + 1 ≤ n := h
    rw [aUp_ne (by omega)]
    exact hr.out n k (by omega)
  cel := fun n k y h => by
    by_cases hl : n < m.length
    · have e : cell (m ++ [.val x]) n k = cell m n k := by unfold cell; rw [getM_app hl]
      rw [e] at h
      rw [aUp_ne (by omega)]
      obtain ⟨a, h1, h2, h3⟩ := hr.cel n k y h
      exact ⟨a, h1, h2, h3⟩
    · by_cases he : n = m.length
      · subst he
        unfold cell at h
        rw [getM_new] at h
        cases k with
        | zero => cases h; exact ⟨p, aUp_same, hw, ha⟩
        | succ k => cases h
      · unfold cell at h
        rw [getM_out (by rw [List.length_append]; show m.length + 1 ≤ n; omega)] at h
        cases h
  ins := fun n c fs h => by
    by_cases hl : n < m.length
    · rw [getM_app hl] at h
      rw [aUp_ne (by omega)]
      obtain ⟨a, h1, h2, h3⟩ := hr.ins n c fs h
      exact ⟨a, h1, h2, h3.ext (α := α) (α' := α) .refl (fun _ q => q) fun k b q => by rw [aUp_ne (by omega)]; exact q⟩
    · by_cases he : n = m.length
      · subst he; rw [getM_new] at h; cases h
      · rw [getM_out (by rw [List.length_append]; show m.length + 1 ≤ n; omega)] at h
        cases h
  inj := fun n k n' k' a l1 l2 e1 e2 => by
    rcases live_app l1 with ⟨rfl, rfl⟩ | q1
    · rcases live_app l2 with ⟨rfl, rfl⟩ | q2
      · exact ⟨rfl, rfl⟩
      · rw [aUp_same] at e1; cases e1
        have := live_lt q2
        rw [aUp_ne (by omega)] at e2
        exact absurd e2 (hn _ _ q2)
    · have := live_lt q1
      rw [aUp_ne (by omega)] at e1
      rcases live_app l2 with ⟨rfl, rfl⟩ | q2
      · rw [aUp_same] at e2; cases e2
        exact absurd e1 (hn _ _ q1)
      · have := live_lt q2
        rw [aUp_ne (by omega)] at e2
        exact hr.inj n k n' k' a q1 q2 e1 e2
  gho := fun a o h => by
    obtain ⟨h1, h2, h3⟩ := hr.gho a o h
    refine ⟨h1, h2, fun i j l q => ?_⟩
    rcases live_app l with ⟨rfl, rfl⟩ | q2
    · rw [aUp_same] at q; cases q
      rw [hg] at h; cases h
    · have := live_lt q2
      rw [aUp_ne (by omega)] at q
      exact h3 _ _ q2 q
theorem Ext.up {n k : Nat} {p : Addr} (e : Ext α W H α' W' H') (h : α n k = none) : Ext α W H (aUp α' n k p) W' H' := ⟨fun i j a q => by
  by_cases z : i = n ∧ j = k
  · obtain ⟨rfl, rfl⟩ := z; rw [h] at q; cases q
  · rw [aUp_ne z]; exact e.al i j a q, e.hp⟩
theorem Ext.unset (e : Ext α W H α' W' H') (hr : HR T α' W' H' m) {n k : Nat} (h : m.length ≤ n) : α n k = none := by
  cases q : α n k with
  | none => rfl
  | some a => have := e.al n k a q; rw [hr.out n k h] at this; cases this
/-- a new list as an object of the memory -/
theorem Hg.alloc {l : List P} {Q : VK} (h : Hg T α W H (.ok (.ref m.length 0) (m ++ [.val (.lst l)])) (fin T Q)) : HgF T α W H (.ok (.p (.lst l)) m) Q := fun α' W' H' xs p e hr hw hp rl hn hg =>
  h (aUp α' m.length 0 p) W' H' (e.up (e.unset hr (Nat.le_refl _))) (hr.put hw ⟨xs, hp, rl⟩ hn hg) (.ref p) ⟨p, aUp_same, rfl⟩
end
end Lot
/-! LotD: operators, places, slices, tests over the hand layer. -/
namespace Lot
open PySem PySem.Spec PyProof.Rows L2

/-- a context of the hand layer that the table speaks of -/
structure CxOk (T : Tb) (X : Cx) : Prop where
  P : X.prog = T.P
  w : X.w = T.w
  K : X.K = T.K
  calm : X.calm = true
  nd : X.N.Nodup
  hu : X.A.units + 70 < cLine

theorem PE.weak {X : Cx} {e : Expr} {t t' : TE} (h : PE X e t) (w : ∀ σ H Q, t' σ H Q → t σ H Q) : PE X e t' := ⟨fun pins s σ H Q I hq => h.run pins s σ H Q I (w σ H Q hq)⟩
theorem PT.weak {X : Cx} {e : Expr} {t t' : TT} (h : PT X e t) (w : ∀ σ H Q, t' σ H Q → t σ H Q) : PT X e t' := ⟨fun pins s σ H Q I hq => h.run pins s σ H Q I (w σ H Q hq)⟩
theorem PA.weak {X : Cx} {e : List Expr} {t t' : TA} (h : PA X e t) (w : ∀ σ H Q, t' σ H Q → t σ H Q) : PA X e t' := ⟨fun pos pins s σ H Q I hq => h.run pos pins s σ H Q I (w σ H Q hq)⟩

section
variable (T : Tb)
/-- readings: an expression's; one that may tell a new list; a test's; arguments' -/
def tD (f : Env → Mem → Out D) : TE := fun σ H Q => ∃ α W ρ m, HR T α W H m ∧ RS T α W H ρ σ ∧ Hg T α W H (f ρ m) (fin T Q)
def tX (f : Env → Mem → Out D) : TE := fun σ H Q => ∃ α W ρ m, HR T α W H m ∧ RS T α W H ρ σ ∧ Hx T α W H (f ρ m) Q
def tT (f : Env → Mem → Out Bool) : TT := fun σ H Q => ∃ α W ρ m, HR T α W H m ∧ RS T α W H ρ σ ∧ Hg T α W H (f ρ m) fun b _ _ _ H' => Q b H'
def tL (f : Env → Mem → Out (List D)) : TA := fun σ H Q => ∃ α W ρ m, HR T α W H m ∧ RS T α W H ρ σ ∧ Hg T α W H (f ρ m) fun ds _ α' W' H' => ∀ vs, RDL T α' W' H' ds vs → Q vs H'
end
variable {T : Tb} {X : Cx}
theorem PE.ofX {e : Expr} {f : Ev} (h : PE X e (tX T f)) : PE X e (tD T f) := PE.weak h fun σ H Q ⟨α, W, ρ, m, h1, h2, h3⟩ => ⟨α, W, ρ, m, h1, h2, .inl h3⟩
theorem PE.allocX {e : Expr} {f : Ev} (h : PE X e (tX T f)) : PE X e (tD T (evAlloc f)) := PE.weak h fun σ H Q ⟨α, W, ρ, m, h1, h2, h3⟩ => by
  refine ⟨α, W, ρ, m, h1, h2, .inr ?_⟩
  unfold evAlloc at h3
  cases q : f ρ m with
  | ok d m1 =>
    rw [q] at h3
    cases d with
    | p x =>
      cases x with
      | lst l => exact Hg.alloc h3
      | _ => exact h3.elim
    | _ => exact h3.elim
  | exn _ _ _ => rw [q] at h3; exact h3.elim
  | bad => rw [q] at h3; exact h3.elim

/-! ### what is read -/
section
variable {α α' : Al} {W W' : Addr → Prop} {H H' : Hp} {m : Mem}
theorem rd_rc (hr : HR T α W H m) {d : D} {v : V} {x : P} (r : RD T α W H d v) (e : rd d m = some x) : Rc T W H x v := by
  cases d with
  | p y => cases e; exact .inl r
  | ref n k =>
    obtain ⟨a, h1, rfl⟩ := r
    obtain ⟨b, h2, _, h3⟩ := hr.cel n k x e
    rw [h1] at h2; cases h2
    exact .inr ⟨a, rfl, h3⟩
  | fn i => cases e
  | scr l => cases e
  | gt l => cases e
theorem Rc.non {v : V} (h : Rc T W H .non v) : v = .non := by
  rcases h with h | ⟨a, _, h⟩
  · simpa only [Rp] using h
  · exact (show False from h).elim
theorem Rc.bl {v : V} {b : Bool} (h : Rc T W H (.bl b) v) : v = .bl b := by
  rcases h with h | ⟨a, _, h⟩
  · simpa only [Rp] using h
  · exact (show False from h).elim
theorem Rc.int {v : V} {b : Int} (h : Rc T W H (.int b) v) : v = .int b := by
  rcases h with h | ⟨a, _, h⟩
  · simpa only [Rp] using h
  · exact (show False from h).elim
theorem Rc.str {v : V} {b : Str} (h : Rc T W H (.str b) v) : v = .str b := by
  rcases h with h | ⟨a, _, h⟩
  · simpa only [Rp] using h
  · exact (show False from h).elim
theorem Rc.tup {v : V} {l : List P} (h : Rc T W H (.tup l) v) : ∃ a xs, v = .ref a ∧ TupAt W H a xs ∧ RpL T W H l xs := by
  rcases h with h | ⟨a, _, h⟩
  · simpa only [Rp] using h
  · exact (show False from h).elim
theorem Rc.lst {v : V} {l : List P} (h : Rc T W H (.lst l) v) : ∃ a xs, v = .ref a ∧ H a = some (.lst xs) ∧ RpL T W H l xs := by
  rcases h with h | ⟨a, rfl, xs, h1, h2⟩
  · simp only [Rp] at h
    obtain ⟨a, xs, h1, _, h2, h3⟩ := h
    exact ⟨a, xs, h1, h2, h3⟩
  · exact ⟨a, xs, rfl, h1, h2⟩
theorem Rc.dicF {v : V} {l : List P} (h : Rc T W H (.dic false l) v) : ∃ a kvs, v = .ref a ∧ H a = some (.dK kvs) ∧ (kvs.map (·.1)).Nodup ∧ RpD T W H l kvs := by
  rcases h with h | ⟨a, rfl, xs, h1, h2⟩
  · simp only [Rp] at h
    obtain ⟨a, xs, h1, _, h2, h3⟩ := h
    exact ⟨a, xs, h1, h2, h3⟩
  · exact ⟨a, xs, rfl, h1, h2⟩
theorem Rc.dicT {v : V} {l : List P} (h : Rc T W H (.dic true l) v) : ∃ a kvs, v = .ref a ∧ H a = some (.dT kvs) ∧ (kvs.map (·.1)).Nodup ∧ RpT T W H l kvs := by
  rcases h with h | ⟨a, rfl, xs, h1, h2⟩
  · simp only [Rp] at h
    obtain ⟨a, xs, h1, _, h2, h3⟩ := h
    exact ⟨a, xs, h1, h2, h3⟩
  · exact ⟨a, xs, rfl, h1, h2⟩
theorem Rc.set {v : V} {l : List P} (h : Rc T W H (.set l) v) : ∃ a, ∃ ks : List Ky, v = .ref a ∧ kys l = some ks ∧ ks.Nodup ∧ H a = some (SetK T.P T.w a (fun k => ks.any fun j => decide (j = k)) ks.length) := by
  rcases h with h | ⟨a, rfl, ks, h1, h2, h3⟩
  · simp only [Rp] at h
  · exact ⟨a, ks, rfl, h1, h2, h3⟩
theorem TupAt.sq {K : PySem.W.Frag} {a : Addr} {xs : List V} (h : TupAt W H a xs) : SqT K H a xs := .inl (.inl h.2)
theorem KTup.sq {K : PySem.W.Frag} {a : Addr} {xs : List V} (h : KTup K a xs) : SqT K H a xs := let ⟨o, its, n, h⟩ := h; .inr ⟨o, its, n, h⟩
theorem Rg.ofC {x : P} {v : V} (h : Rc T W H x v) : Rg T W H x v := .inl h
/-- a tuple, wherever it lies -/
theorem Rg.tup {v : V} {l : List P} (h : Rg T W H (.tup l) v) : ∃ a xs, v = .ref a ∧ SqT T.K H a xs ∧ RpL T W H l xs := by
  rcases h with h | ⟨l', a, xs, e, rfl, h1, h2⟩
  · obtain ⟨a, xs, h1, h2, h3⟩ := h.tup
    exact ⟨a, xs, h1, h2.sq, h3⟩
  · cases e
    exact ⟨a, xs, rfl, h1.sq, h2⟩
theorem Rg.c {v : V} {x : P} (h : Rg T W H x v) (hx : ∀ l, x ≠ .tup l) : Rc T W H x v := by
  rcases h with h | ⟨l', a, xs, e, _⟩
  · exact h
  · exact absurd e (hx _)
theorem rg_rg (hr : HR T α W H m) {d : D} {v : V} {x : P} (r : RD T α W H d v) (e : rg d m = some x) : Rg T W H x v := by
  cases d with
  | gt l =>
    cases e
    obtain ⟨a, xs, h1, h2, h3⟩ := r
    exact .inr ⟨l, a, xs, rfl, h1, h2, h3⟩
  | p y => exact .inl (rd_rc hr r e)
  | ref n k => exact .inl (rd_rc hr r e)
  | fn i => exact .inl (rd_rc hr r e)
  | scr l => exact .inl (rd_rc hr r e)
theorem RpL.len : ∀ {l : List P} {xs : List V}, RpL T W H l xs → xs.length = l.length
  | [], _, h => by simp only [RpL] at h; subst h; rfl
  | d :: ds, _, h => by
    simp only [RpL] at h
    obtain ⟨v, r, rfl, _, h⟩ := h
    show r.length + 1 = ds.length + 1
    rw [RpL.len h]
theorem RpL.app : ∀ {l l' : List P} {xs xs' : List V}, RpL T W H l xs → RpL T W H l' xs' → RpL T W H (l ++ l') (xs ++ xs')
  | [], _, _, _, h, h' => by simp only [RpL] at h; subst h; exact h'
  | d :: ds, _, _, _, h, h' => by
    simp only [RpL] at h
    obtain ⟨v, r, rfl, h1, h⟩ := h
    rw [List.cons_append, List.cons_append]
    simp only [RpL]
    exact ⟨v, _, rfl, h1, RpL.app h h'⟩
theorem RpL.nil_iff {l : List P} {xs : List V} (h : RpL T W H l xs) : xs = [] ↔ l = [] := by
  rw [← List.length_eq_zero_iff, ← List.length_eq_zero_iff, h.len]
theorem RpL.drop : ∀ {l : List P} {xs : List V} (n : Nat), RpL T W H l xs → RpL T W H (l.drop n) (xs.drop n)
  | _, _, 0, h => h
  | [], _, n + 1, h => by simp only [RpL] at h; subst h; simp only [List.drop_nil, RpL]
  | d :: ds, _, n + 1, h => by
    simp only [RpL] at h
    obtain ⟨v, r, rfl, h1, h⟩ := h
    exact RpL.drop n h
theorem RpL.take : ∀ {l : List P} {xs : List V} (n : Nat), RpL T W H l xs → RpL T W H (l.take n) (xs.take n)
  | l, xs, 0, h => by rw [List.take_zero, List.take_zero]; simp only [RpL]
  | [], _, n + 1, h => by simp only [RpL] at h; subst h; simp only [List.take_nil, RpL]
  | d :: ds, _, n + 1, h => by
    simp only [RpL] at h
    obtain ⟨v, r, rfl, h1, h⟩ := h
    rw [List.take_succ_cons, List.take_succ_cons]
    simp only [RpL]
    exact ⟨v, _, rfl, h1, RpL.take n h⟩
theorem RpL.get : ∀ {l : List P} {xs : List V} {i : Nat} {x : P}, RpL T W H l xs → l[i]? = some x → ∃ v, xs[i]? = some v ∧ Rp T W H x v
  | [], _, _, _, _, e => by simp at e
  | d :: ds, _, 0, x, h, e => by
    simp only [RpL] at h
    obtain ⟨v, r, rfl, h1, h⟩ := h
    have : d = x := by simpa using e
    subst this
    exact ⟨v, rfl, h1⟩
  | d :: ds, _, i + 1, x, h, e => by
    simp only [RpL] at h
    obtain ⟨v, r, rfl, h1, h⟩ := h
    obtain ⟨y, h2, h3⟩ := RpL.get (i := i) h (by simpa using e)
    exact ⟨y, by simpa using h2, h3⟩
theorem RpL.rev : ∀ {l : List P} {xs : List V}, RpL T W H l xs → RpL T W H l.reverse xs.reverse
  | [], _, h => by simp only [RpL] at h; subst h; simp only [List.reverse_nil, RpL]
  | d :: ds, _, h => by
    simp only [RpL] at h
    obtain ⟨v, r, rfl, h1, h⟩ := h
    rw [List.reverse_cons, List.reverse_cons]
    refine RpL.app (RpL.rev h) ?_
    simp only [RpL]
    exact ⟨v, [], rfl, h1, rfl⟩
theorem RpL.set : ∀ {l : List P} {xs : List V} {x : P} {v : V} (i : Nat), RpL T W H l xs → Rp T W H x v → RpL T W H (l.set i x) (xs.set i v)
  | [], _, _, _, _, h, _ => by simp only [RpL] at h; subst h; simp only [List.set_nil, RpL]
  | d :: ds, _, x, v, 0, h, hv => by
    simp only [RpL] at h
    obtain ⟨y, r, rfl, h1, h⟩ := h
    simp only [List.set_cons_zero, RpL]
    exact ⟨v, r, rfl, hv, h⟩
  | d :: ds, _, x, v, i + 1, h, hv => by
    simp only [RpL] at h
    obtain ⟨y, r, rfl, h1, h⟩ := h
    simp only [List.set_cons_succ, RpL]
    exact ⟨y, _, rfl, h1, RpL.set i h hv⟩
theorem RpL.one {x : P} {v : V} (h : Rp T W H x v) : RpL T W H [x] [v] := by
  simp only [RpL]; exact ⟨v, [], rfl, h, rfl⟩
theorem RpL.flat : ∀ {l : List P} {xs : List V} (k : Nat), RpL T W H l xs → RpL T W H (List.replicate k l).flatten (List.replicate k xs).flatten
  | l, xs, 0, h => by simp only [List.replicate_zero, List.flatten_nil, RpL]
  | l, xs, k + 1, h => by
    rw [List.replicate_succ, List.replicate_succ, List.flatten_cons, List.flatten_cons]
    exact h.app (RpL.flat k h)
theorem line_eq : line = sizeLine := by rw [sizeLine_eq]; rfl

/-- a new list -/
theorem HgF.new {l : List P} {xs : List V} {p : Addr} {Q : VK} (h : HgF T α W H (.ok (.p (.lst l)) m) Q) (hr : HR T α W H m) (r : RpL T W H l xs) (hp : H p = none) : Q (.ref p) (upd H p (.lst xs)) :=
  h α (wUp W p) _ xs p (.hid hp) (hr.hid hp) (.inr rfl) upd_same (r.ext (α := α) (α' := α) (.hid hp)) (hr.noAl hp) (hr.noGh hp)
/-- a new tuple -/
theorem Hg.newT {l : List P} {xs : List V} {p : Addr} {Q : VK} (h : Hg T α W H (.ok (.p (.tup l)) m) (fin T Q)) (hr : HR T α W H m) (r : RpL T W H l xs) (hp : H p = none) : Q (.ref p) (upd H p (.tup xs)) :=
  h α W _ (.new hp) (hr.new hp) (.ref p) (by
    show Rp T W _ (.tup l) (.ref p)
    simp only [Rp]
    exact ⟨p, xs, rfl, ⟨hr.free hp, upd_same⟩, r.ext (α := α) (α' := α) (.new hp)⟩)
theorem Hx.tupD {l : List P} {Q : VK} (h : Hx T α W H (.ok (.p (.tup l)) m) Q) : Hg T α W H (.ok (.p (.tup l)) m) (fin T Q) := h.elim id False.elim
end

/-! ### two-place operators -/
def opO (f : P → P → Option P) (a b : D) (m : Mem) : Out D := match rd a m, rd b m with
  | some u, some v => (Out.of (f u v) m).bind fun r m3 => .ok (.p r) m3
  | _, _ => .bad
def rB (T : Tb) (f : P → P → Option P) : R2 := fun x y H Q => ∃ α W m a b, HR T α W H m ∧ RD T α W H a x ∧ RD T α W H b y ∧ Hx T α W H (opO f a b m) Q
theorem rB.red {f : P → P → Option P} {x y : V} {H : Hp} {Q : VK} (h : rB T f x y H Q) : ∃ α W m u v r, HR T α W H m ∧ Rc T W H u x ∧ Rc T W H v y ∧ f u v = some r ∧ Hx T α W H (.ok (.p r) m) Q := by
  obtain ⟨α, W, m, a, b, hr, ra, rb, h⟩ := h
  unfold opO at h
  cases ea : rd a m with
  | none => rw [ea] at h; exact (h.elim id id).elim
  | some u =>
    cases eb : rd b m with
    | none => rw [ea, eb] at h; exact (h.elim id id).elim
    | some v =>
      rw [ea, eb] at h
      cases e : f u v with
      | none => simp only [e] at h; exact (h.elim id id).elim
      | some r => simp only [e] at h; exact ⟨α, W, m, u, v, r, hr, rd_rc hr ra ea, rd_rc hr rb eb, e, h⟩
theorem opB_add (hX : CxOk T X) : OpR X (binaryOp .Add) (rB T addP) := by
  intro pins s σ H x y v u Q I rx ry h
  obtain ⟨α, W, m, a, b, r, hr, ra, rb, e, hx⟩ := h.red
  unfold addP at e
  split at e
  · cases e
    obtain rfl := ra.int; obtain rfl := rb.int
    exact op_add pins s σ H _ _ v u Q I rx ry ⟨_, _, rfl, rfl, hx.p (by intro l; simp) .refl hr (by simp only [Rp])⟩
  · split at e
    · rename_i hl
      cases e
      obtain rfl := ra.str; obtain rfl := rb.str
      exact op_add_str pins s σ H _ _ v u Q I rx ry ⟨_, _, rfl, rfl, by rw [← line_eq]; exact hl, hx.p (by intro l; simp) .refl hr (by simp only [Rp])⟩
    · cases e
  · split at e
    · rename_i hl
      cases e
      obtain ⟨p, xs, rfl, h1, h2⟩ := ra.lst
      obtain ⟨q, ys, rfl, h3, h4⟩ := rb.lst
      exact op_cat pins s σ H _ _ v u Q I rx ry ⟨p, q, xs, ys, rfl, rfl, h1, h3, by rw [h2.len, h4.len, ← line_eq]; exact hl, fun z hz => hx.F.new hr (h2.app h4) hz⟩
    · cases e
  · split at e
    · rename_i hl
      cases e
      obtain ⟨p, xs, rfl, h1, h2⟩ := ra.tup
      obtain ⟨q, ys, rfl, h3, h4⟩ := rb.tup
      have hd := hx.tupD
      refine op_catA pins s σ H _ _ v u Q I rx ry ⟨p, q, xs, ys, rfl, rfl, by rw [hX.K]; exact h1.sq, by rw [hX.K]; exact h3.sq, by rw [h2.len, h4.len, ← line_eq]; exact hl, fun z => ?_, fun _ z => ?_, fun _ _ w hw => hd.newT hr (h2.app h4) hw⟩
      · rw [h2.nil_iff] at z; subst z
        exact hd.here hr (.ref q) (by show Rp T W H _ _; simp only [Rp]; exact ⟨q, ys, rfl, h3, h4⟩)
      · rw [h4.nil_iff] at z; subst z
        exact hd.here hr (.ref p) (by show Rp T W H _ _; simp only [Rp, List.append_nil]; exact ⟨p, xs, rfl, h1, h2⟩)
    · cases e
  · cases e
theorem opB_sub : OpR X (binaryOp .Sub) (rB T subP) := by
  intro pins s σ H x y v u Q I rx ry h
  obtain ⟨α, W, m, a, b, r, hr, ra, rb, e, hx⟩ := h.red
  unfold subP at e
  split at e
  · cases e
    obtain rfl := ra.int; obtain rfl := rb.int
    exact op_sub pins s σ H _ _ v u Q I rx ry ⟨_, _, rfl, rfl, hx.p (by intro l; simp) .refl hr (by simp only [Rp])⟩
  · cases e
theorem opB_mul : OpR X (binaryOp .Mult) (rB T mulP) := by
  intro pins s σ H x y v u Q I rx ry h
  obtain ⟨α, W, m, a, b, r, hr, ra, rb, e, hx⟩ := h.red
  unfold mulP at e
  split at e
  · split at e
    · rename_i hl
      cases e
      obtain rfl := ra.int; obtain rfl := rb.int
      refine op_mul pins s σ H _ _ v u Q I rx ry ⟨_, _, rfl, rfl, ?_, hx.p (by intro l; simp) .refl hr (by simp only [Rp])⟩
      rw [Bool.or_eq_true] at hl
      unfold small64 at hl
      simp only [Bool.and_eq_true, decide_eq_true_eq] at hl
      exact hl
    · cases e
  · split at e
    · rename_i hl
      cases e
      simp only [Bool.and_eq_true, decide_eq_true_eq] at hl
      obtain ⟨p, xs, rfl, h1, h2⟩ := ra.lst
      obtain rfl := rb.int
      exact op_rep pins s σ H _ _ v u Q I rx ry ⟨p, _, xs, rfl, rfl, h1, hl.1.1, hl.1.2, by rw [h2.len, ← line_eq]; exact hl.2, fun z hz => hx.F.new hr (h2.flat _) hz⟩
    · cases e
  · cases e
theorem opB_fdiv : OpR X (binaryOp .FloorDiv) (rB T fdivP) := by
  intro pins s σ H x y v u Q I rx ry h
  obtain ⟨α, W, m, a, b, r, hr, ra, rb, e, hx⟩ := h.red
  unfold fdivP at e
  split at e
  · split at e
    · rename_i hl
      cases e
      obtain rfl := ra.int; obtain rfl := rb.int
      exact op_fdiv pins s σ H _ _ v u Q I rx ry ⟨_, _, rfl, rfl, hl, hx.p (by intro l; simp) .refl hr (by simp only [Rp])⟩
    · cases e
  · cases e
theorem opB_mod : OpR X (binaryOp .Mod) (rB T modP) := by
  intro pins s σ H x y v u Q I rx ry h
  obtain ⟨α, W, m, a, b, r, hr, ra, rb, e, hx⟩ := h.red
  unfold modP at e
  split at e
  · split at e
    · rename_i hl
      cases e
      obtain rfl := ra.int; obtain rfl := rb.int
      exact op_mod pins s σ H _ _ v u Q I rx ry ⟨_, _, rfl, rfl, hl, hx.p (by intro l; simp) .refl hr (by simp only [Rp])⟩
    · cases e
  · cases e
theorem opB_pow : OpR X (binaryOp .Pow) (rB T powP) := by
  intro pins s σ H x y v u Q I rx ry h
  obtain ⟨α, W, m, a, b, r, hr, ra, rb, e, hx⟩ := h.red
  unfold powP at e
  split at e
  · split at e
    · rename_i hl
      cases e
      obtain rfl := ra.int; obtain rfl := rb.int
      exact op_pow pins s σ H _ _ v u Q I rx ry ⟨_, _, rfl, rfl, hl, hx.p (by intro l; simp) .refl hr (by simp only [Rp])⟩
    · cases e
  · cases e
end Lot
/-! LotE: comparisons, membership, truth over the hand layer. -/
namespace Lot
open PySem PySem.Spec PyProof.Rows L2

mutual
def toPy : P → PyData
  | .non => .none
  | .bl b => .bool b
  | .int i => .int i
  | .str s => .str s
  | .lst l => .list (toPys l)
  | .tup l => .tuple (toPys l)
  | _ => .none
def toPys : List P → List PyData
  | [] => []
  | x :: r => toPy x :: toPys r
end
mutual
theorem lay_py : ∀ x : P, flat x = true → (toPy x).canLay0 = true
  | .non, _ => by simp [toPy, PyData.canLay0]
  | .bl _, _ => by simp [toPy, PyData.canLay0]
  | .int _, _ => by simp [toPy, PyData.canLay0]
  | .str s, h => by simpa [toPy, PyData.canLay0, flat] using h
  | .lst l, h => by simpa [toPy, PyData.canLay0] using lay_pys l (by simpa [flat] using h)
  | .tup l, h => by simpa [toPy, PyData.canLay0] using lay_pys l (by simpa [flat] using h)
  | .dic _ _, h => by simp [flat] at h
  | .set _, h => by simp [flat] at h
  | .ins _ _, h => by simp [flat] at h
theorem lay_pys : ∀ l : List P, flats l = true → PyData.canLayAll0 (toPys l) = true
  | [], _ => by simp [toPys, PyData.canLayAll0]
  | x :: r, h => by
    simp only [flats, Bool.and_eq_true] at h
    simp [toPys, PyData.canLayAll0, lay_py x h.1, lay_pys r h.2]
end
mutual
theorem depth_py : ∀ x : P, (toPy x).depth = deep x
  | .non => by simp [toPy, PyData.depth, deep]
  | .bl _ => by simp [toPy, PyData.depth, deep]
  | .int _ => by simp [toPy, PyData.depth, deep]
  | .str s => by simp [toPy, PyData.depth, deep]
  | .lst l => by simp [toPy, PyData.depth, deep, depth_pys l]
  | .tup l => by simp [toPy, PyData.depth, deep, depth_pys l]
  | .dic _ _ => by simp [toPy, PyData.depth, deep]
  | .set _ => by simp [toPy, PyData.depth, deep]
  | .ins _ _ => by simp [toPy, PyData.depth, deep]
  | .exc _ _ => by simp [toPy, PyData.depth, deep]
theorem depth_pys : ∀ l : List P, PyData.depthAll (toPys l) = deeps l
  | [] => by simp [toPys, PyData.depthAll, deeps]
  | x :: r => by simp [toPys, PyData.depthAll, deeps, depth_py x, depth_pys r]
end
mutual
theorem eqv_py : ∀ x y : P, flat x = true → flat y = true → PyData.eqv (toPy x) (toPy y) = eqP x y
  | .lst a, .lst b, h, h' => by
    simp only [toPy, PyData.eqv, eqP]
    exact eqv_pys a b (by simpa [flat] using h) (by simpa [flat] using h')
  | .tup a, .tup b, h, h' => by
    simp only [toPy, PyData.eqv, eqP]
    exact eqv_pys a b (by simpa [flat] using h) (by simpa [flat] using h')
  | .dic _ _, _, h, _ => by simp [flat] at h
  | .set _, _, h, _ => by simp [flat] at h
  | .ins _ _, _, h, _ => by simp [flat] at h
  | _, .dic _ _, _, h => by simp [flat] at h
  | _, .set _, _, h => by simp [flat] at h
  | _, .ins _ _, _, h => by simp [flat] at h
  | .non, .non, _, _ => by simp [toPy, PyData.eqv, eqP]
  | .non, .bl _, _, _ => by simp [toPy, PyData.eqv, eqP]
  | .non, .int _, _, _ => by simp [toPy, PyData.eqv, eqP]
  | .non, .str _, _, _ => by simp [toPy, PyData.eqv, eqP]
  | .non, .lst _, _, _ => by simp [toPy, PyData.eqv, eqP]
  | .non, .tup _, _, _ => by simp [toPy, PyData.eqv, eqP]
  | .bl _, .non, _, _ => by simp [toPy, PyData.eqv, eqP]
  | .bl _, .bl _, _, _ => by simp [toPy, PyData.eqv, eqP]
  | .bl _, .int _, _, _ => by simp [toPy, PyData.eqv, eqP]
  | .bl _, .str _, _, _ => by simp [toPy, PyData.eqv, eqP]
  | .bl _, .lst _, _, _ => by simp [toPy, PyData.eqv, eqP]
  | .bl _, .tup _, _, _ => by simp [toPy, PyData.eqv, eqP]
  | .int _, .non, _, _ => by simp [toPy, PyData.eqv, eqP]
  | .int _, .bl _, _, _ => by simp [toPy, PyData.eqv, eqP]
  | .int _, .int _, _, _ => by simp [toPy, PyData.eqv, eqP]
  | .int _, .str _, _, _ => by simp [toPy, PyData.eqv, eqP]
  | .int _, .lst _, _, _ => by simp [toPy, PyData.eqv, eqP]
  | .int _, .tup _, _, _ => by simp [toPy, PyData.eqv, eqP]
  | .str _, .non, _, _ => by simp [toPy, PyData.eqv, eqP]
  | .str _, .bl _, _, _ => by simp [toPy, PyData.eqv, eqP]
  | .str _, .int _, _, _ => by simp [toPy, PyData.eqv, eqP]
  | .str _, .str _, _, _ => by simp [toPy, PyData.eqv, eqP]
  | .str _, .lst _, _, _ => by simp [toPy, PyData.eqv, eqP]
  | .str _, .tup _, _, _ => by simp [toPy, PyData.eqv, eqP]
  | .lst _, .non, _, _ => by simp [toPy, PyData.eqv, eqP]
  | .lst _, .bl _, _, _ => by simp [toPy, PyData.eqv, eqP]
  | .lst _, .int _, _, _ => by simp [toPy, PyData.eqv, eqP]
  | .lst _, .str _, _, _ => by simp [toPy, PyData.eqv, eqP]
  | .lst _, .tup _, _, _ => by simp [toPy, PyData.eqv, eqP]
  | .tup _, .non, _, _ => by simp [toPy, PyData.eqv, eqP]
  | .tup _, .bl _, _, _ => by simp [toPy, PyData.eqv, eqP]
  | .tup _, .int _, _, _ => by simp [toPy, PyData.eqv, eqP]
  | .tup _, .str _, _, _ => by simp [toPy, PyData.eqv, eqP]
  | .tup _, .lst _, _, _ => by simp [toPy, PyData.eqv, eqP]
theorem eqv_pys : ∀ a b : List P, flats a = true → flats b = true → PyData.eqvAll (toPys a) (toPys b) = eqPs a b
  | [], [], _, _ => by simp [toPys, PyData.eqvAll, eqPs]
  | [], _ :: _, _, _ => by simp [toPys, PyData.eqvAll, eqPs]
  | _ :: _, [], _, _ => by simp [toPys, PyData.eqvAll, eqPs]
  | x :: xs, y :: ys, h, h' => by
    simp only [flats, Bool.and_eq_true] at h h'
    simp only [toPys, PyData.eqvAll, eqPs, eqv_py x y h.1 h'.1, eqv_pys xs ys h.2 h'.2]
end
theorem okD_shaped {x : P} (h : okD x = true) : SeqAt.shaped (toPy x) = true := by
  unfold okD at h
  simp only [Bool.and_eq_true, decide_eq_true_eq] at h
  show ((toPy x).canLay0 && decide ((toPy x).depth ≤ 64)) = true
  rw [Bool.and_eq_true, decide_eq_true_eq, depth_py]
  exact ⟨lay_py x h.1, h.2⟩

variable {T : Tb} {X : Cx}
section
variable {α α' : Al} {W W' : Addr → Prop} {H H' : Hp} {m : Mem}
mutual
theorem Rp.dp : ∀ (x : P) (v : V), flat x = true → Rp T W H x v → Dp T.K H v (toPy x)
  | .non, v, _, h => by simp only [Rp] at h; subst h; simp only [toPy]; exact .non
  | .bl _, v, _, h => by simp only [Rp] at h; subst h; simp only [toPy]; exact .bl _
  | .int _, v, _, h => by simp only [Rp] at h; subst h; simp only [toPy]; exact .int _
  | .str _, v, _, h => by simp only [Rp] at h; subst h; simp only [toPy]; exact .str _
  | .lst l, v, f, h => by
    simp only [Rp] at h
    obtain ⟨a, xs, rfl, _, h2, h3⟩ := h
    simp only [toPy]
    exact .lst (SqL.of h2) (RpL.dp l xs (by simpa [flat] using f) h3)
  | .tup l, v, f, h => by
    simp only [Rp] at h
    obtain ⟨a, xs, rfl, h2, h3⟩ := h
    simp only [toPy]
    exact .tup h2.sq (RpL.dp l xs (by simpa [flat] using f) h3)
  | .dic _ _, _, f, _ => by simp [flat] at f
  | .set _, _, f, _ => by simp [flat] at f
  | .ins _ _, _, f, _ => by simp [flat] at f
theorem RpL.dp : ∀ (l : List P) (xs : List V), flats l = true → RpL T W H l xs → DpAll T.K H xs (toPys l)
  | [], xs, _, h => by simp only [RpL] at h; subst h; simp only [toPys]; exact .nil
  | d :: ds, xs, f, h => by
    simp only [RpL] at h
    obtain ⟨v, r, rfl, h1, h2⟩ := h
    simp only [flats, Bool.and_eq_true] at f
    simp only [toPys]
    exact .cons (Rp.dp d v f.1 h1) (RpL.dp ds r f.2 h2)
end
theorem Rg.dp {x : P} {v : V} (f : flat x = true) (h : Rg T W H x v) : Dp T.K H v (toPy x) := by
  rcases h with (h | ⟨a, rfl, h⟩) | ⟨l, a, xs, rfl, rfl, h1, h2⟩
  · exact Rp.dp x v f h
  · cases x with
    | lst l =>
      obtain ⟨xs, h1, h2⟩ := h
      simp only [toPy]
      exact .lst (SqL.of h1) (RpL.dp l xs (by simpa [flat] using f) h2)
    | dic _ _ => simp [flat] at f
    | set _ => simp [flat] at f
    | ins _ _ => simp [flat] at f
    | _ => exact (show False from h).elim
  · simp only [toPy]
    exact .tup h1.sq (RpL.dp l xs (by simpa [flat] using f) h2)
theorem Rg.non {v : V} (h : Rg T W H .non v) : v = .non := (h.c (by simp)).non
theorem Rg.bl {v : V} {b : Bool} (h : Rg T W H (.bl b) v) : v = .bl b := (h.c (by simp)).bl
theorem Rg.int {v : V} {b : Int} (h : Rg T W H (.int b) v) : v = .int b := (h.c (by simp)).int
theorem Rg.str {v : V} {b : Str} (h : Rg T W H (.str b) v) : v = .str b := (h.c (by simp)).str
theorem Rg.lst {v : V} {l : List P} (h : Rg T W H (.lst l) v) : ∃ a xs, v = .ref a ∧ H a = some (.lst xs) ∧ RpL T W H l xs := (h.c (by simp)).lst
theorem Rg.notNon {v : V} {x : P} (h : Rg T W H x v) : decide (v = .non) = isNon x := by
  cases x with
  | non => rw [h.non]; rfl
  | bl b => rw [h.bl]; rfl
  | int b => rw [h.int]; rfl
  | str b => rw [h.str]; rfl
  | lst l => obtain ⟨a, xs, rfl, _⟩ := h.lst; rfl
  | tup l => obtain ⟨a, xs, rfl, _⟩ := h.tup; rfl
  | dic t l =>
    cases t with
    | false => obtain ⟨a, xs, rfl, _⟩ := (h.c (by simp)).dicF; rfl
    | true => obtain ⟨a, xs, rfl, _⟩ := (h.c (by simp)).dicT; rfl
  | set l => obtain ⟨a, xs, rfl, _⟩ := (h.c (by simp)).set; rfl
  | ins c fs =>
    rcases h.c (by simp) with h | ⟨a, rfl, h⟩
    · simp only [Rp] at h; obtain ⟨a, dx, xs, r, rfl, _⟩ := h; rfl
    · rfl
  | exc c fs =>
    rcases h.c (by simp) with h | ⟨a, rfl, h⟩
    · simp only [Rp] at h; obtain ⟨a, rfl, _⟩ := h; rfl
    · rfl
theorem sc_flatV {x : P} {v : V} (h : Rp T W H x v) (s : sc x = true) : flatV v = true := by
  cases x <;> first | (simp only [Rp] at h; subst h; rfl) | (simp [sc] at s)
theorem eqV_sc {x y : P} {v u : V} (h : Rp T W H x v) (h' : Rp T W H y u) (s : sc x = true) (s' : sc y = true) : eqV v u = eqP x y := by
  cases x <;> first | (simp [sc] at s; done) | (cases y <;> first | (simp [sc] at s'; done) | (simp only [Rp] at h h'; subst h; subst h'; simp [eqV, eqP]))
theorem all_flatV : ∀ {l : List P} {xs : List V}, RpL T W H l xs → l.all sc = true → xs.all flatV = true
  | [], _, h, _ => by simp only [RpL] at h; subst h; rfl
  | d :: ds, _, h, s => by
    simp only [RpL] at h
    obtain ⟨v, r, rfl, h1, h2⟩ := h
    rw [List.all_cons, Bool.and_eq_true] at s ⊢
    exact ⟨sc_flatV h1 s.1, all_flatV h2 s.2⟩
theorem inV_sc {x : P} {v : V} (hx : Rp T W H x v) (s : sc x = true) : ∀ {l : List P} {xs : List V}, RpL T W H l xs → l.all sc = true → inV v xs = l.any fun z => eqP z x
  | [], _, h, _ => by simp only [RpL] at h; subst h; rfl
  | d :: ds, _, h, s' => by
    simp only [RpL] at h
    obtain ⟨u, r, rfl, h1, h2⟩ := h
    rw [List.all_cons, Bool.and_eq_true] at s'
    have ih := inV_sc hx s h2 s'.2
    unfold inV at ih ⊢
    rw [List.any_cons, List.any_cons, eqV_sc h1 hx s'.1 s, ih]
theorem any_py {x : P} (hx : flat x = true) : ∀ {l : List P}, flats l = true → ((toPys l).any fun z => PyData.eqv z (toPy x)) = l.any fun z => eqP z x
  | [], _ => by simp [toPys]
  | d :: ds, h => by
    simp only [flats, Bool.and_eq_true] at h
    simp only [toPys, List.any_cons]
    rw [eqv_py d x h.1 hx, any_py hx h.2]
/-- scalars are read alike -/
theorem Rg.sc_ {x : P} {v : V} (h : Rg T W H x v) (s : sc x = true) : Rp T W H x v := by
  cases x with
  | non => rw [h.non]; simp only [Rp]
  | bl b => rw [h.bl]; simp only [Rp]
  | int b => rw [h.int]; simp only [Rp]
  | str b => rw [h.str]; simp only [Rp]
  | _ => simp [sc] at s

/-! ### dicts by keys -/
theorem Rp.ref_ {x : P} {v : V} (s : sc x = false) (h : Rp T W H x v) : ∃ a, v = .ref a := by
  cases x with
  | lst l => simp only [Rp] at h; obtain ⟨a, xs, rfl, _⟩ := h; exact ⟨a, rfl⟩
  | tup l => simp only [Rp] at h; obtain ⟨a, xs, rfl, _⟩ := h; exact ⟨a, rfl⟩
  | dic t l => cases t <;> (simp only [Rp] at h; obtain ⟨a, xs, rfl, _⟩ := h; exact ⟨a, rfl⟩)
  | set l => simp only [Rp] at h
  | ins c fs => simp only [Rp] at h; obtain ⟨a, dx, xs, r, rfl, _⟩ := h; exact ⟨a, rfl⟩
  | exc c fs => simp only [Rp] at h; obtain ⟨a, rfl, _⟩ := h; exact ⟨a, rfl⟩
  | _ => simp [sc] at s
theorem ky_of {a : P} {k : Key} (h : Rp T W H a (kV k)) : ky a = some k := by
  cases q : sc a with
  | false => obtain ⟨b, e⟩ := Rp.ref_ q h; cases k <;> cases e
  | true =>
    cases k <;> cases a <;> first | (simp [sc] at q; done) | (simp only [Rp, kV] at h; cases h; rfl) | (simp only [Rp, kV] at h; cases h)
theorem rp_ky {a : P} {k : Key} (h : ky a = some k) : Rp T W H a (kV k) := by
  cases a <;> first | (cases h; simp only [Rp, kV]) | cases h
/-- an entry's parts -/
theorem rpL_two {xs : List P} {x y : V} (h : RpL T W H xs [x, y]) : ∃ a b, xs = [a, b] ∧ Rp T W H a x ∧ Rp T W H b y := by
  match xs, h with
  | [], h => simp only [RpL] at h; cases h
  | [a], h =>
    simp only [RpL] at h
    obtain ⟨v, r, e, _, h⟩ := h
    cases e; cases h
  | [a, b], h =>
    simp only [RpL] at h
    obtain ⟨v, r, e, h1, v', r', e', h2, h3⟩ := h
    cases e; cases e'
    exact ⟨a, b, rfl, h1, h2⟩
  | a :: b :: c :: q, h =>
    simp only [RpL] at h
    obtain ⟨v, r, e, h1, v', r', e', h2, v2, r2, e2, _⟩ := h
    cases e; cases e'; cases e2
theorem RpD.cons {x : P} {r : List P} {kvs : List (Key × V)} (h : RpD T W H (x :: r) kvs) : ∃ a b k y q, x = .tup [a, b] ∧ kvs = (k, y) :: q ∧ ky a = some k ∧ Rp T W H b y ∧ RpD T W H r q := by
  cases x with
  | tup xs =>
    simp only [RpD] at h
    obtain ⟨k, y, q, rfl, h1, h2⟩ := h
    obtain ⟨a, b, rfl, h3, h4⟩ := rpL_two h1
    exact ⟨a, b, k, y, q, rfl, rfl, ky_of h3, h4, h2⟩
  | _ => simp only [RpD] at h
theorem RpD.mk {a b : P} {r : List P} {k : Key} {y : V} {q : List (Key × V)} (h1 : ky a = some k) (h2 : Rp T W H b y) (h3 : RpD T W H r q) : RpD T W H (.tup [a, b] :: r) ((k, y) :: q) := by
  simp only [RpD]
  refine ⟨k, y, q, rfl, ?_, h3⟩
  simp only [RpL]
  exact ⟨kV k, [y], rfl, rp_ky h1, y, [], rfl, h2, rfl⟩
theorem RpT.cons {x : P} {r : List P} {kvs : List (List Key × V)} (h : RpT T W H (x :: r) kvs) : ∃ a b k y q, x = .tup [a, b] ∧ kvs = (k, y) :: q ∧ kyT a = some k ∧ Rp T W H b y ∧ RpT T W H r q := by
  match x, h with
  | .tup [a, b], h =>
    simp only [RpT] at h
    obtain ⟨k, y, q, rfl, h1, h2, h3⟩ := h
    exact ⟨a, b, k, y, q, rfl, rfl, h1, h2, h3⟩
  | .tup [], h => simp only [RpT] at h
  | .tup [_], h => simp only [RpT] at h
  | .tup (_ :: _ :: _ :: _), h => simp only [RpT] at h
  | .non, h => simp only [RpT] at h
  | .bl _, h => simp only [RpT] at h
  | .int _, h => simp only [RpT] at h
  | .str _, h => simp only [RpT] at h
  | .lst _, h => simp only [RpT] at h
  | .dic _ _, h => simp only [RpT] at h
  | .set _, h => simp only [RpT] at h
  | .ins _ _, h => simp only [RpT] at h
/-- what a look-up tells -/
def Hit (T : Tb) (W : Addr → Prop) (H : Hp) : Option P → Option V → Prop
  | some x, some v => Rp T W H x v
  | none, none => True
  | _, _ => False
theorem Hit.isSome {o : Option P} {u : Option V} (h : Hit T W H o u) : u.isSome = o.isSome := by
  cases o <;> cases u <;> first | rfl | exact h.elim
theorem findD {k : P} {κ : Key} (hk : ky k = some κ) : ∀ {l : List P} {kvs : List (Key × V)}, RpD T W H l kvs → Hit T W H (findK false l k) (valV kvs κ)
  | [], _, h => by simp only [RpD] at h; subst h; exact True.intro
  | x :: r, _, h => by
    obtain ⟨a, b, κ', y, q, rfl, rfl, h1, h2, h3⟩ := h.cons
    have ih := findD hk h3
    by_cases e : κ' = κ
    · subst e
      rw [valV_pos rfl]
      have : findK false (.tup [a, b] :: r) k = some b := by
        unfold findK
        rw [List.find?_cons_of_pos (by simp [keyOf, kEq, h1, hk])]
        rfl
      rw [this]
      exact h2
    · rw [valV_neg e]
      have : findK false (.tup [a, b] :: r) k = findK false r k := by
        unfold findK
        rw [List.find?_cons_of_neg (by simp [keyOf, kEq, h1, hk, e])]
      rw [this]
      exact ih
theorem findT {k : P} {κ : List Key} (hk : kyT k = some κ) : ∀ {l : List P} {kvs : List (List Key × V)}, RpT T W H l kvs → Hit T W H (findK true l k) (valV kvs κ)
  | [], _, h => by simp only [RpT] at h; subst h; exact True.intro
  | x :: r, _, h => by
    obtain ⟨a, b, κ', y, q, rfl, rfl, h1, h2, h3⟩ := h.cons
    have ih := findT hk h3
    by_cases e : κ' = κ
    · subst e
      rw [valV_pos rfl]
      have : findK true (.tup [a, b] :: r) k = some b := by
        unfold findK
        rw [List.find?_cons_of_pos (by simp [keyOf, kEq, h1, hk])]
        rfl
      rw [this]
      exact h2
    · rw [valV_neg e]
      have : findK true (.tup [a, b] :: r) k = findK true r k := by
        unfold findK
        rw [List.find?_cons_of_neg (by simp [keyOf, kEq, h1, hk, e])]
      rw [this]
      exact ih
theorem kys_rp : ∀ {l : List P} {ks : List Ky} {xs : List V}, kys l = some ks → RpL T W H l xs → xs = ks.map kV
  | [], ks, xs, e, h => by simp only [kys] at e; cases e; simp only [RpL] at h; subst h; rfl
  | x :: r, ks, xs, e, h => by
    simp only [kys] at e
    split at e
    · rename_i k ks' e1 e2
      cases e
      simp only [RpL] at h
      obtain ⟨v, q, rfl, h1, h2⟩ := h
      rw [kys_rp e2 h2]
      have : v = kV k := by
        cases x <;> first | cases e1 | skip
        all_goals (simp only [Rp] at h1; subst h1; rfl)
      rw [this]; rfl
    · cases e
/-- a key as it lies -/
theorem kyT_rp {x : P} {ks : List Ky} {v : V} (e : kyT x = some ks) (h : Rp T W H x v) : ∃ b, v = .ref b ∧ H b = some (.tup (ks.map kV)) := by
  cases x with
  | tup l =>
    simp only [Rp] at h
    obtain ⟨a, xs, rfl, h1, h2⟩ := h
    rw [kys_rp e h2] at h1
    exact ⟨a, rfl, h1.2⟩
  | _ => cases e
/-- what d[k] finds -/
theorem get_dic {t : Bool} {l : List P} {k : P} {v u : V} (hd : Rc T W H (.dic t l) v) (ok : kOk t k = true) (hk : Rp T W H k u) : ∃ a o, v = .ref a ∧ DGet H a u o ∧ Hit T W H (findK t l k) o := by
  cases t with
  | false =>
    obtain ⟨a, kvs, rfl, h1, _, h2⟩ := hd.dicF
    have ok' : (ky k).isSome = true := by simpa [kOk] using ok
    obtain ⟨κ, e⟩ := Option.isSome_iff_exists.mp ok'
    have eu : u = kV κ := by
      have h3 : Rp T W H k (kV κ) := rp_ky e
      cases k <;> first | cases e | skip
      all_goals (simp only [Rp] at hk; subst hk; rfl)
    subst eu
    exact ⟨a, _, rfl, DGet.k h1, findD e h2⟩
  | true =>
    obtain ⟨a, kvs, rfl, h1, _, h2⟩ := hd.dicT
    have ok' : (kyT k).isSome = true := by simpa [kOk] using ok
    obtain ⟨κ, e⟩ := Option.isSome_iff_exists.mp ok'
    obtain ⟨b, rfl, h3⟩ := kyT_rp e hk
    exact ⟨a, _, rfl, DGet.t h1 h3, findT e h2⟩
end

/-! ### comparisons -/
def rC (T : Tb) (op : COp) : R2 := fun x y H Q => ∃ α W m a b, HR T α W H m ∧ RD T α W H a x ∧ RD T α W H b y ∧ Hg T α W H ((Out.of (cmpD op a b m) m).bind fun r m3 => .ok (.p (.bl r)) m3) (fin T Q)
theorem rd_rg {d : D} {m : Mem} {x : P} (h : rd d m = some x) : rg d m = some x := by
  cases d <;> first | exact h | cases h
theorem rC.red {op : COp} {x y : V} {H : Hp} {Q : VK} (h : rC T op x y H Q) : ∃ α W m u v r, HR T α W H m ∧ Rg T W H u x ∧ Rg T W H v y ∧ cmpP op u v = some r ∧ Q (.bl r) H ∧ (isIn op = true → kOk true u = true → Rp T W H u x) := by
  obtain ⟨α, W, m, a, b, hr, ra, rb, h⟩ := h
  unfold cmpD at h
  cases ea : (if isIn op then rd a m else rg a m) with
  | none => rw [ea] at h; exact h.elim
  | some u =>
    cases eb : rg b m with
    | none => rw [ea, eb] at h; exact h.elim
    | some v =>
      rw [ea, eb] at h
      cases e : cmpP op u v with
      | none => simp only [e] at h; exact h.elim
      | some r =>
        simp only [e] at h
        have eg : rg a m = some u := by
          split at ea
          · exact rd_rg ea
          · exact ea
        refine ⟨α, W, m, u, v, r, hr, rg_rg hr ra eg, rg_rg hr rb eb, e, h.here hr (.bl r) (by show Rp T W H _ _; simp only [Rp]), fun hi hk => ?_⟩
        rw [if_pos hi] at ea
        cases a with
        | p z => cases ea; exact ra
        | ref n k =>
          obtain ⟨p, _, _, h3⟩ := hr.cel n k u ea
          cases u with
          | tup l => exact (show False from h3).elim
          | _ => simp [kOk, kyT] at hk
        | _ => cases ea
theorem eq_sc {a b : P} {x y : V} {H : Hp} {W : Addr → Prop} (ha : Rp T W H a x) (hb : Rp T W H b y) (s : sc a = true) (s' : sc b = true) : (scal x y = true ∧ decide (x = y) = eqP a b) ∨ (SeqAt.shaped (toPy a) = true ∧ SeqAt.shaped (toPy b) = true ∧ flat a = true ∧ flat b = true) := by
  cases a <;> first | (simp [sc] at s; done) | (cases b <;> first | (simp [sc] at s'; done) | (simp only [Rp] at ha hb; subst ha; subst hb; first | (left; refine ⟨rfl, ?_⟩; rw [Bool.eq_iff_iff]; simp [eqP]; done) | (right; exact ⟨okD_shaped (by simp [okD, flat, deep]), okD_shaped (by simp [okD, flat, deep]), by simp [flat], by simp [flat]⟩)))
theorem opC_eq (hX : CxOk T X) : OpR X (compareOp .Eq) (rC T .eq) := by
  intro pins s σ H x y v u Q I rx ry h
  obtain ⟨α, W, m, a, b, r, hr, ra, rb, e, q, _⟩ := h.red
  have hu : X.A.units + 64 < cLine := by have := hX.hu; omega
  unfold cmpP at e
  simp only at e
  split at e
  · rename_i ok
    cases e
    unfold okEq at ok
    rw [Bool.or_eq_true, Bool.and_eq_true, Bool.and_eq_true] at ok
    have deep_ : SeqAt.shaped (toPy a) = true → SeqAt.shaped (toPy b) = true → flat a = true → flat b = true → wpAny (model X.prog X.w) X.A (compareOp .Eq v u) (EP X pins σ Q) X.xe s := fun s1 s2 f1 f2 =>
      op_eqD hu pins s σ H _ _ v u Q I rx ry ⟨toPy a, toPy b, by rw [hX.K]; exact ra.dp f1, by rw [hX.K]; exact rb.dp f2, s1, s2, by rw [eqv_py a b f1 f2]; exact q⟩
    rcases ok with ⟨s1, s2⟩ | ⟨o1, o2⟩
    · rcases eq_sc (ra.sc_ s1) (rb.sc_ s2) s1 s2 with ⟨c1, c2⟩ | ⟨c1, c2, c3, c4⟩
      · exact op_eq pins s σ H _ _ v u Q I rx ry ⟨c1, by rw [c2]; exact q⟩
      · exact deep_ c1 c2 c3 c4
    · have f1 := o1; have f2 := o2
      unfold okD at f1 f2
      rw [Bool.and_eq_true] at f1 f2
      exact deep_ (okD_shaped o1) (okD_shaped o2) f1.1 f2.1
  · cases e
theorem opC_ne (hX : CxOk T X) : OpR X (compareOp .NotEq) (rC T .ne) := by
  intro pins s σ H x y v u Q I rx ry h
  obtain ⟨α, W, m, a, b, r, hr, ra, rb, e, q, _⟩ := h.red
  have hu : X.A.units + 64 < cLine := by have := hX.hu; omega
  unfold cmpP at e
  simp only at e
  split at e
  · rename_i ok
    cases e
    unfold okEq at ok
    rw [Bool.or_eq_true, Bool.and_eq_true, Bool.and_eq_true] at ok
    have deep_ : SeqAt.shaped (toPy a) = true → SeqAt.shaped (toPy b) = true → flat a = true → flat b = true → wpAny (model X.prog X.w) X.A (compareOp .NotEq v u) (EP X pins σ Q) X.xe s := fun s1 s2 f1 f2 =>
      op_neD hu pins s σ H _ _ v u Q I rx ry ⟨toPy a, toPy b, by rw [hX.K]; exact ra.dp f1, by rw [hX.K]; exact rb.dp f2, s1, s2, by rw [eqv_py a b f1 f2]; exact q⟩
    rcases ok with ⟨s1, s2⟩ | ⟨o1, o2⟩
    · rcases eq_sc (ra.sc_ s1) (rb.sc_ s2) s1 s2 with ⟨c1, c2⟩ | ⟨c1, c2, c3, c4⟩
      · exact op_ne pins s σ H _ _ v u Q I rx ry ⟨c1, by rw [c2]; exact q⟩
      · exact deep_ c1 c2 c3 c4
    · have f1 := o1; have f2 := o2
      unfold okD at f1 f2
      rw [Bool.and_eq_true] at f1 f2
      exact deep_ (okD_shaped o1) (okD_shaped o2) f1.1 f2.1
  · cases e
theorem opC_lt : OpR X (compareOp .Lt) (rC T .lt) := by
  intro pins s σ H x y v u Q I rx ry h
  obtain ⟨α, W, m, a, b, r, hr, ra, rb, e, q, _⟩ := h.red
  unfold cmpP ltP at e
  simp only at e
  split at e
  · cases e
    obtain rfl := ra.int; obtain rfl := rb.int
    exact op_lt pins s σ H _ _ v u Q I rx ry ⟨_, _, rfl, rfl, q⟩
  · cases e
    obtain rfl := ra.str; obtain rfl := rb.str
    exact op_lt_str pins s σ H _ _ v u Q I rx ry ⟨_, _, rfl, rfl, q⟩
  · cases e
theorem opC_gt : OpR X (compareOp .Gt) (rC T .gt) := by
  intro pins s σ H x y v u Q I rx ry h
  obtain ⟨α, W, m, a, b, r, hr, ra, rb, e, q, _⟩ := h.red
  unfold cmpP ltP at e
  simp only at e
  split at e
  · cases e
    obtain rfl := ra.int; obtain rfl := rb.int
    exact op_gt pins s σ H _ _ v u Q I rx ry ⟨_, _, rfl, rfl, q⟩
  · cases e
    obtain rfl := ra.str; obtain rfl := rb.str
    exact op_gt_str pins s σ H _ _ v u Q I rx ry ⟨_, _, rfl, rfl, q⟩
  · cases e
theorem opC_le : OpR X (compareOp .LtE) (rC T .le) := by
  intro pins s σ H x y v u Q I rx ry h
  obtain ⟨α, W, m, a, b, r, hr, ra, rb, e, q, _⟩ := h.red
  unfold cmpP leP at e
  simp only at e
  split at e
  · cases e
    obtain rfl := ra.int; obtain rfl := rb.int
    exact op_le pins s σ H _ _ v u Q I rx ry ⟨_, _, rfl, rfl, q⟩
  · cases e
theorem opC_ge : OpR X (compareOp .GtE) (rC T .ge) := by
  intro pins s σ H x y v u Q I rx ry h
  obtain ⟨α, W, m, a, b, r, hr, ra, rb, e, q, _⟩ := h.red
  unfold cmpP leP at e
  simp only at e
  split at e
  · cases e
    obtain rfl := ra.int; obtain rfl := rb.int
    exact op_ge pins s σ H _ _ v u Q I rx ry ⟨_, _, rfl, rfl, q⟩
  · cases e
theorem opC_is : OpR X (compareOp .Is) (rC T .is) := by
  intro pins s σ H x y v u Q I rx ry h
  obtain ⟨α, W, m, a, b, r, hr, ra, rb, e, q, _⟩ := h.red
  unfold cmpP isP at e
  simp only at e
  split at e
  · cases e
    obtain rfl := rb.non
    exact op_isN pins s σ H _ _ v u Q I rx ry ⟨rfl, by rw [ra.notNon]; exact q⟩
  · cases e
    obtain rfl := ra.bl; obtain rfl := rb.bl
    exact op_is_bl pins s σ H _ _ v u Q I rx ry ⟨_, _, rfl, rfl, by rw [← Bool.beq_eq_decide_eq]; exact q⟩
  · cases e
theorem opC_isnot : OpR X (compareOp .IsNot) (rC T .isnot) := by
  intro pins s σ H x y v u Q I rx ry h
  obtain ⟨α, W, m, a, b, r, hr, ra, rb, e, q, _⟩ := h.red
  unfold cmpP isP at e
  simp only at e
  split at e
  · cases e
    obtain rfl := rb.non
    exact op_notN pins s σ H _ _ v u Q I rx ry ⟨rfl, by rw [ra.notNon]; exact q⟩
  · cases e
    obtain rfl := ra.bl; obtain rfl := rb.bl
    exact op_isnot_bl pins s σ H _ _ v u Q I rx ry ⟨_, _, rfl, rfl, by rw [← Bool.beq_eq_decide_eq]; exact q⟩
  · cases e
end Lot
/-! LotF: membership, places, slices. -/
namespace Lot
open PySem PySem.Spec PyProof.Rows L2
variable {T : Tb} {X : Cx}
section
variable {α α' : Al} {W W' : Addr → Prop} {H H' : Hp} {m : Mem}
theorem hasS_ks {κ : Ky} {x : P} (hx : ky x = some κ) : ∀ {l : List P} {ks : List Ky}, kys l = some ks → hasS l x = ks.any fun j => decide (j = κ)
  | [], _, e => by simp only [kys] at e; cases e; rfl
  | y :: r, ks, e => by
    simp only [kys] at e
    split at e
    · rename_i k ks' e1 e2
      cases e
      have ih := hasS_ks hx e2
      unfold hasS at ih ⊢
      rw [List.any_cons, ih, List.any_cons]
      have e3 : kEq false y x = decide (k = κ) := by
        show decide (ky y = ky x) = decide (k = κ)
        rw [e1, hx]
        by_cases h : k = κ
        · subst h; rw [decide_eq_true rfl, decide_eq_true rfl]
        · rw [decide_eq_false (fun z => h (Option.some.inj z)), decide_eq_false h]
      rw [e3]
    · cases e
theorem none_set {P : Program} {w : World} {h : Heap} {a : Addr} {S : Key → Bool} {n : Nat} (d : h.SetOf (mixKind P w) a S n) : h.SetOf (noneKind P w) a (fun o => match o with | none => false | some k => S k) n := by
  obtain ⟨o, es, ep, t, ho, hx, hd, hel, hmem, hb, hf, hn⟩ := d
  refine ⟨o, es, ep, t, ho, hx, hd, fun e he => ?_, fun k => ?_, hb, hf, hn⟩
  · obtain ⟨⟨k, h1, h2⟩, h3⟩ := hel e he
    exact ⟨⟨some k, h1, h2⟩, h3⟩
  · cases k with
    | some k => exact hmem k
    | none =>
      refine ⟨(fun z => Bool.noConfusion z), fun ⟨e, he, hz⟩ => ?_⟩
      obtain ⟨⟨k, h1, _⟩, _⟩ := hel e he
      have e1 : keyIs k e.2 = true := h1
      rw [nk_none hz] at e1
      exact absurd e1 (keyIs_none k)
end
def rInDT (K : PySem.W.Frag) (neg : Bool) : R2 := fun x y H Q => ∃ d ds, Dp K H x d ∧ Dp K H y (.tuple ds) ∧ SeqAt.shaped d = true ∧ SeqAt.shaped (.tuple ds) = true ∧ Q (.bl (if neg then !ds.any fun z => PyData.eqv z d else ds.any fun z => PyData.eqv z d)) H
theorem shaped_tl {ds : List PyData} (h : SeqAt.shaped (.tuple ds) = true) : SeqAt.shaped (.list ds) = true := by
  unfold SeqAt.shaped at h ⊢
  simpa [PyData.canLay0, PyData.depth] using h
theorem op_inDT (hu : X.A.units + 65 < cLine) : OpR X (compareOp .In) (rInDT X.K false) := by
  intro pins s σ H x y v u Q I rx ry h
  obtain ⟨d, ds, hd, he, sd, se, q⟩ := h
  obtain ⟨as, r1⟩ := Dp.reads I d x v hd rx
  obtain ⟨bs, r2⟩ := Dp.reads I (.tuple ds) y u he ry
  exact SeqAt.in_tuple_reads r2 r1 (SeqAt.canLay_of_shaped (shaped_tl se)) (SeqAt.canLay_of_shaped sd) (room_in_shaped sd hu) ⟨.bl _, H, I, rfl, q⟩
theorem op_notInDT (hu : X.A.units + 65 < cLine) : OpR X (compareOp .NotIn) (rInDT X.K true) := by
  intro pins s σ H x y v u Q I rx ry h
  obtain ⟨d, ds, hd, he, sd, se, q⟩ := h
  obtain ⟨as, r1⟩ := Dp.reads I d x v hd rx
  obtain ⟨bs, r2⟩ := Dp.reads I (.tuple ds) y u he ry
  exact SeqAt.notIn_tuple_reads r2 r1 (SeqAt.canLay_of_shaped (shaped_tl se)) (SeqAt.canLay_of_shaped sd) (room_in_shaped sd hu) ⟨.bl _, H, I, rfl, q⟩
theorem okD_flat {x : P} (h : okD x = true) : flat x = true := by
  unfold okD at h; rw [Bool.and_eq_true] at h; exact h.1
/-- x in y, by what is read -/
theorem in_run (hX : CxOk T X) (neg : Bool) {op : CmpOp} (hop : op = if neg then .NotIn else .In) {pins : List (Addr × PySem.Obj)} {s : Shared} {σ : L2.St} {H : Hp} {x y : V} {v u : Value} {Q : VK} (I : Inv X pins σ H s) (rx : RelV x v) (ry : RelV y u)
    {W : Addr → Prop} {a b : P} {r : Bool} (ra : Rg T W H a x) (rb : Rg T W H b y) (e : inP a b = some r) (hp : kOk true a = true → Rp T W H a x) (q : Q (.bl (if neg then !r else r)) H) :
    wpAny (model X.prog X.w) X.A (compareOp op v u) (EP X pins σ Q) X.xe s := by
  have hu : X.A.units + 65 < cLine := by have := hX.hu; omega
  have hu1 : X.A.units + 1 < cLine := by omega
  unfold inP at e
  split at e
  · rename_i l
    split at e
    · rename_i ok
      cases e
      obtain ⟨p, xs, rfl, h1, h2⟩ := rb.lst
      rw [Bool.or_eq_true, Bool.and_eq_true, Bool.and_eq_true] at ok
      rcases ok with ⟨s1, s2⟩ | ⟨o1, o2⟩
      · have k := inV_sc (ra.sc_ s1) s1 h2 s2
        have f1 := sc_flatV (ra.sc_ s1) s1
        have f2 := all_flatV h2 s2
        cases neg with
        | false => subst hop; exact op_in_seq pins s σ H _ _ v u Q I rx ry ⟨p, xs, rfl, .inl (SqL.of h1), f1, f2, by simpa [k] using q⟩
        | true => subst hop; exact op_notIn_seq pins s σ H _ _ v u Q I rx ry ⟨p, xs, rfl, .inl (SqL.of h1), f1, f2, by simpa [k] using q⟩
      · have k := any_py (okD_flat o1) (l := l) (by simpa [flat] using okD_flat o2)
        have d2 := rb.dp (okD_flat o2)
        have sh := okD_shaped o2
        simp only [toPy] at d2 sh
        cases neg with
        | false => subst hop; exact op_inD hu pins s σ H _ _ v u Q I rx ry ⟨toPy a, toPys l, by rw [hX.K]; exact ra.dp (okD_flat o1), by rw [hX.K]; exact d2, okD_shaped o1, sh, by rw [k]; simpa using q⟩
        | true => subst hop; exact op_notInD hu pins s σ H _ _ v u Q I rx ry ⟨toPy a, toPys l, by rw [hX.K]; exact ra.dp (okD_flat o1), by rw [hX.K]; exact d2, okD_shaped o1, sh, by rw [k]; simpa using q⟩
    · cases e
  · rename_i l
    split at e
    · rename_i ok
      cases e
      obtain ⟨p, xs, rfl, h1, h2⟩ := rb.tup
      rw [Bool.or_eq_true, Bool.and_eq_true, Bool.and_eq_true] at ok
      rcases ok with ⟨s1, s2⟩ | ⟨o1, o2⟩
      · have k := inV_sc (ra.sc_ s1) s1 h2 s2
        have f1 := sc_flatV (ra.sc_ s1) s1
        have f2 := all_flatV h2 s2
        rw [← hX.K] at h1
        cases neg with
        | false => subst hop; exact op_in_seq pins s σ H _ _ v u Q I rx ry ⟨p, xs, rfl, .inr h1, f1, f2, by simpa [k] using q⟩
        | true => subst hop; exact op_notIn_seq pins s σ H _ _ v u Q I rx ry ⟨p, xs, rfl, .inr h1, f1, f2, by simpa [k] using q⟩
      · have k := any_py (okD_flat o1) (l := l) (by simpa [flat] using okD_flat o2)
        have d2 := rb.dp (okD_flat o2)
        have sh := okD_shaped o2
        simp only [toPy] at d2 sh
        cases neg with
        | false => subst hop; exact op_inDT hu pins s σ H _ _ v u Q I rx ry ⟨toPy a, toPys l, by rw [hX.K]; exact ra.dp (okD_flat o1), by rw [hX.K]; exact d2, okD_shaped o1, sh, by rw [k]; simpa using q⟩
        | true => subst hop; exact op_notInDT hu pins s σ H _ _ v u Q I rx ry ⟨toPy a, toPys l, by rw [hX.K]; exact ra.dp (okD_flat o1), by rw [hX.K]; exact d2, okD_shaped o1, sh, by rw [k]; simpa using q⟩
    · cases e
  · rename_i t
    split at e
    · rename_i sx
      split at e
      · rename_i c hc
        cases e
        obtain rfl := ra.str
        obtain rfl := rb.str
        obtain ⟨cps⟩ := sx
        have hc' : cps = #[c] := by
          apply Array.ext'
          simpa using hc
        subst hc'
        cases neg with
        | false => subst hop; exact op_in_sign pins s σ H _ _ v u Q I rx ry ⟨c, t, rfl, rfl, by simpa using q⟩
        | true => subst hop; exact op_notIn_sign pins s σ H _ _ v u Q I rx ry ⟨c, t, rfl, rfl, by simpa using q⟩
      · cases e
    · cases e
  · rename_i t l
    split at e
    · rename_i ok
      cases e
      have hk : Rp T W H a x := by
        cases t with
        | true => exact hp ok
        | false =>
          have ok' : (ky a).isSome = true := by simpa [kOk] using ok
          refine ra.sc_ ?_
          cases a <;> first | rfl | simp [ky] at ok'
      obtain ⟨p, o, rfl, h1, h2⟩ := get_dic (rb.c (by simp)) ok hk
      cases ry
      cases neg with
      | false => subst hop; exact d_in hu1 I h1 rx fun s' I' => ⟨.bl _, H, I', rfl, by rw [h2.isSome]; simpa using q⟩
      | true => subst hop; exact d_notIn hu1 I h1 rx fun s' I' => ⟨.bl _, H, I', rfl, by rw [h2.isSome]; simpa using q⟩
    · split at e
      · cases e
        obtain rfl := ra.non
        obtain ⟨p, kvs, rfl, h1, _⟩ := (rb.c (by simp)).dicF
        cases rx; cases ry
        cases neg with
        | false => subst hop; exact d_inNone I (.inl h1) fun s' I' => ⟨.bl _, H, I', rfl, by simpa using q⟩
        | true => subst hop; exact d_notInNone I (.inl h1) fun s' I' => ⟨.bl _, H, I', rfl, by simpa using q⟩
      · cases e
  · rename_i l
    obtain ⟨p, ks, rfl, h1, h2, h3⟩ := (rb.c (by simp)).set
    rw [← hX.P, ← hX.w] at h3
    split at e
    · rename_i ok
      cases e
      have ok' : (ky a).isSome = true := by simpa [kOk] using ok
      obtain ⟨κ, ek⟩ := Option.isSome_iff_exists.mp ok'
      have ex : x = kV κ := by
        have hk : Rp T W H a x := by
          refine ra.sc_ ?_
          cases a <;> first | rfl | simp [ky] at ok'
        have h3 : Rp T W H a (kV κ) := rp_ky ek
        cases a <;> first | cases ek | skip
        all_goals (simp only [Rp] at hk; subst hk; rfl)
      subst ex
      have k := hasS_ks ek h1
      cases neg with
      | false => subst hop; exact or_sinK pins s σ H _ _ v u Q I rx ry ⟨κ, p, _, _, rfl, rfl, h3, by rw [k] at q; simpa using q⟩
      | true => subst hop; exact or_snotinK pins s σ H _ _ v u Q I rx ry ⟨κ, p, _, _, rfl, rfl, h3, by rw [k] at q; simpa using q⟩
    · split at e
      · cases e
        obtain rfl := ra.non
        cases rx; cases ry
        have d := none_set (setK_get I h3)
        cases neg with
        | false => subst hop; exact wpAny_inSet_of (k := (none : Option Key)) (show (noneKind X.prog X.w).is none .none = true from rfl) rfl d ⟨.bl _, H, I.tok _, rfl, by simpa using q⟩
        | true => subst hop; exact wpAny_notInSet_of (k := (none : Option Key)) (show (noneKind X.prog X.w).is none .none = true from rfl) rfl d ⟨.bl _, H, I.tok _, rfl, by simpa using q⟩
      · cases e
  · cases e
theorem opC_in (hX : CxOk T X) : OpR X (compareOp .In) (rC T .inn) := by
  intro pins s σ H x y v u Q I rx ry h
  obtain ⟨α, W, m, a, b, r, hr, ra, rb, e, q, hp⟩ := h.red
  exact in_run hX false rfl I rx ry ra rb e (hp rfl) q
theorem opC_notin (hX : CxOk T X) : OpR X (compareOp .NotIn) (rC T .notin) := by
  intro pins s σ H x y v u Q I rx ry h
  obtain ⟨α, W, m, a, b, r, hr, ra, rb, e, q, hp⟩ := h.red
  unfold cmpP at e
  simp only [Option.map_eq_some_iff] at e
  obtain ⟨r', e, rfl⟩ := e
  exact in_run hX true rfl I rx ry ra rb e (hp rfl) q

/-! ### o[i] -/
theorem ixN_eq (n : Nat) (i : Int) : Lot.ixN n i = L2.ixN n i := rfl
theorem atI_rp {W : Addr → Prop} {H : Hp} {l : List P} {xs : List V} {i : Int} {x : P} (h : RpL T W H l xs) (e : Lot.atI l i = some x) : ∃ v, L2.atI xs i = some v ∧ Rp T W H x v := by
  unfold Lot.atI at e
  obtain ⟨j, e1, e2⟩ := Option.bind_eq_some_iff.mp e
  obtain ⟨v, e3, r⟩ := RpL.get h e2
  refine ⟨v, ?_, r⟩
  unfold L2.atI
  rw [← ixN_eq, h.len, e1]
  exact e3
def rI (T : Tb) : R2 := fun x y H Q => ∃ α W m a b, HR T α W H m ∧ RD T α W H a x ∧ RD T α W H b y ∧ Hg T α W H ((Out.of (ixD a b m) m).bind fun r m3 => .ok (.p r) m3) (fin T Q)
theorem ix_dic (hX : CxOk T X) : IxR X (fun x y H Q => ∃ a v, x = V.ref a ∧ DGet H a y (some v) ∧ Q v H) := by
  intro value slice pins s σ H x y v u Q I rx ry h hs
  obtain ⟨a, w', rfl, g, q⟩ := h
  cases rx
  have hu : X.A.units + 1 < cLine := by have := hX.hu; omega
  have hT := dict_typeIs I g
  unfold subscriptTail
  refine wpAny_bind ?_
  rw [getitemInPython_of_ne hT.not_modules]
  refine wpAny_bind (wpAny_specialOf hT PySem.F.slot_dict_getitem.lookup ?_)
  have fin : wpAny (model X.prog X.w) X.A (subscripted slice false (.ref a) u) (fun r s₃ => wpAny (model X.prog X.w) X.A (letTemporaryGo value (.ref a) r >>= fun _ => pure r) (EP X pins σ Q) X.xe s₃) X.xe s := by
    rw [hs]
    exact wpAny_operating (wpAny_mono (d_getItem (E := X.xe) hu I g ry fun z s' I' rz => (show EP X pins σ Q z s' from ⟨w', H, I', rz, q⟩)) (fun r s₃ h₃ => wpAny_bind (wpAny_letTemporaryGo (wpAny_pure h₃))) fun _ _ x => x)
  first
    | exact wpAny_pure (wpAny_bind fin)
    | exact wpAny_bind (wpAny_pure (wpAny_bind fin))
    | exact wpAny_bind fin
theorem ix_ok (hX : CxOk T X) : IxR X (rI T) := by
  intro value slice pins s σ H x y v u Q I rx ry h hs
  obtain ⟨α, W, m, a, b, hr, ra, rb, h⟩ := h
  unfold ixD at h
  cases ea : rg a m with
  | none => rw [ea] at h; exact h.elim
  | some p =>
    cases eb : rd b m with
    | none => rw [ea, eb] at h; exact h.elim
    | some k =>
      rw [ea, eb] at h
      cases e : ixP p k with
      | none => simp only [e] at h; exact h.elim
      | some r =>
        simp only [e] at h
        have q : ∀ z, Rp T W H r z → Q z H := fun z rz => h.here hr z rz
        have ga := rg_rg hr ra ea
        have gb := rd_rc hr rb eb
        unfold ixP at e
        split at e
        · obtain ⟨p', xs, rfl, h1, h2⟩ := ga.lst
          obtain rfl := gb.int
          obtain ⟨z, h3, h4⟩ := atI_rp h2 e
          exact ix_list value slice pins s σ H _ _ v u Q I rx ry ⟨p', xs, _, z, rfl, rfl, SqL.of h1, h3, q z h4⟩ hs
        · obtain ⟨p', xs, rfl, h1, h2⟩ := ga.tup
          obtain rfl := gb.int
          obtain ⟨z, h3, h4⟩ := atI_rp h2 e
          exact ix_tup value slice pins s σ H _ _ v u Q I rx ry ⟨p', xs, _, z, rfl, rfl, by rw [hX.K]; exact h1, h3, q z h4⟩ hs
        · split at e
          · rename_i hl
            obtain rfl := ga.str
            obtain rfl := gb.int
            obtain ⟨c, h3, rfl⟩ := Option.map_eq_some_iff.mp e
            exact ix_str value slice pins s σ H _ _ v u Q I rx ry ⟨_, _, c, rfl, rfl, by rw [← line_eq]; exact hl, h3, q _ (by simp only [Rp])⟩ hs
          · cases e
        · split at e
          · rename_i t l _ ok
            have hk : Rp T W H k y := by
              cases b with
              | p z => cases eb; exact rb
              | ref n i =>
                obtain ⟨p', _, _, h3⟩ := hr.cel n i k eb
                cases k with
                | tup l => exact (show False from h3).elim
                | int _ => exact (show False from h3).elim
                | str _ => exact (show False from h3).elim
                | _ => cases t <;> simp [kOk, kyT, ky] at ok
              | _ => cases eb
            obtain ⟨p', o, rfl, h1, h2⟩ := get_dic (ga.c (by simp)) ok hk
            rw [e] at h2
            cases o with
            | none => exact h2.elim
            | some z => exact ix_dic hX value slice pins s σ H _ _ v u Q I rx ry ⟨p', z, rfl, h1, q z h2⟩ hs
          · cases e
        · cases e

/-! ### o[lo:hi] -/
theorem sIx_eq (n d : Nat) (o : Option Int) : Lot.sIx n d o = HT.sIx n d o := by
  cases o with
  | none => rfl
  | some v =>
    show (if v < 0 then (v + (n : Int)).toNat else min v.toNat n) = HT.sIx n d (some v)
    unfold HT.sIx
    rfl
theorem cut_rp {W : Addr → Prop} {H : Hp} {l : List P} {xs : List V} (lo hi : Option Int) (h : RpL T W H l xs) : RpL T W H (cut l lo hi) (cutV xs lo hi) := by
  unfold cut cutV
  rw [sIx_eq, sIx_eq, ← h.len]
  exact (h.drop _).take _
theorem cut_whole {α : Type} (l : List α) (lo hi : Option Int) (h : HT.sIx l.length 0 lo = 0 ∧ HT.sIx l.length l.length hi = l.length) : cut l lo hi = l := by
  unfold cut
  rw [sIx_eq, sIx_eq, h.1, h.2]
  simp
theorem cut_len {α : Type} (l : List α) (lo hi : Option Int) : (cut l lo hi).length ≤ l.length := by
  unfold cut
  rw [List.length_take, List.length_drop]
  omega
/-- a slice's reading: what is cut, its bounds -/
def rS (T : Tb) : V → Option Int → Option Int → Hp → VK → Prop := fun x lo hi H Q => ∃ α W m a, HR T α W H m ∧ RD T α W H a x ∧ Hx T α W H ((Out.of (sliceD a lo hi m) m).bind fun r m4 => .ok (.p r) m4) Q
theorem ints_rp {W : Addr → Prop} {H : Hp} : ∀ l : List Int, RpL T W H (l.map P.int) (l.map V.int)
  | [] => by simp only [List.map_nil, RpL]
  | i :: r => by
    simp only [List.map_cons, RpL]
    exact ⟨_, _, rfl, by simp only [Rp], ints_rp r⟩
theorem sl_ok (hX : CxOk T X) : SlR X (rS T) := by
  intro pins s σ H x v vl vu lo hi sl Q I rx hs pl pu h
  obtain ⟨α, W, m, a, hr, ra, h⟩ := h
  have go : ∀ y r, rd a m = some y → sliceP y lo hi = some r → Hx T α W H (.ok (.p r) m) Q → wpAny (model X.prog X.w) X.A (getItem v (.ref sl)) (EP X pins σ Q) X.xe s → True := fun _ _ _ _ _ _ => trivial
  cases a with
  | scr l =>
    obtain ⟨p, rfl, hS⟩ := ra
    have hS : SqL X.K H p (l.map V.int) := by
      rcases hS with ⟨o, h1, h2⟩ | h2
      · exact .inl (.inr ⟨o, h2⟩)
      · rw [hX.K]; exact .inr h2
    exact sl_list pins s σ H _ v vl vu lo hi sl Q I rx hs pl pu ⟨p, _, rfl, hS, fun z hz => by
      have k := (ints_rp (T := T) (W := W) (H := H) l)
      exact (Hx.F h).new hr (cut_rp lo hi k) hz⟩
  | _ =>
    rename_i d
    all_goals
      unfold sliceD at h
      simp only at h
      generalize hd : (rd _ m) = od at h
      cases od with
      | none => exact (h.elim id id).elim
      | some y =>
        simp only [Option.bind_some] at h
        cases e : sliceP y lo hi with
        | none => rw [e] at h; exact (h.elim id id).elim
        | some r =>
          rw [e] at h
          simp only [Out.of_some, Out.bind_ok] at h
          have rc := rd_rc hr ra hd
          unfold sliceP at e
          split at e
          · cases e
            obtain ⟨p, xs, rfl, h1, h2⟩ := rc.lst
            exact sl_list pins s σ H _ v vl vu lo hi sl Q I rx hs pl pu ⟨p, xs, rfl, SqL.of h1, fun z hz => (Hx.F h).new hr (cut_rp lo hi h2) hz⟩
          · cases e
            obtain ⟨p, xs, rfl, h1, h2⟩ := rc.tup
            refine sl_tupA pins s σ H _ v vl vu lo hi sl Q I rx hs pl pu ⟨p, xs, rfl, h1.sq, fun z => ?_, fun z w hw => (Hx.tupD h).newT hr (cut_rp lo hi h2) hw⟩
            rw [h2.len] at z
            rw [cut_whole _ lo hi z] at h
            exact (Hx.tupD h).here hr (.ref p) (by show Rp T W H _ _; simp only [Rp]; exact ⟨p, xs, rfl, h1, h2⟩)
          · split at e
            · rename_i hl
              cases e
              obtain rfl := rc.str
              refine sl_str pins s σ H _ v vl vu lo hi sl Q I rx hs pl pu ⟨_, rfl, by rw [← line_eq]; exact hl, ?_⟩
              refine h.p (by intro l; simp) .refl hr ?_
              simp only [Rp]
              unfold cutS cut
              rw [sIx_eq, sIx_eq, Array.length_toList]
              rfl
            · cases e
          · cases e
end Lot
/-! LotG: one rule a construct, from readings of the small language to readings of the hand layer. -/
namespace Lot
open PySem PySem.Spec PyProof.Rows L2
variable {T : Tb} {X : Cx}
section
variable {a b c : Expr} {fa fb fc : Ev} {pos : Pos}
/-! ### operators -/
theorem g_bin {o : Operator} {f : P → P → Option P} (ho : OpR X (binaryOp o) (rB T f)) (ha : PE X a (tD T fa)) (hb : PE X b (tD T fb)) :
    PE X (.BinOp a o b pos) (tX T fun ρ m => (fa ρ m).bind fun x m1 => (fb ρ m1).bind fun y m2 => opO f x y m2) :=
  PE.weak (pe_op ho ha hb) fun σ H Q ⟨α, W, ρ, m, hr, hs, h⟩ => ⟨α, W, ρ, m, hr, hs, h.bind.mono fun x m1 α1 W1 H1 e1 hr1 h1 v rv =>
    ⟨α1, W1, ρ, m1, hr1, hs.ext e1, h1.bind.mono fun y m2 α2 W2 H2 e2 hr2 h2 u ru => ⟨α2, W2, m2, x, y, hr2, rv.ext e2, ru, h2⟩⟩⟩
def cmpO (op : COp) (x y : D) (m : Mem) : Out D := (Out.of (cmpD op x y m) m).bind fun r m3 => .ok (.p (.bl r)) m3
theorem g_cmp {o : CmpOp} {op : COp} (ho : OpR X (compareOp o) (rC T op)) (hm : behindInMarks o b = false) (ha : PE X a (tD T fa)) (hb : PE X b (tD T fb)) :
    PE X (.Compare a [o] [b] pos) (tD T fun ρ m => (fa ρ m).bind fun x m1 => (fb ρ m1).bind fun y m2 => cmpO op x y m2) :=
  PE.weak (pe_cmpR ho ha hb hm) fun σ H Q ⟨α, W, ρ, m, hr, hs, h⟩ => ⟨α, W, ρ, m, hr, hs, h.bind.mono fun x m1 α1 W1 H1 e1 hr1 h1 v rv =>
    ⟨α1, W1, ρ, m1, hr1, hs.ext e1, h1.bind.mono fun y m2 α2 W2 H2 e2 hr2 h2 u ru => ⟨α2, W2, m2, x, y, hr2, rv.ext e2, ru, h2⟩⟩⟩
/-- a test of a truth value's own term -/
def tO (f : Ev) : Env → Mem → Out Bool := fun ρ m => (f ρ m).bind truthO
theorem cmpO_bind {op : COp} {x y : D} {m : Mem} : (cmpO op x y m).bind truthO = Out.of (cmpD op x y m) m := by
  unfold cmpO
  cases cmpD op x y m <;> rfl
theorem Out.bind_assoc {α β γ : Type} (o : Out α) (f : α → Mem → Out β) (g : β → Mem → Out γ) : (o.bind f).bind g = o.bind fun a m => (f a m).bind g := by
  cases o <;> rfl
theorem g_cmpT {o : CmpOp} {op : COp} (ho : OpR X (compareOp o) (rC T op)) (hm : behindInMarks o b = false) (ha : PE X a (tD T fa)) (hb : PE X b (tD T fb)) :
    PT X (.Compare a [o] [b] pos) (tT T (tO fun ρ m => (fa ρ m).bind fun x m1 => (fb ρ m1).bind fun y m2 => cmpO op x y m2)) :=
  PT.weak (pt_cmpR ho ha hb hm) fun σ H Q ⟨α, W, ρ, m, hr, hs, h⟩ => by
    dsimp only [tO] at h
    rw [Out.bind_assoc] at h
    refine ⟨α, W, ρ, m, hr, hs, h.bind.mono fun x m1 α1 W1 H1 e1 hr1 h1 v rv => ⟨α1, W1, ρ, m1, hr1, hs.ext e1, ?_⟩⟩
    rw [Out.bind_assoc] at h1
    refine h1.bind.mono fun y m2 α2 W2 H2 e2 hr2 h2 u ru => ⟨α2, W2, m2, x, y, hr2, rv.ext e2, ru, ?_⟩
    rw [cmpO_bind] at h2
    cases e : cmpD op x y m2 with
    | none => rw [e] at h2; exact h2.elim
    | some r =>
      rw [e] at h2
      exact fun α3 W3 H3 e3 hr3 v' rv' => ⟨r, by simpa only [RD, Rp] using rv', h2.ok e3 hr3⟩
theorem g_neg (ha : PE X a (tD T fa)) : PE X (.UnaryOp .USub a pos) (tD T fun ρ m => (fa ρ m).bind fun x m1 => match x with
    | .p (.int i) => .ok (.p (.int (-i))) m1
    | _ => .bad) :=
  PE.weak (pe_un un_neg ha) fun σ H Q ⟨α, W, ρ, m, hr, hs, h⟩ => ⟨α, W, ρ, m, hr, hs, h.bind.mono fun x m1 α1 W1 H1 e1 hr1 h1 v rv => by
    split at h1
    · rename_i i
      have : v = .int i := by simpa only [RD, Rp] using rv
      exact ⟨_, this, h1.here hr1 _ (by simp only [RD, Rp])⟩
    · exact h1.elim⟩
theorem empty_rp {W : Addr → Prop} {H : Hp} : ∀ {l : List P} {xs : List V}, RpL T W H l xs → (!l.isEmpty) = !xs.isEmpty
  | [], xs, h => by simp only [RpL] at h; subst h; rfl
  | d :: ds, xs, h => by
    simp only [RpL] at h
    obtain ⟨v, r, rfl, _⟩ := h
    rfl
/-- a value's truth -/
theorem tru_of {α : Al} {W : Addr → Prop} {H : Hp} {m : Mem} (hX : CxOk T X) (hr : HR T α W H m) {d : D} {v : V} {t : Bool} (r : RD T α W H d v) (e : truth d m = some t) : TruV X.K v H t := by
  unfold truth at e
  obtain ⟨x, e1, e2⟩ := Option.bind_eq_some_iff.mp e
  have rc := rd_rc hr r e1
  unfold truthP at e2
  split at e2
  · cases e2; rw [rc.non]; rfl
  · cases e2; rw [rc.bl]; rfl
  · cases e2; rw [rc.int]; rfl
  · cases e2
    obtain ⟨a, xs, rfl, h1, h2⟩ := rc.lst
    exact .inl ⟨xs, SqL.of h1, empty_rp h2⟩
  · cases e2
    obtain ⟨a, xs, rfl, h1, h2⟩ := rc.tup
    exact .inr (.inl ⟨xs, h1.sq, empty_rp h2⟩)
  · cases e2
theorem g_truth (hX : CxOk T X) (ha : PE X a (tD T fa)) (he : ∀ whole, isTrue a X.env whole = (do let v ← whole; standAt a.pos; holding [v] (truthy v))) : PT X a (tT T (tO fa)) :=
  PT.weak (pt_truth ha he) fun σ H Q ⟨α, W, ρ, m, hr, hs, h⟩ => ⟨α, W, ρ, m, hr, hs, h.bind.mono fun x m1 α1 W1 H1 e1 hr1 h1 v rv => by
    unfold truthO at h1
    cases e : truth x m1 with
    | none => rw [e] at h1; exact h1.elim
    | some t => rw [e] at h1; exact ⟨t, tru_of hX hr1 rv e, h1.here hr1⟩⟩
theorem g_not (ha : PT X a (tT T (tO fa))) (hX : CxOk T X) (hv : PE X a (tD T fa)) : PE X (.UnaryOp .Not a pos) (tD T fun ρ m => (tO fa ρ m).bind fun b m1 => .ok (.p (.bl (!b))) m1) :=
  PE.weak (pe_notT hv) fun σ H Q ⟨α, W, ρ, m, hr, hs, h⟩ => by
    dsimp only [tO] at h
    rw [Out.bind_assoc] at h
    refine ⟨α, W, ρ, m, hr, hs, h.bind.mono fun x m1 α1 W1 H1 e1 hr1 h1 v rv => ?_⟩
    unfold truthO at h1
    cases e : truth x m1 with
    | none => rw [e] at h1; exact h1.elim
    | some t => rw [e] at h1; exact ⟨t, tru_of hX hr1 rv e, h1.here hr1 _ (by simp only [RD, Rp])⟩
theorem g_notT (ha : PT X a (tT T (tO fa))) : PT X (.UnaryOp .Not a pos) (tT T (tO fun ρ m => (tO fa ρ m).bind fun b m1 => .ok (.p (.bl (!b))) m1)) :=
  PT.weak (pt_not ha) fun σ H Q ⟨α, W, ρ, m, hr, hs, h⟩ => by
    dsimp only [tO] at h
    rw [Out.bind_assoc] at h
    exact ⟨α, W, ρ, m, hr, hs, h.bind.mono fun x m1 α1 W1 H1 e1 hr1 h1 => h1.here hr1⟩
theorem g_ife (hc : PT X c (tT T (tO fc))) (ha : PE X a (tD T fa)) (hb : PE X b (tD T fb)) : PE X (.IfExp c a b pos) (tD T fun ρ m => (tO fc ρ m).bind fun t m1 => if t then fa ρ m1 else fb ρ m1) :=
  PE.weak (pe_ifExp hc ha hb) fun σ H Q ⟨α, W, ρ, m, hr, hs, h⟩ => ⟨α, W, ρ, m, hr, hs, h.bind.mono fun t m1 α1 W1 H1 e1 hr1 h1 => by
    cases t with
    | true => exact ⟨α1, W1, ρ, m1, hr1, hs.ext e1, h1⟩
    | false => exact ⟨α1, W1, ρ, m1, hr1, hs.ext e1, h1⟩⟩
/-- and, or by values and as tests -/
theorem g_and {rest : List Expr} (hX : CxOk T X) (ha : PE X a (tD T fa)) (hb : PE X (.BoolOp .And (b :: rest) pos) (tD T fb)) :
    PE X (.BoolOp .And (a :: b :: rest) pos) (tD T fun ρ m => (fa ρ m).bind fun d m1 => (truthO d m1).bind fun t m2 => if t then fb ρ m2 else .ok d m2) :=
  PE.weak (pe_andT ha hb) fun σ H Q ⟨α, W, ρ, m, hr, hs, h⟩ => ⟨α, W, ρ, m, hr, hs, h.bind.mono fun x m1 α1 W1 H1 e1 hr1 h1 v rv => by
    unfold truthO at h1
    cases e : truth x m1 with
    | none => rw [e] at h1; exact h1.elim
    | some t =>
      rw [e] at h1
      refine ⟨t, tru_of hX hr1 rv e, ?_⟩
      cases t with
      | true => exact ⟨α1, W1, ρ, m1, hr1, hs.ext e1, h1⟩
      | false => exact h1.here hr1 v rv⟩
theorem g_or {rest : List Expr} (hX : CxOk T X) (ha : PE X a (tD T fa)) (hb : PE X (.BoolOp .Or (b :: rest) pos) (tD T fb)) :
    PE X (.BoolOp .Or (a :: b :: rest) pos) (tD T fun ρ m => (fa ρ m).bind fun d m1 => (truthO d m1).bind fun t m2 => if t then .ok d m2 else fb ρ m2) :=
  PE.weak (pe_orT ha hb) fun σ H Q ⟨α, W, ρ, m, hr, hs, h⟩ => ⟨α, W, ρ, m, hr, hs, h.bind.mono fun x m1 α1 W1 H1 e1 hr1 h1 v rv => by
    unfold truthO at h1
    cases e : truth x m1 with
    | none => rw [e] at h1; exact h1.elim
    | some t =>
      rw [e] at h1
      refine ⟨t, tru_of hX hr1 rv e, ?_⟩
      cases t with
      | true => exact h1.here hr1 v rv
      | false => exact ⟨α1, W1, ρ, m1, hr1, hs.ext e1, h1⟩⟩
abbrev PWt (X : Cx) (T : Tb) (e : Expr) (f : Ev) : Prop := PW X e (tT T (tO f))
theorem PW.weak {X : Cx} {e : Expr} {t t' : TT} (h : PW X e t) (w : ∀ σ H Q, t' σ H Q → t σ H Q) : PW X e t' := ⟨fun wh pins s σ H Q I hq => h.run wh pins s σ H Q I (w σ H Q hq)⟩
theorem g_andT {rest : List Expr} (ha : PT X a (tT T (tO fa))) (hb : PWt X T (.BoolOp .And (b :: rest) pos) fb) :
    PWt X T (.BoolOp .And (a :: b :: rest) pos) (fun ρ m => (fa ρ m).bind fun d m1 => (truthO d m1).bind fun t m2 => if t then fb ρ m2 else .ok d m2) :=
  PW.weak (pw_and ha hb) fun σ H Q ⟨α, W, ρ, m, hr, hs, h⟩ => by
    have e : (tO (fun ρ m => (fa ρ m).bind fun d m1 => (truthO d m1).bind fun t m2 => if t then fb ρ m2 else .ok d m2) ρ m) = (tO fa ρ m).bind fun t m2 => if t then tO fb ρ m2 else .ok false m2 := by
      unfold tO
      rw [Out.bind_assoc, Out.bind_assoc]
      cases fa ρ m with
      | ok d m1 =>
        simp only [Out.bind_ok]
        unfold truthO
        cases q : truth d m1 with
        | none => rfl
        | some t =>
          cases t
          · simp [q]
          · simp
      | exn _ _ _ => rfl
      | bad => rfl
    rw [e] at h
    refine ⟨α, W, ρ, m, hr, hs, h.bind.mono fun t m1 α1 W1 H1 e1 hr1 h1 => ?_⟩
    cases t with
    | true => exact ⟨α1, W1, ρ, m1, hr1, hs.ext e1, h1⟩
    | false => exact h1.here hr1
theorem g_orT {rest : List Expr} (ha : PT X a (tT T (tO fa))) (hb : PWt X T (.BoolOp .Or (b :: rest) pos) fb) :
    PWt X T (.BoolOp .Or (a :: b :: rest) pos) (fun ρ m => (fa ρ m).bind fun d m1 => (truthO d m1).bind fun t m2 => if t then .ok d m2 else fb ρ m2) :=
  PW.weak (pw_or ha hb) fun σ H Q ⟨α, W, ρ, m, hr, hs, h⟩ => by
    have e : (tO (fun ρ m => (fa ρ m).bind fun d m1 => (truthO d m1).bind fun t m2 => if t then .ok d m2 else fb ρ m2) ρ m) = (tO fa ρ m).bind fun t m2 => if t then .ok true m2 else tO fb ρ m2 := by
      unfold tO
      rw [Out.bind_assoc, Out.bind_assoc]
      cases fa ρ m with
      | ok d m1 =>
        simp only [Out.bind_ok]
        unfold truthO
        cases q : truth d m1 with
        | none => rfl
        | some t =>
          cases t
          · simp
          · simp [q]
      | exn _ _ _ => rfl
      | bad => rfl
    rw [e] at h
    refine ⟨α, W, ρ, m, hr, hs, h.bind.mono fun t m1 α1 W1 H1 e1 hr1 h1 => ?_⟩
    cases t with
    | true => exact h1.here hr1
    | false => exact ⟨α1, W1, ρ, m1, hr1, hs.ext e1, h1⟩
/-- a op b op' c -/
theorem g_chain {o o' : CmpOp} {op op' : COp} (ho : OpR X (compareOp o) (rC T op)) (ho' : OpR X (compareOp o') (rC T op')) (hm : lastMarks [o, o'] [b, c] = false) (ha : PE X a (tD T fa)) (hb : PE X b (tD T fb)) (hc : PE X c (tD T fc)) :
    PE X (.Compare a [o, o'] [b, c] pos) (tD T fun ρ m => (fa ρ m).bind fun x m1 => (fb ρ m1).bind fun y m2 => (Out.of (cmpD op x y m2) m2).bind fun r m3 => if r then (fc ρ m3).bind fun z m4 => cmpO op' y z m4 else .ok (.p (.bl false)) m3) :=
  PE.weak (pe_chain ho ho' ha hb hc hm) fun σ H Q ⟨α, W, ρ, m, hr, hs, h⟩ => ⟨α, W, ρ, m, hr, hs, h.bind.mono fun x m1 α1 W1 H1 e1 hr1 h1 v rv =>
    ⟨α1, W1, ρ, m1, hr1, hs.ext e1, h1.bind.mono fun y m2 α2 W2 H2 e2 hr2 h2 u ru => by
      cases e : cmpD op x y m2 with
      | none => rw [e] at h2; exact h2.elim
      | some r =>
        rw [e] at h2
        refine ⟨α2, W2, m2, x, y, hr2, rv.ext e2, ru, ?_⟩
        rw [e]
        exact fun α3 W3 H3 e3 hr3 v' rv' => ⟨r, by simpa only [RD, Rp] using rv', by
          have h3 := Hg.from e3 h2
          cases r with
          | true =>
            exact ⟨α3, W3, ρ, m2, hr3, ((hs.ext e1).ext e2).ext e3, Hg.mono (Hg.bind h3) fun z m4 α4 W4 H4 e4 hr4 h4 w rw' => ⟨α4, W4, m4, y, z, hr4, (ru.ext e3).ext e4, rw', h4⟩⟩
          | false => exact h3.here hr3 _ (by simp only [RD, Rp])⟩⟩⟩
end
/-! ### arguments -/
theorem g_nil : PA X [] (tL T fun _ m => .ok [] m) := PA.weak pa_nil fun σ H Q ⟨α, W, ρ, m, hr, hs, h⟩ => h.here hr [] rfl
theorem g_cons {e : Expr} {es : List Expr} {fe : Ev} {fs : Env → Mem → Out (List D)} (he : PE X e (tD T fe)) (hs' : PA X es (tL T fs)) (hst : starEach (e :: es) X.env = (false, eval e X.env) :: starEach es X.env) :
    PA X (e :: es) (tL T fun ρ m => (fe ρ m).bind fun d m1 => (fs ρ m1).bind fun ds m2 => .ok (d :: ds) m2) :=
  PA.weak (pa_cons he hs' hst) fun σ H Q ⟨α, W, ρ, m, hr, hs, h⟩ => ⟨α, W, ρ, m, hr, hs, h.bind.mono fun x m1 α1 W1 H1 e1 hr1 h1 v rv =>
    ⟨α1, W1, ρ, m1, hr1, hs.ext e1, h1.bind.mono fun ds m2 α2 W2 H2 e2 hr2 h2 vs rvs => h2.here hr2 (v :: vs) ⟨v, vs, rfl, rv.ext e2, rvs⟩⟩⟩
/-! ### places and slices -/
theorem g_ix {a b : Expr} {fa fb : Ev} {pos : Pos} (hX : CxOk T X) (hp : PlainIx b) (ha : PE X a (tD T fa)) (hb : PE X b (tD T fb)) :
    PE X (.Subscript a b pos) (tD T fun ρ m => (fa ρ m).bind fun x m1 => (fb ρ m1).bind fun y m2 => (Out.of (ixD x y m2) m2).bind fun r m3 => .ok (.p r) m3) :=
  PE.weak (pe_ix (ix_ok hX) ha hb hp) fun σ H Q ⟨α, W, ρ, m, hr, hs, h⟩ => ⟨α, W, ρ, m, hr, hs, h.bind.mono fun x m1 α1 W1 H1 e1 hr1 h1 v rv =>
    ⟨α1, W1, ρ, m1, hr1, hs.ext e1, h1.bind.mono fun y m2 α2 W2 H2 e2 hr2 h2 u ru => ⟨α2, W2, m2, x, y, hr2, rv.ext e2, ru, h2⟩⟩⟩
end Lot
/-! LotH: names, displays, slices, fields, calls. -/
namespace Lot
open PySem PySem.Spec PyProof.Rows L2
variable {T : Tb} {X : Cx}
/-! ### names and constants -/
theorem g_var {i : Nat} {x : Str} {pos : Pos} (hN : X.N[i]? = some x) (hv : Vis X.env.scope x) (hd : (x == ("__debug__" : Str)) = false) (hcd : (x == ("__classdict__" : Str)) = false) : PE X (.Name x pos) (tD T fun ρ m => Out.of ((ρ[i]?).bind id) m) :=
  PE.weak (pe_var hN hv hd hcd) fun σ H Q ⟨α, W, ρ, m, hr, hs, h⟩ => by
    dsimp only at h
    cases e : ρ[i]? with
    | none => rw [e] at h; exact h.elim
    | some o =>
      rw [e] at h
      cases o with
      | none => exact h.elim
      | some d =>
        obtain ⟨v, h1, h2⟩ := hs.2 i d e
        exact ⟨v, h1, h.here hr v h2⟩
theorem tC_d {v : V} {d : D} {e : Expr} (h : PE X e (tC v)) (hv : ∀ α W H, RD T α W H d v) : PE X e (tD T fun _ m => .ok d m) :=
  PE.weak h fun σ H Q ⟨α, W, ρ, m, hr, hs, h⟩ => h.here hr v (hv α W H)
/-! ### displays -/
theorem rdl_p {α : Al} {W : Addr → Prop} {H : Hp} : ∀ {ds : List D} {xs : List P} {m : Mem} {vs : List V}, ds = xs.map D.p → RDL T α W H ds vs → RpL T W H xs vs
  | _, [], _, vs, e, h => by subst e; exact (by simp only [RpL]; exact h)
  | _, x :: xs, m, vs, e, h => by
    subst e
    obtain ⟨v, r, h1, h2, h3⟩ := h
    simp only [RpL]
    exact ⟨v, r, h1, h2, rdl_p (m := m) rfl h3⟩
/-- arguments that are data -/
def tP (T : Tb) (f : Env → Mem → Out (List P)) : TA := fun σ H Q => ∃ α W ρ m, HR T α W H m ∧ RS T α W H ρ σ ∧ Hg T α W H (f ρ m) fun xs _ α' W' H' => ∀ vs, RpL T W' H' xs vs → Q vs H'
theorem g_nilP : PA X [] (tP T fun _ m => .ok [] m) := PA.weak pa_nil fun σ H Q ⟨α, W, ρ, m, hr, hs, h⟩ => h.here hr [] (by simp only [RpL])
theorem g_consP {e : Expr} {es : List Expr} {fe : Ev} {fs : Env → Mem → Out (List P)} (he : PE X e (tD T fe)) (hs' : PA X es (tP T fs)) (hst : starEach (e :: es) X.env = (false, eval e X.env) :: starEach es X.env) :
    PA X (e :: es) (tP T fun ρ m => (fe ρ m).bind fun d m1 => (asP d m1).bind fun x m1 => (fs ρ m1).bind fun ds m2 => .ok (x :: ds) m2) :=
  PA.weak (pa_cons he hs' hst) fun σ H Q ⟨α, W, ρ, m, hr, hs, h⟩ => ⟨α, W, ρ, m, hr, hs, h.bind.mono fun d m1 α1 W1 H1 e1 hr1 h1 v rv => by
    cases d with
    | p x =>
      have h1 : Hg T α1 W1 H1 ((fs ρ m1).bind fun ds m2 => .ok (x :: ds) m2) _ := h1
      exact ⟨α1, W1, ρ, m1, hr1, hs.ext e1, h1.bind.mono fun ds m2 α2 W2 H2 e2 hr2 h2 vs rvs => h2.here hr2 (v :: vs) (by
        simp only [RpL]
        exact ⟨v, vs, rfl, Rp.ext e2 x v rv, rvs⟩)⟩
    | _ => exact h1.elim⟩
theorem g_tup {es : List Expr} {fs : Env → Mem → Out (List P)} {k : Nat} {pos : Pos} (h : PA X es (tP T fs)) : PE X (.Tuple es k pos) (tD T fun ρ m => (fs ρ m).bind fun xs m1 => if xs.length ≤ line then .ok (.p (.tup xs)) m1 else .bad) :=
  PE.weak (pe_tup h) fun σ H Q ⟨α, W, ρ, m, hr, hs, h⟩ => ⟨α, W, ρ, m, hr, hs, h.bind.mono fun xs m1 α1 W1 H1 e1 hr1 h1 vs rvs => by
    split at h1
    · rename_i hl
      exact ⟨by rw [rvs.len, ← line_eq]; exact hl, fun p hp => h1.newT hr1 rvs hp⟩
    · exact h1.elim⟩
theorem g_lst {es : List Expr} {fs : Env → Mem → Out (List P)} {pos : Pos} (h : PA X es (tP T fs)) : PE X (.List es pos) (tX T fun ρ m => (fs ρ m).bind fun xs m1 => if xs.length ≤ line then .ok (.p (.lst xs)) m1 else .bad) :=
  PE.weak (pe_lst h) fun σ H Q ⟨α, W, ρ, m, hr, hs, h⟩ => ⟨α, W, ρ, m, hr, hs, h.bind.mono fun xs m1 α1 W1 H1 e1 hr1 h1 vs rvs => by
    split at h1
    · rename_i hl
      exact ⟨by rw [rvs.len, ← line_eq]; exact hl, fun p hp => h1.F.new hr1 rvs hp⟩
    · exact (h1.elim id id).elim⟩
/-- a new object at a new place -/
theorem Hg.newO {α : Al} {W : Addr → Prop} {H : Hp} {m : Mem} {x : P} {Q : VK} {p : Addr} {o : HO} (h : Hg T α W H (.ok (.ref m.length 0) (m ++ [.val x])) (fin T Q)) (hr : HR T α W H m) (hp : H p = none) (ha : At T (wUp W p) (upd H p o) x p) : Q (.ref p) (upd H p o) :=
  h (aUp α m.length 0 p) (wUp W p) (upd H p o) ((Ext.hid hp).up (hr.out _ _ (Nat.le_refl _))) ((hr.hid hp).put (.inr rfl) ha (hr.noAl hp) (hr.noGh hp)) (.ref p) ⟨p, aUp_same, rfl⟩
theorem g_ndictK {pos : Pos} : PE X (.Dict [] [] pos) (tD T fun _ m => .ok (.ref m.length 0) (m ++ [.val (.dic false [])])) :=
  PE.weak pe_dnewK fun σ H Q ⟨α, W, ρ, m, hr, hs, h⟩ p hp => h.newO hr hp ⟨[], upd_same, List.nodup_nil, by simp only [RpD]⟩
theorem g_ndictT {pos : Pos} : PE X (.Dict [] [] pos) (tD T fun _ m => .ok (.ref m.length 0) (m ++ [.val (.dic true [])])) :=
  PE.weak pe_dnewT fun σ H Q ⟨α, W, ρ, m, hr, hs, h⟩ p hp => h.newO hr hp ⟨[], upd_same, List.nodup_nil, by simp only [RpT]⟩
/-! ### slices -/
/-- a bound -/
def tB1 (T : Tb) (f : Env → Mem → Out (Option Int)) : TO := fun σ H Q => ∃ α W ρ m, HR T α W H m ∧ RS T α W H ρ σ ∧ Hg T α W H (f ρ m) fun o _ _ _ H' => Q o H'
theorem PO.weak {e : Option Expr} {t t' : TO} (h : PO X e t) (w : ∀ σ H Q, t' σ H Q → t σ H Q) : PO X e t' := ⟨fun pins s σ H Q I hq => h.run pins s σ H Q I (w σ H Q hq)⟩
theorem g_bnd0 {f : Ev} : PO X none (tB1 T fun ρ m => bnd .nob (.ok (.p .non) m)) := PO.weak po_none fun σ H Q ⟨α, W, ρ, m, hr, hs, h⟩ => h.here hr
theorem g_bnd {e : Expr} {c : CE} {f : Ev} (hc : c ≠ .nob) (he : PE X e (tD T f)) : PO X (some e) (tB1 T fun ρ m => bnd c (f ρ m)) := PO.weak (po_some he) fun σ H Q ⟨α, W, ρ, m, hr, hs, h⟩ => by
  unfold bnd at h
  refine ⟨α, W, ρ, m, hr, hs, h.bind.mono fun d m1 α1 W1 H1 e1 hr1 h1 v rv => ?_⟩
  split at h1
  · exact absurd rfl hc
  · rename_i i _
    exact ⟨i, by simpa only [RD, Rp] using rv, h1.here hr1⟩
  · exact h1.elim
theorem g_slice {e : Expr} {lo hi : Option Expr} {fe : Ev} {fl fh : Env → Mem → Out (Option Int)} {pos p2 : Pos} (hX : CxOk T X) (he : PE X e (tD T fe)) (hl : PO X lo (tB1 T fl)) (hh : PO X hi (tB1 T fh)) :
    PE X (.Subscript e (.Slice lo hi none p2) pos) (tX T fun ρ m => (fe ρ m).bind fun x m1 => (fl ρ m1).bind fun y m2 => (fh ρ m2).bind fun z m3 => (Out.of (sliceD x y z m3) m3).bind fun r m4 => .ok (.p r) m4) :=
  PE.weak (pe_slice (sl_ok hX) he hl hh) fun σ H Q ⟨α, W, ρ, m, hr, hs, h⟩ => ⟨α, W, ρ, m, hr, hs, h.bind.mono fun x m1 α1 W1 H1 e1 hr1 h1 v rv =>
    ⟨α1, W1, ρ, m1, hr1, hs.ext e1, h1.bind.mono fun y m2 α2 W2 H2 e2 hr2 h2 => ⟨α2, W2, ρ, m2, hr2, (hs.ext e1).ext e2, h2.bind.mono fun z m3 α3 W3 H3 e3 hr3 h3 =>
      ⟨α3, W3, m3, x, hr3, (rv.ext e2).ext e3, h3⟩⟩⟩⟩
/-! ### calls -/
/-- a def's promise: what the small language's call tells -/
def spF (T : Tb) (cf : List D → Mem → Out D) : Sp := fun vs H Q _ => ∃ gh α W m ds, HR (T.g gh) α W H m ∧ RDL (T.g gh) α W H ds vs ∧ Hg (T.g gh) α W H (cf ds m) (fin (T.g gh) Q)
/-- a def stands, so many levels deep -/
def FnAt (T : Tb) (X : Cx) (k : Nat) (a : Addr) (cf : List D → Mem → Out D) : Prop := ∃ fd ps, FnOk X.prog X.w X.K X.mg X.base CX0 k a fd ps (spF T cf) ∧ PySem.W.keepIn X.K (.ref a) = true ∧ Binds X.K fd ps []
theorem app_nil {vs : List V} : vs ++ ([] : List V) = vs := List.append_nil vs
theorem g_call {k : Nat} {cf : List D → Mem → Out D} {a : Addr} {x : Str} {p pos : Pos} {e : Expr} {es : List Expr} {fs : Env → Mem → Out (List D)} (F : FnAt T X k a cf) (hr : Room k X.A) (hg : Gl X x) (hm : X.mg x = some (.ref a)) (ha : PA X (e :: es) (tL T fs))
    (hdb : (x == ("__debug__" : Str)) = false) (he : starEach (e :: es) X.env = (false, eval e X.env) :: starEach es X.env) (hpl : (backTo pos (starEach es X.env)).any (·.1) = false) :
    PE X (.Call (.Name x p) (e :: es) [] pos) (tD T fun ρ m => (fs ρ m).bind fun ds m1 => cf ds m1) := by
  obtain ⟨fd, ps, F, hk, hb⟩ := F
  refine PE.weak (pe_call F hr hg hm hk hb .nil pass0 ha hdb he hpl) fun σ H Q ⟨α, W, ρ, m, hr, hs, h⟩ => ⟨α, W, ρ, m, hr, hs, h.bind.mono fun ds m1 α1 W1 H1 e1 hr1 h1 vs rvs => ?_⟩
  show spF T cf (vs ++ []) H1 Q E0
  rw [app_nil]
  exact ⟨T.gh, α1, W1, m1, ds, hr1, rvs, h1⟩
theorem g_call0 {k : Nat} {cf : List D → Mem → Out D} {a : Addr} {x : Str} {p pos : Pos} (F : FnAt T X k a cf) (hr : Room k X.A) (hg : Gl X x) (hm : X.mg x = some (.ref a)) (hdb : (x == ("__debug__" : Str)) = false) :
    PE X (.Call (.Name x p) [] [] pos) (tD T fun _ m => cf [] m) := by
  obtain ⟨fd, ps, F, hk, hb⟩ := F
  exact PE.weak (pe_call0 F hr hg hm hk hb .nil pass0 hdb) fun σ H Q ⟨α, W, ρ, m, hr, hs, h⟩ => ⟨T.gh, α, W, m, [], hr, rfl, h⟩
/-- a name that holds one of the defs -/
theorem g_callv {k i : Nat} {cf : Nat → List D → Mem → Out D} {x : Str} {p pos : Pos} {e : Expr} {es : List Expr} {fs : Env → Mem → Out (List D)} {n : Nat} (F : ∀ f, f < n → FnAt T X k (T.fa f) (cf f)) (inj : ∀ f f', f < n → f' < n → T.fa f = T.fa f' → f = f')
    (hr : Room k X.A) (hN : X.N[i]? = some x) (hv : Vis X.env.scope x) (ha : PA X (e :: es) (tL T fs)) (hdb : (x == ("__debug__" : Str)) = false) (hcd : (x == ("__classdict__" : Str)) = false)
    (he : starEach (e :: es) X.env = (false, eval e X.env) :: starEach es X.env) (hpl : (backTo pos (starEach es X.env)).any (·.1) = false) :
    PE X (.Call (.Name x p) (e :: es) [] pos) (tD T fun ρ m => match (ρ[i]?).bind id with
      | some (.fn f) => if f < n then (fs ρ m).bind fun ds m1 => cf f ds m1 else .bad
      | _ => .bad) := by
  refine ⟨fun pins s σ H Q I ⟨α, W, ρ, m, hr', hs, h⟩ => ?_⟩
  dsimp only at h
  cases q : (ρ[i]?).bind id with
  | none => rw [q] at h; exact h.elim
  | some d =>
    rw [q] at h
    cases d with
    | fn f =>
      dsimp only at h
      by_cases hf : f < n
      · rw [if_pos hf] at h
        obtain ⟨fd, ps, F, hk, hb⟩ := F f hf
        obtain ⟨o, e1, e2⟩ := Option.bind_eq_some_iff.mp q
        have e3 : o = some (.fn f) := e2
        subst e3
        obtain ⟨v, h1, h2⟩ := hs.2 i _ e1
        have h2 : v = .ref (T.fa f) := h2
        subst h2
        refine (pe_callL (i := i) F hr hN hv hk hb .nil pass0 ha hdb hcd he hpl).run pins s σ H Q I ⟨h1, α, W, ρ, m, hr', hs, h.bind.mono fun ds m1 α1 W1 H1 e1 hr1 h1 vs rvs => ?_⟩
        show spF T (cf f) (vs ++ []) H1 Q E0
        rw [app_nil]
        exact ⟨T.gh, α1, W1, m1, ds, hr1, rvs, h1⟩
      · rw [if_neg hf] at h; exact h.elim
    | _ => exact h.elim
/-! ### instances -/
/-- a class as the top made it -/
structure ClAt (T : Tb) (X : Cx) (c : Nat) : Prop where
  cl : Cls X.K (T.ca c)
  no : ∀ k f, T.fn c k = some f → NoAttr X.K (T.ca c) f
theorem flds_get {c : Nat} : ∀ {k j : Nat} {xs : List V} {fs : List (Str × V)} {f : Str} {v : V}, Flds T c k xs fs → (∀ i i' g, k ≤ i → k ≤ i' → T.fn c i = some g → T.fn c i' = some g → i = i') → T.fn c (k + j) = some f → xs[j]? = some v → fs.lookup f = some v
  | _, _, [], _, _, _, _, _, _, h => by simp at h
  | k, 0, x :: xs, fs, f, v, h, _, hf, hv => by
    obtain ⟨g, r, e1, rfl, _⟩ := h
    rw [Nat.add_zero] at hf
    rw [hf] at e1
    cases e1
    simp at hv
    subst hv
    simp [List.lookup]
  | k, j + 1, x :: xs, fs, f, v, h, hi, hf, hv => by
    obtain ⟨g, r, e1, rfl, h2⟩ := h
    have ne : (f == g) = false := by
      rw [beq_eq_false_iff_ne]
      rintro rfl
      have := hi _ _ _ (Nat.le_add_right k (j + 1)) (Nat.le_refl k) hf e1
      omega
    rw [List.lookup_cons, ne]
    refine flds_get (k := k + 1) (j := j) h2 (fun i i' g h1 h2 => hi i i' g (by omega) (by omega)) (by rw [← hf]; congr 1; omega) (by simpa using hv)
theorem flds_no {c : Nat} {f : Str} : ∀ {k : Nat} {xs : List V} {fs : List (Str × V)}, Flds T c k xs fs → (∀ i, T.fn c i ≠ some f) → fs.lookup f = none
  | _, [], fs, h, _ => by have h : fs = [] := h; subst h; rfl
  | k, x :: xs, fs, h, hn => by
    obtain ⟨g, r, e1, rfl, h2⟩ := h
    have ne : (f == g) = false := by
      rw [beq_eq_false_iff_ne]
      rintro rfl
      exact hn _ e1
    rw [List.lookup_cons, ne]
    exact flds_no h2 hn
theorem fldsV_get {W : Addr → Prop} {H : Hp} {g : Nat → Option Addr} : ∀ {k j : Nat} {fs : List (Bool × P)} {xs : List V} {f : Bool × P}, FldsV T W H g k fs xs → fs[j]? = some f → ∃ v, xs[j]? = some v ∧ FldV T W H (g (k + j + 1)) f v
  | _, _, [], _, _, _, h => by simp at h
  | k, 0, f :: fs, xs, f', h, e => by
    obtain ⟨v, r, rfl, h1, _⟩ := h
    simp at e
    subst e
    exact ⟨v, rfl, h1⟩
  | k, j + 1, f :: fs, xs, f', h, e => by
    obtain ⟨v, r, rfl, _, h2⟩ := h
    obtain ⟨u, h3, h4⟩ := fldsV_get (k := k + 1) (j := j) h2 (by simpa using e)
    refine ⟨u, by simpa using h3, ?_⟩
    have : k + 1 + j + 1 = k + (j + 1) + 1 := by omega
    rw [← this]
    exact h4
theorem fldsV_len {W : Addr → Prop} {H : Hp} {g : Nat → Option Addr} : ∀ {k : Nat} {fs : List (Bool × P)} {xs : List V}, FldsV T W H g k fs xs → xs.length = fs.length
  | _, [], _, h => by have h : _ = [] := h; subst h; rfl
  | k, f :: fs, xs, h => by
    obtain ⟨v, r, rfl, _, h2⟩ := h
    show r.length + 1 = fs.length + 1
    rw [fldsV_len h2]
/-- where an instance lies, by its value -/
theorem ins_at {α : Al} {W : Addr → Prop} {H : Hp} {m : Mem} {c k : Nat} {d : D} {v : V} {Q : VK} (hr : HR T α W H m) (r : RD T α W H d v) (h : Hg T α W H (fldD c k d m) (fin T Q)) {f : Str} (hf : T.fn c k = some f) (hi : ∀ i i' g, T.fn c i = some g → T.fn c i' = some g → i = i') :
    ∃ a dx fs u, v = .ref a ∧ H a = some (.ins (T.ca c) dx fs) ∧ fs.lookup f = some u ∧ Q u H := by
  unfold fldD at h
  split at h
  · rename_i n
    split at h
    · rename_i c' fs e
      split at h
      · rename_i ec
        subst ec
        obtain ⟨a, h1, h2, dx, xs, r', h3, h4, h5⟩ := hr.ins n _ fs e
        obtain ⟨a', h6, rfl⟩ := r
        rw [h1] at h6; cases h6
        split at h
        · rename_i x ef
          obtain ⟨u, h7, b, h8, rfl⟩ := fldsV_get h5 ef
          rw [Nat.zero_add] at h8
          exact ⟨a, dx, r', _, rfl, h3, flds_get h4 (fun i i' g _ _ => hi i i' g) (by rw [Nat.zero_add]; exact hf) h7, h.here hr _ ⟨b, h8, rfl⟩⟩
        · rename_i x ef
          obtain ⟨u, h7, h8⟩ := fldsV_get h5 ef
          exact ⟨a, dx, r', _, rfl, h3, flds_get h4 (fun i i' g _ _ => hi i i' g) (by rw [Nat.zero_add]; exact hf) h7, h.here hr _ h8⟩
        · exact h.elim
      · exact h.elim
    · exact h.elim
  · rename_i c' fs
    split at h
    · rename_i ec
      subst ec
      split at h
      · rename_i x ef
        have r : Rp T W H (.ins _ fs) v := r
        simp only [Rp] at r
        obtain ⟨a, dx, xs, r', rfl, h1, h2, h3, h4⟩ := r
        obtain ⟨u, h7, h8⟩ := RpL.get h4 ef
        exact ⟨a, dx, r', u, rfl, h2, flds_get h3 (fun i i' g _ _ => hi i i' g) (by rw [Nat.zero_add]; exact hf) h7, h.here hr _ h8⟩
      · exact h.elim
    · exact h.elim
  · exact h.elim
theorem g_fld {e : Expr} {fe : Ev} {c k : Nat} {f : Str} {pos : Pos} (C : ClAt T X c) (hf : T.fn c k = some f) (hi : ∀ i i' g, T.fn c i = some g → T.fn c i' = some g → i = i') (he : PE X e (tD T fe)) (hb : attributeBase e f X.env (eval e X.env) = eval e X.env) :
    PE X (.Attribute e f pos) (tD T fun ρ m => (fe ρ m).bind fun d m1 => fldD c k d m1) :=
  PE.weak (pe_fld he hb) fun σ H Q ⟨α, W, ρ, m, hr, hs, h⟩ => ⟨α, W, ρ, m, hr, hs, h.bind.mono fun d m1 α1 W1 H1 e1 hr1 h1 v rv => by
    obtain ⟨a, dx, fs, u, rfl, h2, h3, h4⟩ := ins_at hr1 rv h1 hf hi
    exact ⟨a, _, dx, fs, u, rfl, h2, C.cl, C.no k f hf, h3, h4⟩⟩
theorem isOf_at {α : Al} {W : Addr → Prop} {H : Hp} {m : Mem} {c : Nat} {d : D} {v : V} (hr : HR T α W H m) (r : RD T α W H d v) (h : isOf c d m = true) : ∃ a dx xs fs, v = .ref a ∧ H a = some (.ins (T.ca c) dx fs) ∧ Flds T c 0 xs fs := by
  unfold isOf at h
  split at h
  · rename_i n
    split at h
    · rename_i c' fs e
      have ec : c' = c := by simpa using h
      subst ec
      obtain ⟨a, h1, h2, dx, xs, r', h3, h4, h5⟩ := hr.ins n _ fs e
      obtain ⟨a', h6, rfl⟩ := r
      rw [h1] at h6; cases h6
      exact ⟨a, dx, xs, r', rfl, h3, h4⟩
    · cases h
  · rename_i c' fs
    have ec : c' = c := by simpa using h
    subst ec
    have r : Rp T W H (.ins _ fs) v := r
    simp only [Rp] at r
    obtain ⟨a, dx, xs, r', rfl, h1, h2, h3, h4⟩ := r
    exact ⟨a, dx, xs, r', rfl, h2, h3⟩
  · cases h
/-- o.m(e, ..) -/
theorem g_meth {k c : Nat} {cf : List D → Mem → Out D} {f : Addr} {mn : Str} {pl : Sem Bool} {o e : Expr} {es : List Expr} {fo : Ev} {fs : Env → Mem → Out (List D)} {apos pos : Pos} (C : ClAt T X c) (M : Meth X.K (T.ca c) mn f) (hno : ∀ i, T.fn c i ≠ some mn) (F : FnAt T X k f cf) (hr : Room k X.A)
    (ho : PE X o (tD T fo)) (ha : PA X (e :: es) (tL T fs)) (hst : starEach (e :: es) X.env = (false, eval e X.env) :: starEach es X.env) (hpl : (backTo pos (starEach es X.env)).any (·.1) = false)
    (ht : eval (.Call (.Attribute o mn apos) (e :: es) [] pos) X.env = (do
      let ov ← eval o X.env
      standAt apos.atName
      let (f, first) ← holding [ov] (getMethod ov mn pl)
      callWith pos f first (backTo pos (starEach (e :: es) X.env)) (backToKw pos (keywordEach [] X.env)))) :
    PE X (.Call (.Attribute o mn apos) (e :: es) [] pos) (tD T fun ρ m => (fo ρ m).bind fun d m1 => if isOf c d m1 then (fs ρ m1).bind fun ds m2 => cf (d :: ds) m2 else .bad) := by
  obtain ⟨fd, ps, F, hk, hb⟩ := F
  refine PE.weak (pe_meth ho C.cl M F hr hb .nil pass0 ha hst hpl ht) fun σ H Q ⟨α, W, ρ, m, hr, hs, h⟩ => ⟨α, W, ρ, m, hr, hs, h.bind.mono fun d m1 α1 W1 H1 e1 hr1 h1 v rv => ?_⟩
  split at h1
  · rename_i hi
    obtain ⟨a, dx, xs, fs', rfl, h2, h3⟩ := isOf_at hr1 rv hi
    refine ⟨a, dx, fs', rfl, h2, flds_no h3 hno, α1, W1, ρ, m1, hr1, hs.ext e1, h1.bind.mono fun ds m2 α2 W2 H2 e2 hr2 h2 vs rvs => ?_⟩
    show spF T cf (.ref a :: (vs ++ [])) H2 Q E0
    rw [app_nil]
    exact ⟨T.gh, α2, W2, m2, d :: ds, hr2, ⟨_, _, rfl, rv.ext e2, rvs⟩, h2⟩
  · exact h1.elim
theorem g_meth0 {k c : Nat} {cf : List D → Mem → Out D} {f : Addr} {mn : Str} {pl : Sem Bool} {o : Expr} {fo : Ev} {apos pos : Pos} (C : ClAt T X c) (M : Meth X.K (T.ca c) mn f) (hno : ∀ i, T.fn c i ≠ some mn) (F : FnAt T X k f cf) (hr : Room k X.A)
    (ho : PE X o (tD T fo))
    (ht : eval (.Call (.Attribute o mn apos) [] [] pos) X.env = (do
      let ov ← eval o X.env
      standAt apos.atName
      let (f, first) ← holding [ov] (getMethod ov mn pl)
      callWith pos f first (backTo pos (starEach [] X.env)) (backToKw pos (keywordEach [] X.env)))) :
    PE X (.Call (.Attribute o mn apos) [] [] pos) (tD T fun ρ m => (fo ρ m).bind fun d m1 => if isOf c d m1 then cf [d] m1 else .bad) := by
  obtain ⟨fd, ps, F, hk, hb⟩ := F
  refine PE.weak (pe_meth0 ho C.cl M F hr hb .nil pass0 ht) fun σ H Q ⟨α, W, ρ, m, hr, hs, h⟩ => ⟨α, W, ρ, m, hr, hs, h.bind.mono fun d m1 α1 W1 H1 e1 hr1 h1 v rv => ?_⟩
  split at h1
  · rename_i hi
    obtain ⟨a, dx, xs, fs', rfl, h2, h3⟩ := isOf_at hr1 rv hi
    exact ⟨a, dx, fs', rfl, h2, flds_no h3 hno, T.gh, α1, W1, m1, [d], hr1, ⟨_, _, rfl, rv, rfl⟩, h1⟩
  · exact h1.elim
end Lot
/-! LotI: walks, targets, comprehensions. -/
namespace Lot
open PySem PySem.Spec PyProof.Rows L2
variable {T : Tb} {X : Cx}
mutual
theorem same_eq : ∀ {x y : P}, sameP x y = true → x = y
  | .non, .non, _ => rfl
  | .bl a, .bl b, h => by simp only [sameP, beq_iff_eq] at h; rw [h]
  | .int a, .int b, h => by simp only [sameP, beq_iff_eq] at h; rw [h]
  | .str a, .str b, h => by simp only [sameP, beq_iff_eq] at h; rw [h]
  | .tup a, .tup b, h => by simp only [sameP] at h; rw [sames_eq h]
  | .lst a, .lst b, h => by simp only [sameP] at h; rw [sames_eq h]
  | .dic t a, .dic u b, h => by simp only [sameP, Bool.and_eq_true, beq_iff_eq] at h; rw [h.1, sames_eq h.2]
  | .set a, .set b, h => by simp only [sameP] at h; rw [sames_eq h]
  | .ins c a, .ins d b, h => by simp only [sameP, Bool.and_eq_true, beq_iff_eq] at h; rw [h.1, sames_eq h.2]
  | .exc c a, .exc d b, h => by simp only [sameP, Bool.and_eq_true, beq_iff_eq] at h; rw [h.1, sames_eq h.2]
  | .non, .bl _, h | .non, .int _, h | .non, .str _, h | .non, .tup _, h | .non, .lst _, h | .non, .dic _ _, h | .non, .set _, h | .non, .ins _ _, h => by simp [sameP] at h
  | .bl _, .non, h | .bl _, .int _, h | .bl _, .str _, h | .bl _, .tup _, h | .bl _, .lst _, h | .bl _, .dic _ _, h | .bl _, .set _, h | .bl _, .ins _ _, h => by simp [sameP] at h
  | .int _, .non, h | .int _, .bl _, h | .int _, .str _, h | .int _, .tup _, h | .int _, .lst _, h | .int _, .dic _ _, h | .int _, .set _, h | .int _, .ins _ _, h => by simp [sameP] at h
  | .str _, .non, h | .str _, .bl _, h | .str _, .int _, h | .str _, .tup _, h | .str _, .lst _, h | .str _, .dic _ _, h | .str _, .set _, h | .str _, .ins _ _, h => by simp [sameP] at h
  | .tup _, .non, h | .tup _, .bl _, h | .tup _, .int _, h | .tup _, .str _, h | .tup _, .lst _, h | .tup _, .dic _ _, h | .tup _, .set _, h | .tup _, .ins _ _, h => by simp [sameP] at h
  | .lst _, .non, h | .lst _, .bl _, h | .lst _, .int _, h | .lst _, .str _, h | .lst _, .tup _, h | .lst _, .dic _ _, h | .lst _, .set _, h | .lst _, .ins _ _, h => by simp [sameP] at h
  | .dic _ _, .non, h | .dic _ _, .bl _, h | .dic _ _, .int _, h | .dic _ _, .str _, h | .dic _ _, .tup _, h | .dic _ _, .lst _, h | .dic _ _, .set _, h | .dic _ _, .ins _ _, h => by simp [sameP] at h
  | .set _, .non, h | .set _, .bl _, h | .set _, .int _, h | .set _, .str _, h | .set _, .tup _, h | .set _, .lst _, h | .set _, .dic _ _, h | .set _, .ins _ _, h => by simp [sameP] at h
  | .ins _ _, .non, h | .ins _ _, .bl _, h | .ins _ _, .int _, h | .ins _ _, .str _, h | .ins _ _, .tup _, h | .ins _ _, .lst _, h | .ins _ _, .dic _ _, h | .ins _ _, .set _, h => by simp [sameP] at h
  | .non, .exc _ _, h | .bl _, .exc _ _, h | .int _, .exc _ _, h | .str _, .exc _ _, h | .tup _, .exc _ _, h | .lst _, .exc _ _, h | .dic _ _, .exc _ _, h | .set _, .exc _ _, h | .ins _ _, .exc _ _, h => by simp [sameP] at h
  | .exc _ _, .non, h | .exc _ _, .bl _, h | .exc _ _, .int _, h | .exc _ _, .str _, h | .exc _ _, .tup _, h | .exc _ _, .lst _, h | .exc _ _, .dic _ _, h | .exc _ _, .set _, h | .exc _ _, .ins _ _, h => by simp [sameP] at h
theorem sames_eq : ∀ {x y : List P}, samePs x y = true → x = y
  | [], [], _ => rfl
  | [], _ :: _, h => by simp [samePs] at h
  | _ :: _, [], h => by simp [samePs] at h
  | x :: xs, y :: ys, h => by simp only [samePs, Bool.and_eq_true] at h; rw [same_eq h.1, sames_eq h.2]
end
/-! ### walks -/
/-- the heap has grown by a new object, or not -/
def Grow (H H' : Hp) : Prop := H' = H ∨ ∃ p o, H p = none ∧ H' = upd H p o
theorem Grow.ext {α : Al} {W : Addr → Prop} {H H' : Hp} (h : Grow H H') : Ext α W H α W H' := by
  rcases h with rfl | ⟨p, o, hp, rfl⟩
  · exact .refl
  · exact .new hp
theorem Grow.hr {α : Al} {W : Addr → Prop} {H H' : Hp} {m : Mem} (h : Grow H H') (hr : HR T α W H m) : HR T α W H' m := by
  rcases h with rfl | ⟨p, o, hp, rfl⟩
  · exact hr
  · exact hr.new hp
theorem Grow.keep {H H' : Hp} {a : Addr} {o : HO} (h : Grow H H') (e : H a = some o) : H' a = some o := by
  rcases h with rfl | ⟨p, u, hp, rfl⟩
  · exact e
  · rw [upd_ne (ne_of_none e hp)]; exact e
/-- the items that an iterator gives while the guard holds -/
def Wk (T : Tb) (α : Al) (W : Addr → Prop) (H : Hp) (J : It) (xs : List P) (g : Mem → Bool) : Prop :=
  ∀ α' W' H' m, Ext α W H α' W' H' → HR T α' W' H' m → g m = true →
    J.stop xs.length H' ∧ ∀ i y, xs[i]? = some y → J.go i H' ∧ ∀ x H'', J.yld i H' x H'' → Grow H' H'' ∧ Rp T W' H'' y x
def tI (T : Tb) (f : Env → Mem → Out (List P × (Mem → Bool))) : TI := fun σ H R => ∃ α W ρ m, HR T α W H m ∧ RS T α W H ρ σ ∧ Hg T α W H (f ρ m) fun w _ α' W' H' => ∀ J, Wk T α' W' H' J w.1 w.2 → R J H'
theorem PI.weak {tg e : Expr} {t t' : TI} (h : PI X tg e t) (w : ∀ σ H Q, t' σ H Q → t σ H Q) : PI X tg e t' := ⟨fun pins s σ H Q I hq => h.run pins s σ H Q I (w σ H Q hq)⟩
/-- what a value is read as stays so while the guard holds -/
theorem stays_rg {α α' : Al} {W W' : Addr → Prop} {H H' : Hp} {m m' : Mem} {d : D} {v : V} {x : P} (hr : HR T α W H m) (r : RD T α W H d v) (e : rg d m = some x) (ex : Ext α W H α' W' H') (hr' : HR T α' W' H' m') (g : stays (d, x) m' = true) : Rg T W' H' x v := by
  cases d with
  | p y =>
    cases e
    exact .inl (.inl (Rp.ext ex _ _ r))
  | gt l =>
    cases e
    obtain ⟨a, xs, rfl, h2, h3⟩ := r
    exact .inr ⟨l, a, xs, rfl, rfl, h2, RpL.ext ex _ _ h3⟩
  | ref n k =>
    have g' : (match rd (.ref n k) m' with | some y => sameP y x | none => false) = true := g
    cases q : rd (.ref n k) m' with
    | none => rw [q] at g'; cases g'
    | some y =>
      rw [q] at g'
      have := same_eq g'
      subst this
      exact .inl (rd_rc hr' (r.ext ex) q)
  | fn i => cases e
  | scr l => cases e
theorem wk_of {α : Al} {W : Addr → Prop} {H : Hp} {J : It} {n : Nat} {G : Hp → Prop} {Y : Nat → Hp → V → Hp → Prop} {xs : List P} {g : Mem → Bool} (hn : n = xs.length) (w : Walk J n G Y)
    (h : ∀ α' W' H' m, Ext α W H α' W' H' → HR T α' W' H' m → g m = true → G H' ∧ ∀ i y x H'', xs[i]? = some y → Y i H' x H'' → Grow H' H'' ∧ Rp T W' H'' y x) : Wk T α W H J xs g :=
  fun α' W' H' m e hr hg => by
    obtain ⟨h1, h2⟩ := h α' W' H' m e hr hg
    subst hn
    refine ⟨w.stops H' h1, fun i y hy => ?_⟩
    have hi : i < xs.length := by
      rcases Nat.lt_or_ge i xs.length with q | q
      · exact q
      · rw [List.getElem?_eq_none q] at hy; cases hy
    exact ⟨w.goes i H' hi h1, fun x H'' y' => h2 i y x H'' hy (w.yields i H' x H'' hi h1 y')⟩
theorem RpL.get' {W : Addr → Prop} {H : Hp} : ∀ {l : List P} {xs : List V} {i : Nat} {y : P}, RpL T W H l xs → l[i]? = some y → ∃ v, xs[i]? = some v ∧ Rp T W H y v
  | [], _, _, _, _, h => by simp at h
  | d :: ds, xs, 0, y, h, e => by
    simp only [RpL] at h
    obtain ⟨v, r, rfl, h1, _⟩ := h
    simp at e
    subst e
    exact ⟨v, rfl, h1⟩
  | d :: ds, xs, i + 1, y, h, e => by
    simp only [RpL] at h
    obtain ⟨v, r, rfl, _, h2⟩ := h
    simpa using RpL.get' h2 (by simpa using e)
/-- a list, as it stands while the guard holds -/
theorem wk_list {α : Al} {W : Addr → Prop} {H : Hp} {a : Addr} {l : List P} {g : Mem → Bool} (h : ∀ α' W' H' m, Ext α W H α' W' H' → HR T α' W' H' m → g m = true → ∃ xs, SqL T.K H' a xs ∧ RpL T W' H' l xs) : Wk T α W H (Itl T.K a) l g :=
  fun α' W' H' m e hr hg => by
    obtain ⟨xs, h1, h2⟩ := h α' W' H' m e hr hg
    refine ⟨⟨xs, h1, Nat.le_of_eq h2.len⟩, fun i y hy => ?_⟩
    obtain ⟨v, h3, h4⟩ := h2.get' hy
    refine ⟨⟨xs, v, h1, h3⟩, fun x H'' yl => ?_⟩
    obtain ⟨rfl, yx⟩ := yl
    have := yx xs h1
    rw [h3] at this
    cases this
    exact ⟨.inl rfl, h4⟩
theorem wk_tup {α : Al} {W : Addr → Prop} {H : Hp} {a : Addr} {l : List P} {g : Mem → Bool} (h : ∀ α' W' H' m, Ext α W H α' W' H' → HR T α' W' H' m → g m = true → ∃ xs, SqT T.K H' a xs ∧ RpL T W' H' l xs) : Wk T α W H (Itt T.K a) l g :=
  fun α' W' H' m e hr hg => by
    obtain ⟨xs, h1, h2⟩ := h α' W' H' m e hr hg
    refine ⟨⟨xs, h1, Nat.le_of_eq h2.len⟩, fun i y hy => ?_⟩
    obtain ⟨v, h3, h4⟩ := h2.get' hy
    refine ⟨⟨xs, v, h1, h3⟩, fun x H'' yl => ?_⟩
    obtain ⟨rfl, yx⟩ := yl
    have := yx xs h1
    rw [h3] at this
    cases this
    exact ⟨.inl rfl, h4⟩
/-- a list, a tuple, a text -/
def iAny (K : PySem.W.Frag) (te : TE) : TI := fun σ H R => te σ H fun x H1 => (∃ a, x = .ref a ∧ (∃ xs, SqL K H1 a xs) ∧ R (Itl K a) H1) ∨ (∃ a, x = .ref a ∧ (∃ xs, SqT K H1 a xs) ∧ R (Itt K a) H1) ∨ (∃ z, x = .str z ∧ R (Its z) H1)
theorem pi_any {tg e : Expr} {te : TE} (he : PE X e te) : PI X tg e (iAny X.K te) := by
  refine ⟨fun pins s σ H R I h => ?_⟩
  refine thn (he.run pins s σ H _ I h) fun v s1 ⟨x, H1, I1, r1, q1⟩ => ?_
  rcases q1 with ⟨a, e, ⟨xs, hq⟩, q⟩ | ⟨a, e, ⟨xs, hq⟩, q⟩ | ⟨z, e, q⟩
  · subst e
    cases r1
    obtain ⟨its, rv, p, hz⟩ := I1.list hq
    refine wpAny_pyIter_list p.isList ?_
    refine ⟨s1.heap.objs.size, [s1.heap.objs.size], _, _, H1, rfl, I1.kept (t' := s1.toks) fun b o e => Heap.get?_push_of_some _ e, turn_list a _, ⟨_, Heap.get?_push_size _ rfl, rfl, rfl⟩, fun b hb => ?_, q⟩
    have e : b = s1.heap.objs.size := by simpa using hb
    subst e
    exact I1.fpOk (Nat.le_refl _) (I1.hok.fresh (Nat.le_refl _))
  · subst e
    cases r1
    obtain ⟨its, rv, p, hz⟩ := I1.tuple hq
    refine wpAny_pyIter_tuple (show s1.heap.IsTuple a its.toArray from p) ?_
    refine ⟨s1.heap.objs.size, [s1.heap.objs.size], _, _, H1, rfl, I1.kept (t' := s1.toks) fun b o e => Heap.get?_push_of_some _ e, turn_tuple a _, ⟨_, Heap.get?_push_size _ rfl, rfl, rfl⟩, fun b hb => ?_, q⟩
    have e : b = s1.heap.objs.size := by simpa using hb
    subst e
    exact I1.fpOk (Nat.le_refl _) (I1.hok.fresh (Nat.le_refl _))
  · subst e
    obtain ⟨t, rfl⟩ := r1
    cases ha : z.cps.all (· < 128)
    · exact wpAny_pyIter_wide ha (pi_one (tk := s1.toks) I1 _ (turn_str _ z t "str_iterator" (.inr rfl)) ⟨_, Heap.get?_push_size _ rfl, rfl, rfl⟩ q)
    · exact wpAny_pyIter_ascii ha (pi_one (tk := s1.toks) I1 _ (turn_str _ z t "str_ascii_iterator" (.inl rfl)) ⟨_, Heap.get?_push_size _ rfl, rfl, rfl⟩ q)
theorem g_seq {tg e : Expr} {fe : Ev} (hX : CxOk T X) (he : PE X e (tD T fe)) : PI X tg e (tI T fun ρ m => (fe ρ m).bind fun d m1 => seqO' d m1) := PI.weak (pi_any he) fun σ H R ⟨α, W, ρ, m, hr, hs, h⟩ => ⟨α, W, ρ, m, hr, hs, h.bind.mono fun d m1 α1 W1 H1 e1 hr1 h1 v rv => by
  unfold seqO' at h1
  split at h1
  · rename_i x ex
    cases ei : itemsP x with
    | none => rw [ei] at h1; exact h1.elim
    | some l =>
      rw [ei] at h1
      have h2 := h1.here hr1
      rw [hX.K]
      have key := fun α' W' H' m' (e : Ext α1 W1 H1 α' W' H') hr' g => stays_rg (x := x) hr1 rv ex (e) (m' := m') hr' g
      have now := rg_rg hr1 rv ex
      unfold itemsP at ei
      split at ei
      · rename_i q
        cases ei
        obtain ⟨a, xs, rfl, h3, h4⟩ := (now.c (by intro l; simp)).lst
        refine .inl ⟨a, rfl, ⟨xs, SqL.of h3⟩, h2 _ (wk_list fun α' W' H' m' e hr' g => ?_)⟩
        obtain ⟨b, ys, eb, h5, h6⟩ := ((key α' W' H' m' e hr' g).c (by intro l; simp)).lst
        cases eb
        exact ⟨ys, SqL.of h5, h6⟩
      · rename_i q
        cases ei
        obtain ⟨a, xs, rfl, h3, h4⟩ := now.tup
        refine .inr (.inl ⟨a, rfl, ⟨xs, h3⟩, h2 _ (wk_tup fun α' W' H' m' e hr' g => ?_)⟩)
        obtain ⟨b, ys, eb, h5, h6⟩ := (key α' W' H' m' e hr' g).tup
        cases eb
        exact ⟨ys, h5, h6⟩
      · rename_i s
        cases ei
        obtain rfl := (now.c (by intro l; simp)).str
        refine .inr (.inr ⟨s, rfl, h2 _ (wk_of (n := s.cps.size) (by simp [signs]) walk_str fun α' W' H' m' e hr' g => ⟨trivial, fun i y x' H'' hy yx => ?_⟩)⟩)
        obtain ⟨rfl, c, hc, rfl⟩ := yx
        refine ⟨.inl rfl, ?_⟩
        have : y = .str ⟨#[c]⟩ := by
          have h7 : (s.cps.toList.map fun c => P.str ⟨#[c]⟩)[i]? = some y := hy
          rw [List.getElem?_map, Array.getElem?_toList, hc] at h7
          exact (Option.some.inj h7).symm
        subst this
        simp only [Rp]
      · cases ei
  · exact h1.elim⟩
theorem rngL_get : ∀ {n : Nat} {a : Int} {i : Nat} {y : P}, (rngL a n)[i]? = some y → y = .int (a + i)
  | 0, _, _, _, h => by simp [rngL] at h
  | n + 1, a, 0, y, h => by simp [rngL] at h; rw [← h]; simp
  | n + 1, a, i + 1, y, h => by
    have h : (rngL (a + 1) n)[i]? = some y := by simpa [rngL] using h
    rw [rngL_get h]
    congr 1
    omega
theorem rngL_len : ∀ (n : Nat) (a : Int), (rngL a n).length = n
  | 0, _ => rfl
  | n + 1, a => by simp [rngL, rngL_len n]
theorem wk_rng {α : Al} {W : Addr → Prop} {H : Hp} {a : Int} {n : Nat} {g : Mem → Bool} : Wk T α W H (Itr a n) (rngL a n) g :=
  wk_of (rngL_len n a).symm walk_range fun α' W' H' m e hr hg => ⟨trivial, fun i y x H'' hy yx => by
    obtain ⟨rfl, rfl⟩ := yx
    rw [rngL_get hy]
    exact ⟨.inl rfl, by simp only [Rp]⟩⟩
theorem int_of {α : Al} {W : Addr → Prop} {H : Hp} {i : Int} {v : V} (r : RD T α W H (.p (.int i)) v) : v = .int i := by simpa only [RD, Rp] using r
def rng1K (ds : List D) (m : Mem) : Out (List P × (Mem → Bool)) := match ds with
  | [y] => rng1O y m
  | _ => .bad
def rng2K (ds : List D) (m : Mem) : Out (List P × (Mem → Bool)) := match ds with
  | [x, y] => rng2O x y m
  | _ => .bad
theorem g_rng1 {tg a : Expr} {fa : Ev} {p pos : Pos} (hg : Gl X "range") (hm : X.mg "range" = none) (ha : PE X a (tD T fa)) (hs : starEach [a] X.env = (false, eval a X.env) :: starEach [] X.env) :
    PI X tg (.Call (.Name "range" p) [a] [] pos) (tI T fun ρ m => (fa ρ m).bind fun y m2 => rng1O y m2) := PI.weak (pi_range1 hg hm (g_cons ha g_nil hs) hs) fun σ H R ⟨α, W, ρ, m, hr, hs, h⟩ => ⟨α, W, ρ, m, hr, hs, by
  have h2 : Hg T α W H (((fa ρ m).bind fun d m1 => (Out.ok [] m1).bind fun ds m2 => .ok (d :: ds) m2).bind rng1K) fun w _ α' W' H' => ∀ J, Wk T α' W' H' J w.1 w.2 → R J H' := by
    rw [Out.bind_assoc]; exact h
  refine h2.bind.mono fun ds m1 α1 W1 H1 e1 hr1 h1 vs rvs => ?_
  unfold rng1K at h1
  split at h1
  · unfold rng1O at h1
    split at h1
    · rename_i j
      obtain ⟨v, r, rfl, rv, rfl⟩ := rvs
      split at h1
      · rename_i hb
        exact ⟨j, by rw [int_of rv], hb.1, hb.2, h1.here hr1 _ wk_rng⟩
      · exact h1.elim
    · exact h1.elim
  · exact h1.elim⟩
theorem g_rng {tg a b : Expr} {fa fb : Ev} {p pos : Pos} (hg : Gl X "range") (hm : X.mg "range" = none) (ha : PE X a (tD T fa)) (hb : PE X b (tD T fb)) (hs : starEach [a, b] X.env = (false, eval a X.env) :: starEach [b] X.env) (hs2 : starEach [b] X.env = (false, eval b X.env) :: starEach [] X.env) :
    PI X tg (.Call (.Name "range" p) [a, b] [] pos) (tI T fun ρ m => (fa ρ m).bind fun x m1 => (fb ρ m1).bind fun y m2 => rng2O x y m2) := PI.weak (pi_range2 hg hm (g_cons ha (g_cons hb g_nil hs2) hs) (by rw [hs, hs2]; rfl) hs2) fun σ H R ⟨α, W, ρ, m, hr, hs, h⟩ => ⟨α, W, ρ, m, hr, hs, by
  have h2 : Hg T α W H (((fa ρ m).bind fun d m1 => ((fb ρ m1).bind fun d m1 => (Out.ok [] m1).bind fun ds m2 => .ok (d :: ds) m2).bind fun ds m2 => .ok (d :: ds) m2).bind rng2K) fun w _ α' W' H' => ∀ J, Wk T α' W' H' J w.1 w.2 → R J H' := by
    rw [Out.bind_assoc]
    simp only [Out.bind_assoc]
    exact h
  refine h2.bind.mono fun ds m1 α1 W1 H1 e1 hr1 h1 vs rvs => ?_
  unfold rng2K at h1
  split at h1
  · unfold rng2O at h1
    split at h1
    · rename_i i j
      obtain ⟨v, r, rfl, rv, u, r', rfl, ru, rfl⟩ := rvs
      split at h1
      · rename_i hb
        exact ⟨i, j, by rw [int_of rv, int_of ru], hb, h1.here hr1 _ wk_rng⟩
      · exact h1.elim
    · exact h1.elim
  · exact h1.elim⟩
/-! ### targets -/
/-- the slots but these are as they were -/
def Off (vs : List Nat) (σ σ' : L2.St) : Prop := σ'.length = σ.length ∧ ∀ i : Nat, i ∉ vs → σ'[i]? = σ[i]?
theorem wipe_off {σ σ' : L2.St} {vs : List Nat} (h : Off vs σ σ') : L2.wipe σ' vs = L2.wipe σ vs := by
  have out : ∀ (σ : L2.St) (vs : List Nat) (i : Nat), i ∈ vs → i < σ.length → (L2.wipe σ vs)[i]? = some none := by
    intro σ vs
    induction vs with
    | nil => intro i h _; simp at h
    | cons v vs ih =>
      intro i h hl
      unfold L2.wipe
      by_cases e : v = i
      · subst e
        rw [List.getElem?_set_self (by rw [wipe_length]; exact hl)]
      · rw [List.getElem?_set_ne e]
        refine ih i ?_ hl
        simp only [List.mem_cons] at h
        rcases h with h | h
        · exact absurd h.symm e
        · exact h
  refine List.ext_getElem? fun i => ?_
  by_cases hi : i ∈ vs
  · by_cases hl : i < σ.length
    · rw [out σ vs i hi hl, out σ' vs i hi (by rw [h.1]; exact hl)]
    · rw [List.getElem?_eq_none (by rw [wipe_length, h.1]; omega), List.getElem?_eq_none (by rw [wipe_length]; omega)]
  · rw [wipe_out hi, wipe_out hi]
    exact h.2 i hi
def tG (T : Tb) (vs : List Nat) (b : P → Env → Option Env) : TG := fun v σ H Q => ∃ α W ρ m y ρ', HR T α W H m ∧ RS T α W H ρ σ ∧ Rp T W H y v ∧ b y ρ = some ρ' ∧ ∀ σ', RS T α W H ρ' σ' → Off vs σ σ' → Q σ' H
theorem PG.weak {tg : Expr} {t t' : TG} (h : PG X tg t) (w : ∀ v σ H Q, t' v σ H Q → t v σ H Q) : PG X tg t' := ⟨fun pins s σ H v u Q I r hq => h.run pins s σ H v u Q I r (w v σ H Q hq)⟩
theorem RS.set {α : Al} {W : Addr → Prop} {H : Hp} {ρ : Env} {σ : L2.St} {d : D} {v : V} (hs : RS T α W H ρ σ) (i : Nat) (r : RD T α W H d v) : RS T α W H (ρ.set i (some d)) (σ.set i (some v)) := by
  refine ⟨by rw [List.length_set, List.length_set]; exact hs.1, fun j e h => ?_⟩
  by_cases hj : i = j
  · subst hj
    have hl : i < ρ.length := by
      rcases Nat.lt_or_ge i ρ.length with q | q
      · exact q
      · rw [List.getElem?_eq_none (by rw [List.length_set]; exact q)] at h; cases h
    rw [List.getElem?_set_self hl] at h
    cases h
    exact ⟨v, by rw [List.getElem?_set_self (by rw [← hs.1]; exact hl)], r⟩
  · rw [List.getElem?_set_ne hj] at h ⊢
    exact hs.2 j e h
theorem g_nm {i : Nat} {x : Str} {pos : Pos} (hN : X.N.Nodup) (hi : X.N[i]? = some x) (hx : L2.Loc X.env.scope x) (hf : X.fn x = true ∨ X.env.scope.names.lookup x = some .local) : PG X (.Name x pos) (tG T [i] (bindTg (.nm i))) :=
  PG.weak (pg_name hN hi hx hf) fun v σ H Q ⟨α, W, ρ, m, y, ρ', hr, hs, r, e, q⟩ => by
    cases e
    exact q _ (hs.set i r) ⟨by rw [List.length_set], fun j hj => List.getElem?_set_ne (by intro z; subst z; simp at hj)⟩
def tGs (T : Tb) (is : List Nat) : TGs := fun vs σ H Q => ∃ α W ρ m ys, HR T α W H m ∧ RS T α W H ρ σ ∧ RpL T W H ys vs ∧ ys.length = is.length ∧ ∀ σ', RS T α W H (setAll ρ is ys) σ' → Off is σ σ' → Q σ' H
theorem PGs.weak {tg : List Expr} {t t' : TGs} (h : PGs X tg t) (w : ∀ v σ H Q, t' v σ H Q → t v σ H Q) : PGs X tg t' := ⟨fun pins s σ H v u Q I r hq => h.run pins s σ H v u Q I r (w v σ H Q hq)⟩
theorem g_nms_nil : PGs X [] (tGs T []) := PGs.weak pgs_nil fun v σ H Q ⟨α, W, ρ, m, ys, hr, hs, r, e, q⟩ => by
  have : ys = [] := List.length_eq_zero_iff.mp e
  subst this
  simp only [RpL] at r
  exact ⟨r, q _ hs ⟨rfl, fun _ _ => rfl⟩⟩
theorem g_nms_cons {i : Nat} {is : List Nat} {x : Str} {pos : Pos} {es : List Expr} (hN : X.N.Nodup) (hi : X.N[i]? = some x) (hx : L2.Loc X.env.scope x) (hf : X.fn x = true ∨ X.env.scope.names.lookup x = some .local) (h : PGs X es (tGs T is)) (hs : (assignEach (.Name x pos :: es) X.env).map (·.2) = assign (.Name x pos) X.env :: (assignEach es X.env).map (·.2)) : PGs X (.Name x pos :: es) (tGs T (i :: is)) :=
  PGs.weak (pgs_cons (pg_name hN hi hx hf) h hs) fun v σ H Q ⟨α, W, ρ, m, ys, hr, hs, r, e, q⟩ => by
    cases ys with
    | nil => cases e
    | cons y ys =>
      simp only [RpL] at r
      obtain ⟨u, r', rfl, h1, h2⟩ := r
      refine ⟨u, r', rfl, α, W, ρ.set i (some (.p y)), m, ys, hr, hs.set i h1, h2, by simpa using e, fun σ' s' o => q σ' s' ⟨by rw [o.1, List.length_set], fun j hj => ?_⟩⟩
      simp only [List.mem_cons, not_or] at hj
      rw [o.2 j hj.2, List.getElem?_set_ne (fun z => hj.1 z.symm)]
theorem g_tp {es : List Expr} {k : Nat} {is : List Nat} {pos : Pos} (hX : CxOk T X) (h : PGs X es (tGs T is)) (hn : (assignEach es X.env).length = is.length) (hst : (assignEach es X.env).findIdx? (·.1) = none) : PG X (.Tuple es k pos) (tG T is (bindTg (.tp is))) :=
  PG.weak (pg_tup hX.calm h hn hst) fun v σ H Q ⟨α, W, ρ, m, y, ρ', hr, hs, r, e, q⟩ => by
    unfold bindTg at e
    dsimp only at e
    split at e
    · rename_i xs
      split at e
      · rename_i hl
        cases e
        simp only [Rp] at r
        obtain ⟨a, vs, rfl, h1, h2⟩ := r
        exact ⟨a, vs, rfl, h1.sq, by rw [h2.len, hl], α, W, ρ, m, xs, hr, hs, h2, hl.symm, q⟩
      · cases e
    · cases e
end Lot
/-! LotJ: enumerate, zip, comprehensions. -/
namespace Lot
open PySem PySem.Spec PyProof.Rows L2
variable {T : Tb} {X : Cx}
/-- a new pair -/
theorem pair_new {α : Al} {W : Addr → Prop} {H : Hp} {m : Mem} {p : Addr} {x y : V} {a b : P} (hr : HR T α W H m) (hp : H p = none) (ra : Rp T W H a x) (rb : Rp T W H b y) :
    Grow H (upd H p (.tup [x, y])) ∧ Rp T W (upd H p (.tup [x, y])) (.tup [a, b]) (.ref p) := by
  refine ⟨.inr ⟨p, _, hp, rfl⟩, ?_⟩
  simp only [Rp, RpL]
  exact ⟨p, [x, y], rfl, ⟨hr.free hp, upd_same⟩, x, [y], rfl, Rp.ext (α := α) (α' := α) (.new hp) a x ra, y, [], rfl, Rp.ext (α := α) (α' := α) (.new hp) b y rb, rfl⟩
theorem enumL_get : ∀ {l : List P} {k i : Nat} {y : P}, (enumL k l)[i]? = some y → ∃ x, l[i]? = some x ∧ y = .tup [.int ((k + i : Nat) : Int), x]
  | [], _, _, _, h => by simp [enumL] at h
  | x :: r, k, 0, y, h => by
    simp [enumL] at h
    exact ⟨x, rfl, by rw [← h]; simp⟩
  | x :: r, k, i + 1, y, h => by
    have h : (enumL (k + 1) r)[i]? = some y := by simpa [enumL] using h
    obtain ⟨z, h1, h2⟩ := enumL_get h
    exact ⟨z, by simpa using h1, by rw [h2]; congr 3; omega⟩
theorem enumL_len : ∀ (l : List P) (k : Nat), (enumL k l).length = l.length
  | [], _ => rfl
  | x :: r, k => by simp [enumL, enumL_len r]
theorem wk_enum {α : Al} {W : Addr → Prop} {H : Hp} {a : Addr} {l : List P} {g : Mem → Bool} (h : ∀ α' W' H' m, Ext α W H α' W' H' → HR T α' W' H' m → g m = true → ∃ xs, SqL T.K H' a xs ∧ RpL T W' H' l xs) : Wk T α W H (Ite T.K a) (enumL 0 l) g :=
  fun α' W' H' m e hr hg => by
    obtain ⟨xs, h1, h2⟩ := h α' W' H' m e hr hg
    refine ⟨⟨xs, h1, by rw [enumL_len]; exact Nat.le_of_eq h2.len⟩, fun i y hy => ?_⟩
    obtain ⟨z, hz, rfl⟩ := enumL_get hy
    obtain ⟨v, h3, h4⟩ := h2.get' hz
    refine ⟨⟨xs, v, h1, h3⟩, fun x H'' yl => ?_⟩
    obtain ⟨p, u, rfl, hp, rfl, yx⟩ := yl
    have := yx xs h1
    rw [h3] at this
    cases this
    rw [Nat.zero_add]
    exact pair_new hr hp (by simp only [Rp]) h4
theorem zipL_get : ∀ {l k : List P} {i : Nat} {y : P}, (zipL l k)[i]? = some y → ∃ a b, l[i]? = some a ∧ k[i]? = some b ∧ y = .tup [a, b]
  | [], _, _, _, h => by simp [zipL] at h
  | _ :: _, [], _, _, h => by simp [zipL] at h
  | a :: l, b :: k, 0, y, h => by simp [zipL] at h; exact ⟨a, b, rfl, rfl, h.symm⟩
  | a :: l, b :: k, i + 1, y, h => by
    have h : (zipL l k)[i]? = some y := by simpa [zipL] using h
    simpa using zipL_get h
theorem zipL_len : ∀ (l k : List P), (zipL l k).length = min l.length k.length
  | [], _ => by simp [zipL]
  | _ :: _, [] => by simp [zipL]
  | a :: l, b :: k => by simp [zipL, zipL_len l k]
theorem wk_zip {α : Al} {W : Addr → Prop} {H : Hp} {a b : Addr} {l k : List P} {g : Mem → Bool} (h : ∀ α' W' H' m, Ext α W H α' W' H' → HR T α' W' H' m → g m = true → ∃ xs ys, SqL T.K H' a xs ∧ RpL T W' H' l xs ∧ SqL T.K H' b ys ∧ RpL T W' H' k ys) : Wk T α W H (Itz T.K a b) (zipL l k) g :=
  fun α' W' H' m e hr hg => by
    obtain ⟨xs, ys, h1, h2, h5, h6⟩ := h α' W' H' m e hr hg
    have l1 := h2.len
    have l2 := h6.len
    refine ⟨⟨xs, ys, h1, h5, by rw [zipL_len]; omega⟩, fun i y hy => ?_⟩
    obtain ⟨z, w, hz, hw, rfl⟩ := zipL_get hy
    obtain ⟨v, h3, h4⟩ := h2.get' hz
    obtain ⟨u, h7, h8⟩ := h6.get' hw
    refine ⟨⟨xs, ys, v, u, h1, h5, h3, h7⟩, fun x H'' yl => ?_⟩
    obtain ⟨p, v', u', rfl, hp, rfl, yx, yy⟩ := yl
    have e1 := yx xs h1
    have e2 := yy ys h5
    rw [h3] at e1
    rw [h7] at e2
    cases e1; cases e2
    exact pair_new hr hp h4 h8
theorem wk_zipT {α : Al} {W : Addr → Prop} {H : Hp} {a b : Addr} {l k : List P} {g : Mem → Bool} (h : ∀ α' W' H' m, Ext α W H α' W' H' → HR T α' W' H' m → g m = true → ∃ xs ys, SqT T.K H' a xs ∧ RpL T W' H' l xs ∧ SqT T.K H' b ys ∧ RpL T W' H' k ys) : Wk T α W H (RZ.ItzT T.K a b) (zipL l k) g :=
  fun α' W' H' m e hr hg => by
    obtain ⟨xs, ys, h1, h2, h5, h6⟩ := h α' W' H' m e hr hg
    have l1 := h2.len
    have l2 := h6.len
    refine ⟨⟨xs, ys, h1, h5, by rw [zipL_len]; omega⟩, fun i y hy => ?_⟩
    obtain ⟨z, w, hz, hw, rfl⟩ := zipL_get hy
    obtain ⟨v, h3, h4⟩ := h2.get' hz
    obtain ⟨u, h7, h8⟩ := h6.get' hw
    refine ⟨⟨xs, ys, v, u, h1, h5, h3, h7⟩, fun x H'' yl => ?_⟩
    obtain ⟨p, v', u', rfl, hp, rfl, yx, yy⟩ := yl
    have e1 := yx xs h1
    have e2 := yy ys h5
    rw [h3] at e1
    rw [h7] at e2
    cases e1; cases e2
    exact pair_new hr hp h4 h8
def enumK (ds : List D) (m : Mem) : Out (List P × (Mem → Bool)) := match ds with
  | [x] => enumO x m
  | _ => .bad
def zipK (ds : List D) (m : Mem) : Out (List P × (Mem → Bool)) := match ds with
  | [x, y] => zipO x y m
  | _ => .bad
theorem g_enum {a : Expr} {fa : Ev} {p pos tpos : Pos} {elts : List Expr} {kk : Nat} (hX : CxOk T X) (hg : Gl X "enumerate") (hm : X.mg "enumerate" = none) (ha : PE X a (tD T fa)) (hs : starEach [a] X.env = (false, eval a X.env) :: starEach [] X.env) :
    PI X (.Tuple elts kk tpos) (.Call (.Name "enumerate" p) [a] [] pos) (tI T fun ρ m => (fa ρ m).bind fun y m2 => enumO y m2) := PI.weak (pi_enum hg hm (g_cons ha g_nil hs) hs) fun σ H R ⟨α, W, ρ, m, hr, hs, h⟩ => ⟨α, W, ρ, m, hr, hs, by
  have h2 : Hg T α W H (((fa ρ m).bind fun d m1 => (Out.ok [] m1).bind fun ds m2 => .ok (d :: ds) m2).bind enumK) fun w _ α' W' H' => ∀ J, Wk T α' W' H' J w.1 w.2 → R J H' := by
    rw [Out.bind_assoc]; exact h
  refine h2.bind.mono fun ds m1 α1 W1 H1 e1 hr1 h1 vs rvs => ?_
  unfold enumK at h1
  split at h1
  · unfold enumO at h1
    split at h1
    · rename_i l ex
      obtain ⟨v, r, rfl, rv, rfl⟩ := rvs
      obtain ⟨b, xs, rfl, h3, h4⟩ := ((rg_rg hr1 rv ex).c (by intro l; simp)).lst
      rw [hX.K]
      refine ⟨b, xs, rfl, SqL.of h3, h1.here hr1 _ (wk_enum fun α' W' H' m' e hr' g => ?_)⟩
      obtain ⟨c, ys, eb, h5, h6⟩ := ((stays_rg hr1 rv ex e hr' g).c (by intro l; simp)).lst
      cases eb
      exact ⟨ys, SqL.of h5, h6⟩
    · exact h1.elim
  · exact h1.elim⟩
theorem g_zip {a b : Expr} {fa fb : Ev} {p pos tpos : Pos} {elts : List Expr} {kk : Nat} (hX : CxOk T X) (hg : Gl X "zip") (hm : X.mg "zip" = none) (ha : PE X a (tD T fa)) (hb : PE X b (tD T fb)) (hs : starEach [a, b] X.env = (false, eval a X.env) :: starEach [b] X.env) (hs2 : starEach [b] X.env = (false, eval b X.env) :: starEach [] X.env)
    (hpl : (backTo pos (starEach [b] X.env)).any (·.1) = false) :
    PI X (.Tuple elts kk tpos) (.Call (.Name "zip" p) [a, b] [] pos) (tI T fun ρ m => (fa ρ m).bind fun x m1 => (fb ρ m1).bind fun y m2 => zipO x y m2) := PI.weak (RZ.pi_zipA hg hm (g_cons ha (g_cons hb g_nil hs2) hs) hs hpl) fun σ H R ⟨α, W, ρ, m, hr, hs, h⟩ => ⟨α, W, ρ, m, hr, hs, by
  have h2 : Hg T α W H (((fa ρ m).bind fun d m1 => ((fb ρ m1).bind fun d m1 => (Out.ok [] m1).bind fun ds m2 => .ok (d :: ds) m2).bind fun ds m2 => .ok (d :: ds) m2).bind zipK) fun w _ α' W' H' => ∀ J, Wk T α' W' H' J w.1 w.2 → R J H' := by
    rw [Out.bind_assoc]
    simp only [Out.bind_assoc]
    exact h
  refine h2.bind.mono fun ds m1 α1 W1 H1 e1 hr1 h1 vs rvs => ?_
  unfold zipK at h1
  split at h1
  · unfold zipO at h1
    obtain ⟨v, r, rfl, rv, u, r', rfl, ru, rfl⟩ := rvs
    rw [hX.K]
    split at h1
    · rename_i l k ex ey
      obtain ⟨c, xs, rfl, h3, h4⟩ := ((rg_rg hr1 rv ex).c (by intro l; simp)).lst
      obtain ⟨d, ys, rfl, h5, h6⟩ := ((rg_rg hr1 ru ey).c (by intro l; simp)).lst
      refine ⟨c, d, xs, ys, rfl, .inl ⟨SqL.of h3, SqL.of h5, h1.here hr1 _ (wk_zip fun α' W' H' m' e hr' g => ?_)⟩⟩
      simp only [Bool.and_eq_true] at g
      obtain ⟨_, xs', eb, h7, h8⟩ := ((stays_rg hr1 rv ex e hr' g.1).c (by intro l; simp)).lst
      obtain ⟨_, ys', eb', h9, h10⟩ := ((stays_rg hr1 ru ey e hr' g.2).c (by intro l; simp)).lst
      cases eb; cases eb'
      exact ⟨xs', ys', SqL.of h7, h8, SqL.of h9, h10⟩
    · rename_i l k ex ey
      obtain ⟨c, xs, rfl, h3, h4⟩ := (rg_rg hr1 rv ex).tup
      obtain ⟨d, ys, rfl, h5, h6⟩ := (rg_rg hr1 ru ey).tup
      refine ⟨c, d, xs, ys, rfl, .inr ⟨h3, h5, h1.here hr1 _ (wk_zipT fun α' W' H' m' e hr' g => ?_)⟩⟩
      simp only [Bool.and_eq_true] at g
      obtain ⟨_, xs', eb, h7, h8⟩ := (stays_rg hr1 rv ex e hr' g.1).tup
      obtain ⟨_, ys', eb', h9, h10⟩ := (stays_rg hr1 ru ey e hr' g.2).tup
      cases eb; cases eb'
      exact ⟨xs', ys', h7, h8, h9, h10⟩
    · exact h1.elim
  · exact h1.elim⟩
/-! ### comprehensions -/
theorem wipe_rs {α : Al} {W : Addr → Prop} {H : Hp} {ρ : Env} {σ : L2.St} (hs : RS T α W H ρ σ) : ∀ vs : List Nat, RS T α W H (wipe ρ vs) (L2.wipe σ vs)
  | [] => hs
  | v :: vs => by
    have ih := wipe_rs hs vs
    unfold wipe L2.wipe
    refine ⟨by rw [List.length_set, List.length_set]; exact ih.1, fun j e h => ?_⟩
    by_cases hj : v = j
    · subst hj
      rcases Nat.lt_or_ge v (wipe ρ vs).length with q | q
      · rw [List.getElem?_set_self q] at h; cases h
      · rw [List.getElem?_eq_none (by rw [List.length_set]; exact q)] at h; cases h
    · rw [List.getElem?_set_ne hj] at h ⊢
      exact ih.2 j e h
/-- a clause's tests -/
def tIfs (T : Tb) (f : Env → Mem → Out Bool) : TT := tT T f
theorem PTs.weak {e : List Expr} {t t' : TT} (h : PTs X e t) (w : ∀ σ H Q, t' σ H Q → t σ H Q) : PTs X e t' := ⟨fun pins s σ H Q I hq => h.run pins s σ H Q I (w σ H Q hq)⟩
theorem g_ifs0 : PTs X [] (tT T fun _ m => .ok true m) := PTs.weak pts_nil fun σ H Q ⟨α, W, ρ, m, hr, hs, h⟩ => h.here hr
theorem g_ifs1 {c : Expr} {fc : Ev} (hc : PT X c (tT T (tO fc))) : PTs X [c] (tT T fun ρ m => (tO fc ρ m).bind fun b m1 => if b then .ok true m1 else .ok false m1) := PTs.weak (pts_one hc) fun σ H Q ⟨α, W, ρ, m, hr, hs, h⟩ => ⟨α, W, ρ, m, hr, hs, h.bind.mono fun b m1 α1 W1 H1 e1 hr1 h1 => by
  cases b with
  | true => exact h1.here hr1
  | false => exact h1.here hr1⟩
theorem compL_len {g : Mem → Bool} {step : P → Mem → Out (List P)} : ∀ {xs acc : List P} {m m' : Mem} {l : List P}, compL g step xs acc m = .ok l m' → acc.length ≤ l.length
  | [], acc, m, m', l, h => by
    unfold compL at h
    split at h
    · cases h; exact Nat.le_refl _
    · cases h
  | x :: xs, acc, m, m', l, h => by
    unfold compL at h
    split at h
    · cases q : step x m with
      | ok o m1 =>
        rw [q] at h
        have := compL_len (xs := xs) h
        rw [List.length_append] at this
        omega
      | exn _ _ _ => rw [q] at h; cases h
      | bad => rw [q] at h; cases h
    · cases h
/-- any hidden objects -/
def tDg (T : Tb) (f : Ev) : TE := fun σ H Q => ∃ gh, tD (T.g gh) f σ H Q
def tTg (T : Tb) (f : Env → Mem → Out Bool) : TT := fun σ H Q => ∃ gh, tT (T.g gh) f σ H Q
theorem PE.anyG {e : Expr} {f : Ev} (h : ∀ gh, PE X e (tD (T.g gh) f)) : PE X e (tDg T f) := ⟨fun pins s σ H Q I ⟨gh, q⟩ => (h gh).run pins s σ H Q I q⟩
theorem PTs.anyG {e : List Expr} {f : Env → Mem → Out Bool} (h : ∀ gh, PTs X e (tT (T.g gh) f)) : PTs X e (tTg T f) := ⟨fun pins s σ H Q I ⟨gh, q⟩ => (h gh).run pins s σ H Q I q⟩
def tGg (T : Tb) (vs : List Nat) (b : P → Env → Option Env) : TG := fun v σ H Q => ∃ gh, tG (T.g gh) vs b v σ H Q
theorem PG.anyG {e : Expr} {vs : List Nat} {b : P → Env → Option Env} (h : ∀ gh, PG X e (tG (T.g gh) vs b)) : PG X e (tGg T vs b) := ⟨fun pins s σ H v u Q I r ⟨gh, q⟩ => (h gh).run pins s σ H v u Q I r q⟩
theorem HR.poke {α : Al} {W : Addr → Prop} {H : Hp} {m : Mem} {p : Addr} {o : HO} (hr : HR T α W H m) (hw : W p) (hn : ∀ n k, live m n k = true → α n k ≠ some p) (hg : T.gh p = none) : Ext α W H α W (upd H p o) ∧ HR T α W (upd H p o) m := by
  have e : Ext α W H α W (upd H p o) := ⟨fun _ _ _ h => h, fun a o' h q => ⟨by rw [upd_ne (fun z => h (by rw [z]; exact hw))]; exact q, h⟩⟩
  refine ⟨e, hr.keep e (fun a h q => ?_) fun a o' hl h q => ?_⟩
  · by_cases z : a = p
    · rw [z, upd_same] at q; cases q
    · rw [upd_ne z] at q; exact hr.wd a h q
  · have z : a ≠ p := by
      rintro rfl
      rcases hl with ⟨n, k, h1, h2⟩ | ⟨u, h1⟩
      · exact hn n k h1 h2
      · rw [hg] at h1; cases h1
    exact ⟨by rw [upd_ne z]; exact q, h⟩
def ghUp (T : Tb) (p : Addr) (o : HO) : Addr → Option HO := fun a => if a = p then some o else T.gh a
theorem HR.hide {α : Al} {W : Addr → Prop} {H : Hp} {m : Mem} {p : Addr} {o : HO} (hr : HR T α W H m) (hw : W p) (ho : H p = some o) (hn : ∀ n k, live m n k = true → α n k ≠ some p) : HR (T.g (ghUp T p o)) α W H m := by
  refine hr.gh fun a u q => ?_
  unfold ghUp at q
  by_cases z : a = p
  · rw [if_pos z] at q
    cases q
    subst z
    exact ⟨hw, ho, hn⟩
  · rw [if_neg z] at q
    exact hr.gho a u q
theorem HR.show_ {α : Al} {W : Addr → Prop} {H : Hp} {m : Mem} {p : Addr} {o : HO} (hr : HR (T.g (ghUp T p o)) α W H m) (hg : T.gh p = none) : HR T α W H m ∧ W p ∧ H p = some o ∧ ∀ n k, live m n k = true → α n k ≠ some p := by
  have q := hr.gho p o (if_pos rfl)
  refine ⟨HR.gh (T := T.g (ghUp T p o)) (gh := T.gh) hr fun a u h => hr.gho a u ?_, q⟩
  show ghUp T p o a = some u
  unfold ghUp
  rw [if_neg (fun z => by rw [z, hg] at h; cases h)]
  exact h
theorem Hg.hid {β : Type} {α : Al} {W : Addr → Prop} {H : Hp} {o : Out β} {Q Q' : β → Mem → Al → (Addr → Prop) → Hp → Prop} {p : Addr} {u : HO} (h : Hg T α W H o Q) (hg : T.gh p = none)
    (f : ∀ b m α' W' H', Ext α W H α' W' H' → HR T α' W' H' m → W' p → H' p = some u → (∀ n k, live m n k = true → α' n k ≠ some p) → Q b m α' W' H' → Q' b m α' W' H') : Hg (T.g (ghUp T p u)) α W H o Q' := by
  unfold Hg at h ⊢
  split at h
  · intro α' W' H' e hr
    obtain ⟨h1, h2, h3, h4⟩ := hr.show_ hg
    exact f _ _ _ _ _ e h1 h2 h3 h4 (h α' W' H' e h1)
  · exact h
theorem wipe_2 {σ σ2 : L2.St} {vs : List Nat} (h : Off vs (L2.wipe σ vs) σ2) : L2.wipe σ2 vs = L2.wipe σ vs :=
  wipe_off ⟨by rw [h.1, wipe_length], fun i hi => by rw [h.2 i hi, wipe_out hi]⟩
theorem lc_red {vs : List Nat} {b : P → Env → Option Env} {fi : Env → Mem → Out (List P × (Mem → Bool))} {fifs : Env → Mem → Out Bool} {fe : Ev} {σ : L2.St} {H : Hp} {Q : VK} (h : tX T (lcO vs b fi fifs fe) σ H Q) : tLc (tI T fi) (tGg T vs b) (tTg T fifs) (tDg T fe) vs σ H Q := by
  obtain ⟨α, W, ρ, m, hr, hs, h⟩ := h
  unfold lcO at h
  refine ⟨α, W, ρ, m, hr, hs, h.bind.mono fun w m1 α1 W1 H1 e1 hr1 h1 J hJ D hD => ?_⟩
  obtain ⟨xs, g⟩ := w
  dsimp only at h1 hJ
  have hs1 := hs.ext e1
  have hgD := hr1.noGh hD
  refine ⟨fun i n H' => n = xs.length - i ∧ i ≤ xs.length ∧ ∃ α' W' m' acc accV, Ext α1 W1 H1 α' W' H' ∧ HR T α' W' H' m' ∧ W' D ∧ H' D = some (.lst accV) ∧ RpL T W' H' acc accV ∧ (∀ n k, live m' n k = true → α' n k ≠ some D) ∧
    Hx T α' W' H' ((compL g (stepO vs b fifs fe ρ) (xs.drop i) acc m').bind fun l m2 => if l.length ≤ line then .ok (.p (.lst l)) m2 else .bad) Q, ⟨xs.length, by simp, Nat.zero_le _, ?_⟩, ?_⟩
  · exact ⟨α1, wUp W1 D, m1, [], [], .hid hD, hr1.hid hD, .inr rfl, upd_same, by simp only [RpL], hr1.noAl hD, Hx.from (.hid hD) h1⟩
  · rintro i n H' ⟨rfl, hi, α', W', m', acc, accV, e2, hr2, hw, hD2, ra, hn, h2⟩
    have hgd : g m' = true := by
      cases q : g m' with
      | true => rfl
      | false =>
        exfalso
        have : compL g (stepO vs b fifs fe ρ) (xs.drop i) acc m' = .bad := by
          cases xs.drop i <;> · unfold compL; rw [q]; rfl
        rw [this] at h2
        exact h2.elim id id
    obtain ⟨hstop, hgo⟩ := hJ α' W' H' m' e2 hr2 hgd
    by_cases hlt : i < xs.length
    · right
      have hd : xs.drop i = xs[i] :: xs.drop (i + 1) := List.drop_eq_getElem_cons hlt
      rw [hd] at h2
      unfold compL at h2
      rw [hgd] at h2
      rw [if_pos rfl] at h2
      obtain ⟨hg1, hg2⟩ := hgo i xs[i] (List.getElem?_eq_getElem hlt)
      refine ⟨hg1, fun H' => ∃ α' W' m' acc accV, Ext α1 W1 H1 α' W' H' ∧ HR T α' W' H' m' ∧ W' D ∧ H' D = some (.lst accV) ∧ RpL T W' H' acc accV ∧ (∀ n k, live m' n k = true → α' n k ≠ some D) ∧
        Hx T α' W' H' ((compL g (stepO vs b fifs fe ρ) (xs.drop (i + 1)) acc m').bind fun l m2 => if l.length ≤ line then .ok (.p (.lst l)) m2 else .bad) Q, fun H'' q => ⟨xs.length - (i + 1), by omega, rfl, hlt, q⟩, fun x H3 yl => ?_⟩
      obtain ⟨gr, rx⟩ := hg2 x H3 yl
      have e3 : Ext α' W' H' α' W' H3 := gr.ext
      have hr3 := gr.hr hr2
      have hD3 := gr.keep hD2
      rw [Out.bind_assoc] at h2
      have h3 := Hx.from e3 h2
      have e13 := e2.trans e3
      have ra3 := ra.ext e3
      -- the hidden list
      have hrG := hr3.hide hw hD3 hn
      unfold stepO at h3
      cases hb : b xs[i] (wipe ρ vs) with
      | none => rw [hb] at h3; exact (h3.elim id id).elim
      | some ρ1 =>
        rw [hb] at h3
        refine ⟨ghUp T D (.lst accV), α', W', wipe ρ vs, m', xs[i], ρ1, hrG, by rw [RS_ge]; exact wipe_rs (hs1.ext e13) vs, by rw [Rp_ge]; exact rx, hb, fun σ2 hs2 off => ⟨wipe_2 off, ?_⟩⟩
        have hs2 : RS T α' W' H3 ρ1 σ2 := by rw [RS_ge] at hs2; exact hs2
        refine ⟨ghUp T D (.lst accV), α', W', ρ1, m', hrG, by rw [RS_ge]; exact hs2, ?_⟩
        -- the tests
        dsimp only at h3
        rw [Out.bind_assoc] at h3
        refine h3.bind.hid hgD fun t m4 α4 W4 H4 e4 hr4 hw4 hD4 hn4 h4 => ?_
        have e14 := e13.trans e4
        cases t with
        | false => exact ⟨α4, W4, m4, acc, accV, e14, hr4, hw4, hD4, ra3.ext e4, hn4, by rw [if_neg Bool.false_ne_true, Out.bind_ok, List.append_nil] at h4; exact h4⟩
        | true =>
          rw [if_pos rfl, Out.bind_assoc] at h4
          refine ⟨ghUp T D (.lst accV), α4, W4, ρ1, m4, hr4.hide hw4 hD4 hn4, by rw [RS_ge]; exact hs2.ext e4, ?_⟩
          refine h4.bind.hid hgD fun d m5 α5 W5 H5 e5 hr5 hw5 hD5 hn5 h5 v rv => ?_
          cases d with
          | p y =>
            have rv : Rp T W5 H5 y v := by
              have rv : RD (T.g _) α5 W5 H5 (.p y) v := rv
              rw [RD_ge] at rv; exact rv
            have h5 : Hx T α5 W5 H5 ((compL g (stepO vs b fifs fe ρ) (xs.drop (i + 1)) (acc ++ [y]) m5).bind fun l m2 => if l.length ≤ line then .ok (.p (.lst l)) m2 else .bad) Q := h5
            have ra5 := (ra3.ext e4).ext e5
            have hlen : accV.length < sizeLine := by
              rw [ra5.len, ← line_eq]
              cases q : compL g (stepO vs b fifs fe ρ) (xs.drop (i + 1)) (acc ++ [y]) m5 with
              | ok l m6 =>
                have q1 := compL_len q
                rw [q] at h5
                rw [List.length_append] at q1
                have q1 : acc.length + 1 ≤ l.length := q1
                dsimp only [Out.bind_ok] at h5
                split at h5
                · omega
                · exact (h5.elim id id).elim
              | exn _ _ _ => rw [q] at h5; exact (h5.elim id id).elim
              | bad => rw [q] at h5; exact (h5.elim id id).elim
            obtain ⟨ep, hrp⟩ := hr5.poke (o := .lst (accV ++ [v])) hw5 hn5 hgD
            refine ⟨accV, hD5, hlen, α5, W5, m5, acc ++ [y], accV ++ [v], (e14.trans e5).trans ep, hrp, hw5, upd_same, ?_, hn5, Hx.from ep h5⟩
            exact (ra5.ext ep).app (by simp only [RpL]; exact ⟨v, [], rfl, Rp.ext ep _ _ rv, rfl⟩)
          | _ => exact (h5.elim id id).elim
    · left
      have hi' : i = xs.length := by omega
      subst hi'
      rw [List.drop_length] at h2
      unfold compL at h2
      rw [hgd, if_pos rfl] at h2
      refine ⟨hstop, ?_⟩
      dsimp only [Out.bind_ok] at h2
      split at h2
      · exact h2.F α' W' H' accV D .refl hr2 hw hD2 ra hn hgD
      · exact (h2.elim id id).elim
section
variable {elt tg iter : Expr} {ifs : List Expr} {scope : Scope} {own : List (Str × Nat)} {pos : Pos} {fi : Env → Mem → Out (List P × (Mem → Bool))} {b : P → Env → Option Env} {fifs : Env → Mem → Out Bool} {fe : Ev}
theorem g_lc (hX : CxOk T X) (hi : PI X tg iter (tI T fi)) (ok : BlkOk X.N X.env.scope scope own)
    (hg : ∀ gh (s : Shared) (H : Hp) (C : Addr) (cl : List (Str × Addr)) (fp : List Addr), PG (X.blk s H scope (compEnvC scope cl C X.env) fp) tg (tG (T.g gh) (own.map (·.2)) b))
    (ht : ∀ gh (s : Shared) (H : Hp) (C : Addr) (cl : List (Str × Addr)) (fp : List Addr), PTs (X.blk s H scope (compEnvC scope cl C X.env) fp) ifs (tT (T.g gh) fifs))
    (he : ∀ gh (s : Shared) (H : Hp) (C : Addr) (cl : List (Str × Addr)) (fp : List Addr), PE (X.blk s H scope (compEnvC scope cl C X.env) fp) elt (tD (T.g gh) fe)) (hs : ∀ x, foldedSetIterable iter X.env x = pure x) :
    PE X (.ListComp elt [⟨tg, iter, ifs, 0⟩] scope pos) (tX T (lcO (own.map (·.2)) b fi fifs fe)) :=
  PE.weak (pe_lc hX.calm hX.nd hi ok (fun s H C cl fp => PG.anyG fun gh => hg gh s H C cl fp) (fun s H C cl fp => PTs.anyG fun gh => ht gh s H C cl fp) (fun s H C cl fp => PE.anyG fun gh => he gh s H C cl fp) hs) fun σ H Q h => lc_red h
def allocO (al : Bool) (f : Ev) : Ev := if al then evAlloc f else f
theorem tX_alloc {f : Ev} {σ : L2.St} {H : Hp} {Q : VK} (h : tD T (evAlloc f) σ H Q) : tX T f σ H Q := by
  obtain ⟨α, W, ρ, m, h1, h2, h3⟩ := h
  refine ⟨α, W, ρ, m, h1, h2, .inr ?_⟩
  unfold evAlloc at h3
  cases q : f ρ m with
  | ok d m1 =>
    rw [q] at h3
    cases d with
    | p x =>
      cases x with
      | lst l => exact Hg.alloc h3
      | _ => exact h3.elim
    | _ => exact h3.elim
  | exn _ _ _ => rw [q] at h3; exact h3.elim
  | bad => rw [q] at h3; exact h3.elim
theorem tX_al {f : Ev} {al : Bool} {σ : L2.St} {H : Hp} {Q : VK} (h : tD T (allocO al f) σ H Q) : tX T f σ H Q := by
  cases al with
  | true => exact tX_alloc h
  | false => obtain ⟨α, W, ρ, m, h1, h2, h3⟩ := h; exact ⟨α, W, ρ, m, h1, h2, .inl h3⟩
end
/-! ### statements -/
/-- what is wanted behind a statement -/
def endS (T : Tb) (D : Ends) : Fl → Mem → Al → (Addr → Prop) → Hp → Prop := fun f _ α W H => match f with
  | .nx ρ => ∀ σ, RS T α W H ρ σ → D.nx σ H
  | .rt d => ∀ v, RD T α W H d v → D.rt v H
  | .bk ρ => ∀ σ, RS T α W H ρ σ → D.bk σ H
  | .ct ρ => ∀ σ, RS T α W H ρ σ → D.ct σ H
def tS (T : Tb) (f : Es) : TS := fun D σ H => ∃ α W ρ m, HR T α W H m ∧ RS T α W H ρ σ ∧ Hg T α W H (f ρ m) (endS T D)
theorem PS.weak {st : Stmt} {t t' : TS} (h : PS X st t) (w : ∀ D σ H, t' D σ H → t D σ H) : PS X st t' := ⟨fun pins s σ H D I hq => h.run pins s σ H D I (w D σ H hq)⟩
theorem PSs.weak {st : List Stmt} {t t' : TS} (h : PSs X st t) (w : ∀ D σ H, t' D σ H → t D σ H) : PSs X st t' := ⟨fun pins s σ H D I hq => h.run pins s σ H D I (w D σ H hq)⟩
theorem s_nil : PSs X [] (tS T fun ρ m => .ok (.nx ρ) m) := PSs.weak pss_nil fun D σ H ⟨α, W, ρ, m, hr, hs, h⟩ => h.here hr σ hs
theorem s_cons {st : Stmt} {sts : List Stmt} {f g : Es} (h1 : PS X st (tS T f)) (h2 : PSs X sts (tS T g)) : PSs X (st :: sts) (tS T (seqO f g)) :=
  PSs.weak (pss_cons h1 h2) fun D σ H ⟨α, W, ρ, m, hr, hs, h⟩ => ⟨α, W, ρ, m, hr, hs, Hg.mono h.bind fun fl m1 α1 W1 H1 e1 hr1 h1 => by
    cases fl with
    | nx ρ1 => exact fun σ1 hs1 => ⟨α1, W1, ρ1, m1, hr1, hs1, h1⟩
    | rt d => exact h1.here hr1
    | bk ρ1 => exact h1.here hr1
    | ct ρ1 => exact h1.here hr1⟩
theorem s_expr {e : Expr} {fe : Ev} {pos : Pos} (he : PE X e (tD T fe)) (hs : swapsWith e none pos.line X.env = pure false) : PS X (.Expr e pos) (tS T fun ρ m => (fe ρ m).bind fun _ m1 => .ok (.nx ρ) m1) :=
  PS.weak (ps_expr he hs) fun D σ H ⟨α, W, ρ, m, hr, hs, h⟩ => ⟨α, W, ρ, m, hr, hs, h.bind.mono fun d m1 α1 W1 H1 e1 hr1 h1 v rv => h1.here hr1 σ (hs.ext e1)⟩
theorem s_ret {e : Expr} {fe : Ev} {pos : Pos} (he : PE X e (tD T fe)) : PS X (.Return (some e) pos) (tS T fun ρ m => (fe ρ m).bind fun d m1 => .ok (.rt d) m1) :=
  PS.weak (ps_ret he) fun D σ H ⟨α, W, ρ, m, hr, hs, h⟩ => ⟨α, W, ρ, m, hr, hs, h.bind.mono fun d m1 α1 W1 H1 e1 hr1 h1 v rv => h1.here hr1 v rv⟩
theorem s_retn {pos : Pos} : PS X (.Return none pos) (tS T fun _ m => .ok (.rt (.p .non)) m) :=
  PS.weak ps_retN fun D σ H ⟨α, W, ρ, m, hr, hs, h⟩ => h.here hr .non (by simp only [RD, Rp])
theorem s_pass {pos : Pos} : PS X (.Pass pos) (tS T fun ρ m => .ok (.nx ρ) m) := PS.weak ps_pass fun D σ H ⟨α, W, ρ, m, hr, hs, h⟩ => h.here hr σ hs
theorem s_brk {pos : Pos} : PS X (.Break pos) (tS T fun ρ m => .ok (.bk ρ) m) := PS.weak ps_break fun D σ H ⟨α, W, ρ, m, hr, hs, h⟩ => h.here hr σ hs
theorem s_cont {pos : Pos} : PS X (.Continue pos) (tS T fun ρ m => .ok (.ct ρ) m) := PS.weak ps_continue fun D σ H ⟨α, W, ρ, m, hr, hs, h⟩ => h.here hr σ hs
theorem s_if {c : Expr} {a b : List Stmt} {fc : Ev} {fa fb : Es} {pos : Pos} (hc : PT X c (tT T (tO fc))) (ha : PSs X a (tS T fa)) (hb : PSs X b (tS T fb)) : PS X (.If c a b pos) (tS T fun ρ m => (tO fc ρ m).bind fun t m1 => if t then fa ρ m1 else fb ρ m1) :=
  PS.weak (ps_if hc ha hb) fun D σ H ⟨α, W, ρ, m, hr, hs, h⟩ => ⟨α, W, ρ, m, hr, hs, h.bind.mono fun t m1 α1 W1 H1 e1 hr1 h1 => by
    cases t with
    | true => exact ⟨α1, W1, ρ, m1, hr1, hs.ext e1, h1⟩
    | false => exact ⟨α1, W1, ρ, m1, hr1, hs.ext e1, h1⟩⟩
def noFld (d : D) : Bool := match d with
  | .ref _ (_ + 1) => false
  | _ => true
theorem s_set {i : Nat} {x : Str} {e : Expr} {fe : Ev} {pos pos' : Pos} (hN : X.N.Nodup) (hi : X.N[i]? = some x) (hx : Loc X.env.scope x) (he : PE X e (tD T fe)) (hs : swapsWith e (some (.Name x pos')) pos.line X.env = pure false) (hf : X.fn x = true ∨ X.env.scope.names.lookup x = some .local) :
    PS X (.Assign [.Name x pos'] e pos) (tS T (setO i fe)) :=
  PS.weak (ps_set hN hi hx he hs hf) fun D σ H ⟨α, W, ρ, m, hr, hs, h⟩ => ⟨α, W, ρ, m, hr, hs, h.bind.mono fun d m1 α1 W1 H1 e1 hr1 h1 v rv => h1.here hr1 _ ((hs.ext e1).set i rv)⟩
end Lot
/-! LotK: what is written; assignments. -/
namespace Lot
open PySem PySem.Spec PyProof.Rows L2
variable {T : Tb} {X : Cx}
theorem getM_set {m : Mem} {n q : Nat} {o : Obj} (h : n < m.length) : getM (m.set n o) q = if q = n then o else getM m q := by
  unfold getM
  by_cases e : q = n
  · subst e; rw [if_pos rfl, List.getElem?_set_self h]; rfl
  · rw [if_neg e, List.getElem?_set_ne (fun z => e z.symm)]
theorem cell_lt {m : Mem} {n k : Nat} {x : P} (h : cell m n k = some x) : n < m.length := live_lt (live_cell h)
/-- the object that holds a cell: itself, or an instance's field -/
theorem cell_cases {m : Mem} {n k : Nat} {x : P} (h : cell m n k = some x) : (k = 0 ∧ getM m n = .val x) ∨ ∃ j c fs, k = j + 1 ∧ getM m n = .ins c fs ∧ fs[j]? = some (true, x) := by
  unfold cell at h
  split at h
  · rename_i e; cases h; exact .inl ⟨rfl, e⟩
  · rename_i c fs j e
    split at h
    · rename_i y e2
      cases h
      exact .inr ⟨j, c, fs, rfl, e, e2⟩
    · cases h
  · cases h
theorem setCell_len {m : Mem} {n k : Nat} {x : P} : (setCell m n k x).length = m.length := by
  unfold setCell
  split <;> simp
def putObj (o : Obj) (k : Nat) (y : P) : Obj := match o, k with
  | .val _, 0 => .val y
  | .ins c fs, k + 1 => .ins c (fs.set k (true, y))
  | o, _ => o
theorem getM_setCell {m : Mem} {n k q : Nat} {x y : P} (h : cell m n k = some x) : getM (setCell m n k y) q = if q = n then putObj (getM m n) k y else getM m q := by
  have hl := cell_lt h
  rcases cell_cases h with ⟨rfl, e⟩ | ⟨j, c, fs, rfl, e, e2⟩
  · unfold setCell
    rw [e]
    exact getM_set hl
  · unfold setCell
    rw [e]
    exact getM_set hl
theorem cell_setCell {m : Mem} {n k q j : Nat} {x y : P} (h : cell m n k = some x) : cell (setCell m n k y) q j = if q = n ∧ j = k then some y else cell m q j := by
  rcases cell_cases h with ⟨rfl, e⟩ | ⟨i, c, fs, rfl, e, e2⟩
  · have g := getM_setCell (q := q) (y := y) h
    by_cases eq : q = n
    · subst eq
      rw [if_pos rfl, e] at g
      have g : getM (setCell m q 0 y) q = .val y := g
      unfold cell
      rw [g, e]
      cases j with
      | zero => rw [if_pos ⟨rfl, rfl⟩]; rfl
      | succ j => rw [if_neg (by omega)]; rfl
    · rw [if_neg eq] at g
      unfold cell
      rw [g, if_neg (fun z => eq z.1)]
  · have g := getM_setCell (q := q) (y := y) h
    have hi : i < fs.length := by
      rcases Nat.lt_or_ge i fs.length with z | z
      · exact z
      · rw [List.getElem?_eq_none z] at e2; cases e2
    by_cases eq : q = n
    · subst eq
      rw [if_pos rfl, e] at g
      have g : getM (setCell m q (i + 1) y) q = .ins c (fs.set i (true, y)) := g
      unfold cell
      rw [g, e]
      cases j with
      | zero => rw [if_neg (by omega)]
      | succ j =>
        show (match (fs.set i (true, y))[j]? with | some (true, x) => some x | _ => none) = if q = q ∧ j + 1 = i + 1 then some y else (match fs[j]? with | some (true, x) => some x | _ => none)
        by_cases ej : j = i
        · subst ej
          rw [List.getElem?_set_self hi, if_pos ⟨rfl, rfl⟩]
        · rw [List.getElem?_set_ne (fun z => ej z.symm), if_neg (by omega)]
    · rw [if_neg eq] at g
      unfold cell
      rw [g, if_neg (fun z => eq z.1)]
theorem live_setCell {m : Mem} {n k q j : Nat} {x y : P} (h : cell m n k = some x) : live (setCell m n k y) q j = true → live m q j = true := by
  intro hl
  by_cases e : q = n ∧ j = k
  · obtain ⟨rfl, rfl⟩ := e
    exact live_cell h
  · have g := getM_setCell (q := q) (y := y) h
    unfold live at hl ⊢
    rw [cell_setCell h, if_neg e] at hl
    rw [g] at hl
    by_cases eq : q = n
    · subst eq
      rw [if_pos rfl] at hl
      rcases cell_cases h with ⟨rfl, e1⟩ | ⟨i, c, fs, rfl, e1, e2⟩
      · rw [e1] at hl ⊢
        dsimp only [putObj] at hl ⊢
        cases j with
        | zero => exact absurd ⟨rfl, rfl⟩ e
        | succ j => exact hl
      · rw [e1] at hl ⊢
        dsimp only [putObj] at hl ⊢
        cases j with
        | zero => rfl
        | succ j => exact hl
    · rw [if_neg eq] at hl
      exact hl
theorem HR.write {α : Al} {W : Addr → Prop} {H : Hp} {m : Mem} {n k : Nat} {a : Addr} {x y : P} {o : HO} (hr : HR T α W H m) (hc : cell m n k = some x) (ha : α n k = some a) (hA : At T W (upd H a o) y a) : Ext α W H α W (upd H a o) ∧ HR T α W (upd H a o) (setCell m n k y) := by
  obtain ⟨b, hb, hw, _⟩ := hr.cel n k x hc
  rw [ha] at hb; cases hb
  have e : Ext α W H α W (upd H a o) := ⟨fun _ _ _ h => h, fun b o' h q => ⟨by rw [upd_ne (fun z => h (by rw [z]; exact hw))]; exact q, h⟩⟩
  refine ⟨e, ⟨fun b h q => ?_, fun q j h => hr.out q j (by rw [setCell_len] at h; exact h), fun q j z h => ?_, fun q c fs h => ?_, fun q j q' j' b l1 l2 e1 e2 => hr.inj q j q' j' b (live_setCell hc l1) (live_setCell hc l2) e1 e2, fun b o' h => ?_⟩⟩
  · by_cases z : b = a
    · rw [z, upd_same] at q; cases q
    · rw [upd_ne z] at q; exact hr.wd b h q
  · rw [cell_setCell hc] at h
    by_cases eq : q = n ∧ j = k
    · rw [if_pos eq] at h
      obtain ⟨rfl, rfl⟩ := eq
      cases h
      exact ⟨a, ha, hw, hA⟩
    · rw [if_neg eq] at h
      obtain ⟨b, h1, h2, h3⟩ := hr.cel q j z h
      refine ⟨b, h1, h2, h3.ext e fun o' q' => ?_⟩
      rw [upd_ne]
      · exact q'
      · rintro rfl
        exact eq (hr.inj q j n k b (live_cell h) (live_cell hc) h1 ha)
  · have g := getM_setCell (q := q) (y := y) hc
    rw [g] at h
    by_cases eq : q = n
    · subst eq
      rw [if_pos rfl] at h
      rcases cell_cases hc with ⟨rfl, e1⟩ | ⟨i, c', fs', rfl, e1, e2⟩
      · rw [e1] at h; exact nomatch (show Obj.val y = .ins c fs from h)
      · rw [e1] at h
        have h : Obj.ins c' (fs'.set i (true, y)) = .ins c fs := h
        cases h
        obtain ⟨b, h1, h2, dx, xs, r, h3, h4, h5⟩ := hr.ins q _ _ e1
        have hne : b ≠ a := by
          rintro rfl
          have := hr.inj q 0 q (i + 1) b (live_ins e1) (live_cell hc) h1 ha
          omega
        refine ⟨b, h1, h2, dx, xs, r, by rw [upd_ne hne]; exact h3, h4, ?_⟩
        have key : ∀ (k i : Nat) (fs : List (Bool × P)) (xs : List V), FldsV T W H (α q) k fs xs → fs[i]? = some (true, x) → FldsV T W (upd H a o) (α q) k (fs.set i (true, y)) xs := by
          intro k i fs
          induction fs generalizing k i with
          | nil => intro xs h e; simp at e
          | cons f fs ih =>
            intro xs h e'
            obtain ⟨v, r, h1, h2, h3⟩ := h
            cases i with
            | zero =>
              simp at e'
              subst e'
              exact ⟨v, r, h1, h2, h3.ext e fun _ _ z => z⟩
            | succ i => exact ⟨v, r, h1, h2.ext e fun _ z => z, ih (k + 1) i r h3 (by simpa using e')⟩
        exact key 0 i fs' xs h5 e2
    · rw [if_neg eq] at h
      obtain ⟨b, h1, h2, h3⟩ := hr.ins q c fs h
      refine ⟨b, h1, h2, h3.ext e (fun o' q' => ?_) fun _ _ z => z⟩
      rw [upd_ne]
      · exact q'
      · rintro rfl
        exact eq (hr.inj q 0 n k b (live_ins h) (live_cell hc) h1 ha).1
  · obtain ⟨h1, h2, h3⟩ := hr.gho b o' h
    have hne : b ≠ a := by
      rintro rfl
      exact h3 n k (live_cell hc) ha
    exact ⟨h1, by rw [upd_ne hne]; exact h2, fun q j l => h3 q j (live_setCell hc l)⟩
/-! ### assignments -/
theorem s_unp {es : List Expr} {k : Nat} {is : List Nat} {e : Expr} {fe : Ev} {pos pos' : Pos} (hX : CxOk T X) (he : PE X e (tD T fe)) (h : PGs X es (tGs T is)) (hn : (assignEach es X.env).length = is.length) (hst : (assignEach es X.env).findIdx? (·.1) = none)
    (hs : swapsWithSole [.Tuple es k pos'] e pos.line X.env = pure false) (hw : swappedStores [.Tuple es k pos'] e X.env = pure none) (h1 : (assignEach [.Tuple es k pos'] X.env).map (·.2) = [assign (.Tuple es k pos') X.env]) :
    PS X (.Assign [.Tuple es k pos'] e pos) (tS T (unpO is fe)) :=
  PS.weak (ps_asg he (pg_tup hX.calm h hn hst) hs hw h1) fun D σ H ⟨α, W, ρ, m, hr, hs, h⟩ => ⟨α, W, ρ, m, hr, hs, h.bind.mono fun d m1 α1 W1 H1 e1 hr1 h1 v rv => by
    split at h1
    · rename_i xs ex
      split at h1
      · rename_i hl
        obtain ⟨a, vs, rfl, h3, h4⟩ := (rg_rg hr1 rv ex).tup
        rw [hX.K]
        exact ⟨a, vs, rfl, h3, by rw [h4.len, hl], α1, W1, ρ, m1, xs, hr1, hs.ext e1, h4, hl.symm, fun σ' hs' _ => h1.here hr1 σ' hs'⟩
      · exact h1.elim
    · exact h1.elim⟩
theorem putK_get {κ : Type} [DecidableEq κ] (kvs : List (κ × V)) (k : κ) (v : V) : L2.putK kvs k v = if (valV kvs k).isSome then kvs.map (fun kv => if kv.1 = k then (kv.1, v) else kv) else kvs ++ [(k, v)] := by
  unfold L2.putK
  rw [valV_any]
theorem putK_keys {κ : Type} [DecidableEq κ] (kvs : List (κ × V)) (k : κ) (v : V) (nd : (kvs.map (·.1)).Nodup) : ((L2.putK kvs k v).map (·.1)).Nodup := by
  unfold L2.putK
  split
  · have : (kvs.map (fun kv => if kv.1 = k then (kv.1, v) else kv)).map (·.1) = kvs.map (·.1) := by
      rw [List.map_map]
      refine List.map_congr_left fun kv _ => ?_
      show (if kv.1 = k then (kv.1, v) else kv).1 = kv.1
      split <;> rfl
    rw [this]; exact nd
  · rename_i h
    rw [List.map_append, List.nodup_append]
    refine ⟨nd, by simp, fun a ha b hb => ?_⟩
    simp only [List.map_cons, List.map_nil, List.mem_singleton] at hb
    subst hb
    rintro rfl
    refine h ?_
    obtain ⟨kv, h1, h2⟩ := List.mem_map.mp ha
    exact List.any_eq_true.mpr ⟨kv, h1, by simpa using h2⟩
section
variable {W : Addr → Prop} {H : Hp}
theorem RpD.app : ∀ {l k : List P} {a b : List (Key × V)}, RpD T W H l a → RpD T W H k b → RpD T W H (l ++ k) (a ++ b)
  | [], _, _, _, h, h' => by simp only [RpD] at h; subst h; exact h'
  | x :: r, k, _, b, h, h' => by
    obtain ⟨c, d, κ', y, q, rfl, rfl, h1, h2, h3⟩ := h.cons
    have ih := RpD.app h3 h'
    simp only [List.cons_append, RpD, RpL]
    exact ⟨κ', y, _, rfl, ⟨kV κ', [y], rfl, rp_ky h1, y, [], rfl, h2, rfl⟩, ih⟩
theorem RpT.app : ∀ {l k : List P} {a b : List (List Key × V)}, RpT T W H l a → RpT T W H k b → RpT T W H (l ++ k) (a ++ b)
  | [], _, _, _, h, h' => by simp only [RpT] at h; subst h; exact h'
  | x :: r, k, _, b, h, h' => by
    obtain ⟨c, d, κ', y, q, rfl, rfl, h1, h2, h3⟩ := h.cons
    have ih := RpT.app h3 h'
    simp only [List.cons_append, RpT]
    exact ⟨κ', y, _, rfl, h1, h2, ih⟩
theorem mapT {k v : P} {κ : List Key} {u : V} (hk : kyT k = some κ) (rv : Rp T W H v u) : ∀ {l : List P} {kvs : List (List Key × V)}, RpT T W H l kvs → RpT T W H (l.map fun kv => if kEq true (keyOf kv) k then .tup [keyOf kv, v] else kv) (kvs.map fun kv => if kv.1 = κ then (kv.1, u) else kv)
  | [], _, h => by simp only [RpT] at h; subst h; simp only [List.map_nil, RpT]
  | x :: r, _, h => by
    obtain ⟨a, b, κ', y, q, rfl, rfl, h1, h2, h3⟩ := h.cons
    have ih := mapT hk rv h3
    have ek : kEq true (keyOf (.tup [a, b])) k = decide (κ' = κ) := by simp [kEq, keyOf, h1, hk]
    simp only [List.map_cons]
    rw [ek]
    by_cases e : κ' = κ
    · subst e
      simp only [decide_true, if_true, RpT, keyOf]
      exact ⟨κ', u, _, rfl, h1, rv, ih⟩
    · rw [if_neg (by simpa using e), if_neg e]
      simp only [RpT]
      exact ⟨κ', y, _, rfl, h1, h2, ih⟩
theorem mapD {k v : P} {κ : Key} {u : V} (hk : ky k = some κ) (rv : Rp T W H v u) : ∀ {l : List P} {kvs : List (Key × V)}, RpD T W H l kvs → RpD T W H (l.map fun kv => if kEq false (keyOf kv) k then .tup [keyOf kv, v] else kv) (kvs.map fun kv => if kv.1 = κ then (kv.1, u) else kv)
  | [], _, h => by simp only [RpD] at h; subst h; simp only [List.map_nil, RpD]
  | x :: r, _, h => by
    obtain ⟨a, b, κ', y, q, rfl, rfl, h1, h2, h3⟩ := h.cons
    have ih := mapD hk rv h3
    have ek : kEq false (keyOf (.tup [a, b])) k = decide (κ' = κ) := by simp [kEq, keyOf, h1, hk]
    simp only [List.map_cons]
    rw [ek]
    by_cases e : κ' = κ
    · subst e
      simp only [decide_true, if_true, RpD, RpL, keyOf]
      exact ⟨κ', u, _, rfl, ⟨kV κ', [u], rfl, rp_ky h1, u, [], rfl, rv, rfl⟩, ih⟩
    · rw [if_neg (by simpa using e), if_neg e]
      simp only [RpD, RpL]
      exact ⟨κ', y, _, rfl, ⟨kV κ', [y], rfl, rp_ky h1, y, [], rfl, h2, rfl⟩, ih⟩
theorem putD {k v : P} {κ : Key} {u : V} (hk : ky k = some κ) (rv : Rp T W H v u) {l : List P} {kvs : List (Key × V)} (h : RpD T W H l kvs) : RpD T W H (putK false l k v) (L2.putK kvs κ u) := by
  rw [putK_get, (findD hk h).isSome]
  unfold putK
  split
  · exact mapD hk rv h
  · exact h.app (by simp only [RpD, RpL]; exact ⟨κ, u, [], rfl, ⟨kV κ, [u], rfl, rp_ky hk, u, [], rfl, rv, rfl⟩, rfl⟩)
theorem putT {k v : P} {κ : List Key} {u : V} (hk : kyT k = some κ) (rv : Rp T W H v u) {l : List P} {kvs : List (List Key × V)} (h : RpT T W H l kvs) : RpT T W H (putK true l k v) (L2.putK kvs κ u) := by
  rw [putK_get, (findT hk h).isSome]
  unfold putK
  split
  · exact mapT hk rv h
  · exact h.app (by simp only [RpT]; exact ⟨κ, u, [], rfl, hk, rv, rfl⟩)
end
end Lot
/-! LotL: stores, loops, data made of an object. -/
namespace Lot
open PySem PySem.Spec PyProof.Rows L2
variable {T : Tb} {X : Cx}
theorem rdl2 {α : Al} {W : Addr → Prop} {H : Hp} {ds : List D} {vs : List V} (h : RDL T α W H ds vs) : vs.length = ds.length := by
  induction ds generalizing vs with
  | nil => have h : vs = [] := h; subst h; rfl
  | cons d ds ih => obtain ⟨v, r, rfl, _, h2⟩ := h; simp [ih h2]
theorem s_par {i j : Nat} {x y : Str} {a b : Expr} {fs : Env → Mem → Out (List D)} {px py pt : Pos} {kt k2 pt2} {pos : Pos} (hX : CxOk T X) (hi : X.N[i]? = some x) (hj : X.N[j]? = some y) (hij : i ≠ j)
    (hx : X.env.scope.names.lookup x = some .local) (hy : X.env.scope.names.lookup y = some .local) (ha : PA X [a, b] (tL T fs))
    (hw : swappedStores [.Tuple [.Name x px, .Name y py] kt pt] (.Tuple [a, b] k2 pt2) X.env = pure (some [x, y]))
    (hs : swapsWithSole [.Tuple [.Name x px, .Name y py] kt pt] (.Tuple [a, b] k2 pt2) pos.line X.env = pure false) :
    PS X (.Assign [.Tuple [.Name x px, .Name y py] kt pt] (.Tuple [a, b] k2 pt2) pos) (tS T (parO [i, j] fs)) :=
  PS.weak (ps_par hX.calm hX.nd hi hj hij hx hy ha hw hs) fun D σ H ⟨α, W, ρ, m, hr, hs, h⟩ => ⟨α, W, ρ, m, hr, hs, h.bind.mono fun ds m1 α1 W1 H1 e1 hr1 h1 vs rvs => by
    split at h1
    · rename_i hl
      match ds, hl with
      | [d, e], _ =>
        obtain ⟨v, r, rfl, rv, u, r', rfl, ru, rfl⟩ := rvs
        exact ⟨v, u, rfl, h1.here hr1 _ (((hs.ext e1).set i rv).set j ru)⟩
    · exact h1.elim⟩
theorem s_par3 {i j l : Nat} {x y z : Str} {a b c : Expr} {fs : Env → Mem → Out (List D)} {px py pz pt : Pos} {kt k2 pt2} {pos : Pos} (hX : CxOk T X) (hi : X.N[i]? = some x) (hj : X.N[j]? = some y) (hl : X.N[l]? = some z) (hij : i ≠ j) (hil : i ≠ l) (hjl : j ≠ l)
    (hx : X.env.scope.names.lookup x = some .local) (hy : X.env.scope.names.lookup y = some .local) (hz : X.env.scope.names.lookup z = some .local) (ha : PA X [a, b, c] (tL T fs))
    (hw : swappedStores [.Tuple [.Name x px, .Name y py, .Name z pz] kt pt] (.Tuple [a, b, c] k2 pt2) X.env = pure (some [x, y, z]))
    (hs : swapsWithSole [.Tuple [.Name x px, .Name y py, .Name z pz] kt pt] (.Tuple [a, b, c] k2 pt2) pos.line X.env = pure false) :
    PS X (.Assign [.Tuple [.Name x px, .Name y py, .Name z pz] kt pt] (.Tuple [a, b, c] k2 pt2) pos) (tS T (parO [i, j, l] fs)) :=
  PS.weak (ps_par3 hX.calm hX.nd hi hj hl hij hil hjl hx hy hz ha hw hs) fun D σ H ⟨α, W, ρ, m, hr, hs, h⟩ => ⟨α, W, ρ, m, hr, hs, h.bind.mono fun ds m1 α1 W1 H1 e1 hr1 h1 vs rvs => by
    split at h1
    · rename_i hl
      match ds, hl with
      | [d, e, g], _ =>
        obtain ⟨v, r, rfl, rv, u, r', rfl, ru, w, r'', rfl, rw', rfl⟩ := rvs
        exact ⟨v, u, w, rfl, h1.here hr1 _ ((((hs.ext e1).set i rv).set j ru).set l rw')⟩
    · exact h1.elim⟩
def tGsD (T : Tb) (is : List Nat) : TGs := fun vs σ H Q => ∃ α W ρ m ds, HR T α W H m ∧ RS T α W H ρ σ ∧ RDL T α W H ds vs ∧ is.length = ds.length ∧ ∀ σ', RS T α W H (setAllD ρ is ds) σ' → Q σ' H
theorem g_nmsD_nil : PGs X [] (tGsD T []) := PGs.weak pgs_nil fun v σ H Q ⟨α, W, ρ, m, ds, hr, hs, r, e, q⟩ => by
  have : ds = [] := List.length_eq_zero_iff.mp e.symm
  subst this
  exact ⟨r, q _ hs⟩
theorem g_nmsD_cons {i : Nat} {is : List Nat} {x : Str} {pos : Pos} {es : List Expr} (hN : X.N.Nodup) (hi : X.N[i]? = some x) (hx : Loc X.env.scope x) (hf : X.fn x = true ∨ X.env.scope.names.lookup x = some .local) (h : PGs X es (tGsD T is)) (hs : (assignEach (.Name x pos :: es) X.env).map (·.2) = assign (.Name x pos) X.env :: (assignEach es X.env).map (·.2)) : PGs X (.Name x pos :: es) (tGsD T (i :: is)) :=
  PGs.weak (pgs_cons (pg_name hN hi hx hf) h hs) fun v σ H Q ⟨α, W, ρ, m, ds, hr, hs, r, e, q⟩ => by
    cases ds with
    | nil => cases e
    | cons y ys =>
      obtain ⟨u, r', rfl, h1, h2⟩ := r
      exact ⟨u, r', rfl, α, W, ρ.set i (some y), m, ys, hr, hs.set i h1, h2, by simpa using e, q⟩
theorem s_parT {ts es : List Expr} {k k2 : Nat} {is : List Nat} {fs : Env → Mem → Out (List D)} {pos pos' pos2 : Pos} (hX : CxOk T X) (ha : PA X es (tL T fs)) (h : PGs X ts (tGsD T is)) (hn : (assignEach ts X.env).length = is.length) (hst : (assignEach ts X.env).findIdx? (·.1) = none)
    (hs : swapsWithSole [.Tuple ts k pos'] (.Tuple es k2 pos2) pos.line X.env = pure false) (hw : swappedStores [.Tuple ts k pos'] (.Tuple es k2 pos2) X.env = pure none) (h1 : (assignEach [.Tuple ts k pos'] X.env).map (·.2) = [assign (.Tuple ts k pos') X.env]) :
    PS X (.Assign [.Tuple ts k pos'] (.Tuple es k2 pos2) pos) (tS T (parO is fs)) :=
  PS.weak (ps_asg (pe_tup ha) (pg_tup hX.calm h hn hst) hs hw h1) fun D σ H ⟨α, W, ρ, m, hr, hs, h⟩ => ⟨α, W, ρ, m, hr, hs, h.bind.mono fun ds m1 α1 W1 H1 e1 hr1 h1 vs rvs => by
    split at h1
    · rename_i hl
      refine ⟨by rw [rdl2 rvs]; exact Nat.le_trans hl.2 (by decide), fun p hp => ?_⟩
      refine ⟨p, vs, rfl, .inl (.inl upd_same), by rw [rdl2 rvs, hl.1], α1, W1, ρ, m1, ds, hr1.new hp, (hs.ext e1).ext (.new hp), RDL.ext (.new hp) _ _ rvs, hl.1, fun σ' hs' => h1 _ _ _ (.new hp) (hr1.new hp) σ' hs'⟩
    · exact h1.elim⟩
/-- o[i] = v, a list or a dict -/
def rSetA : V → V → V → Hp → (Hp → Prop) → Prop := fun o i v H Q => rSetL o i v H Q ∨ ∃ a H', o = .ref a ∧ DPut H a i v H' ∧ Q H'
theorem set_any (hX : CxOk T X) : PSet X rSetA := by
  intro pins s σ H o i v ov iv u Q I ro ri rv h
  rcases h with h | ⟨a, H', rfl, g, q⟩
  · exact set_list pins s σ H o i v ov iv u Q I ro ri rv h
  · obtain rfl : ov = Value.ref a := ro
    exact d_setItem (Nat.lt_of_le_of_lt (Nat.add_le_add_left (by decide) _) hX.hu) I g ri rv fun s4 I4 => ⟨H', I4, q⟩
theorem RpD.len {W : Addr → Prop} {H : Hp} : ∀ {l : List P} {a : List (Key × V)}, RpD T W H l a → a.length = l.length
  | [], _, h => by simp only [RpD] at h; subst h; rfl
  | x :: r, _, h => by
    obtain ⟨c, d, κ', y, q, rfl, rfl, h1, h2, h3⟩ := h.cons
    simp [RpD.len h3]
theorem RpT.len {W : Addr → Prop} {H : Hp} : ∀ {l : List P} {a : List (List Key × V)}, RpT T W H l a → a.length = l.length
  | [], _, h => by simp only [RpT] at h; subst h; rfl
  | x :: r, _, h => by
    obtain ⟨c, d, κ', y, q, rfl, rfl, h1, h2, h3⟩ := h.cons
    simp [RpT.len h3]
theorem set_red (hX : CxOk T X) {α : Al} {W : Addr → Prop} {H : Hp} {m : Mem} {d k v : D} {o i u : V} {Q : Hp → Prop} (hr : HR T α W H m) (rd' : RD T α W H d o) (rk : RD T α W H k i) (rv : RD T α W H v u)
    (h : Hg T α W H (setixO d k v m) fun _ _ _ _ H' => Q H') : rSetA o i u H Q := by
  unfold setixO at h
  split at h
  · rename_i n j pk pv
    obtain ⟨a, ha, rfl⟩ := rd'
    split at h
    · rename_i l i' ec
      split at h
      · rename_i q eq
        obtain ⟨b, hb, hw, hA⟩ := hr.cel n j _ ec
        rw [ha] at hb; cases hb
        obtain ⟨xs, h1, h2⟩ := hA
        have ei : i = .int i' := int_of rk
        subst ei
        refine .inl ⟨a, xs, i', q, rfl, rfl, h1, by rw [← ixN_eq, h2.len]; exact eq, ?_⟩
        have e : Ext α W H α W (upd H a (.lst (xs.set q u))) := ⟨fun _ _ _ h => h, fun b o' h q => ⟨by rw [upd_ne (fun z => h (by rw [z]; exact hw))]; exact q, h⟩⟩
        obtain ⟨e1, hr1⟩ := hr.write (y := .lst (l.set q pv)) ec ha (o := .lst (xs.set q u)) ⟨_, upd_same, RpL.ext e _ _ (RpL.set q h2 rv)⟩
        exact h _ _ _ e1 hr1
      · exact h.elim
    · rename_i pk _ _ t l ec
      split at h
      · rename_i hk
        rw [Bool.and_eq_true] at hk
        obtain ⟨hk, hl⟩ := hk
        have hl := of_decide_eq_true hl
        obtain ⟨b, hb, hw, hA⟩ := hr.cel n j _ ec
        rw [ha] at hb; cases hb
        cases t with
        | false =>
          obtain ⟨kvs, h1, nd, h2⟩ := hA
          have ok' : (ky pk).isSome = true := by simpa [kOk] using hk
          obtain ⟨κ, e⟩ := Option.isSome_iff_exists.mp ok'
          have eu : i = kV κ := by
            have rk : Rp T W H pk i := rk
            have h3 : Rp T W H pk (kV κ) := rp_ky e
            cases pk <;> first | cases e | skip
            all_goals (simp only [Rp] at rk; subst rk; rfl)
          subst eu
          refine .inr ⟨a, _, rfl, DPut.k h1 (by rw [h2.len, ← line_eq]; exact hl), ?_⟩
          have e' : Ext α W H α W (upd H a (.dK (L2.putK kvs κ u))) := ⟨fun _ _ _ h => h, fun b o' h q => ⟨by rw [upd_ne (fun z => h (by rw [z]; exact hw))]; exact q, h⟩⟩
          obtain ⟨e1, hr1⟩ := hr.write (y := .dic false (putK false l pk pv)) ec ha (o := .dK (L2.putK kvs κ u)) ⟨_, upd_same, putK_keys kvs κ u nd, RpD.ext e' _ _ (putD e rv h2)⟩
          exact h _ _ _ e1 hr1
        | true =>
          obtain ⟨kvs, h1, nd, h2⟩ := hA
          have ok' : (kyT pk).isSome = true := by simpa [kOk] using hk
          obtain ⟨κ, e⟩ := Option.isSome_iff_exists.mp ok'
          obtain ⟨b, rfl, h3⟩ := kyT_rp e rk
          refine .inr ⟨a, _, rfl, DPut.t h1 h3 (by rw [h2.len, ← line_eq]; exact hl), ?_⟩
          have e' : Ext α W H α W (upd H a (.dT (L2.putK kvs κ u))) := ⟨fun _ _ _ h => h, fun b o' h q => ⟨by rw [upd_ne (fun z => h (by rw [z]; exact hw))]; exact q, h⟩⟩
          obtain ⟨e1, hr1⟩ := hr.write (y := .dic true (putK true l pk pv)) ec ha (o := .dT (L2.putK kvs κ u)) ⟨_, upd_same, putK_keys kvs κ u nd, RpT.ext e' _ _ (putT e rv h2)⟩
          exact h _ _ _ e1 hr1
      · exact h.elim
    · exact h.elim
  · exact h.elim
theorem s_setix {o i e : Expr} {fo fi fe : Ev} {pos pos' : Pos} (hX : CxOk T X) (he : PE X e (tD T fe)) (ho : PE X o (tD T fo)) (hi : PE X i (tD T fi))
    (ha : ∀ v, assign (.Subscript o i pos') X.env v = (do
      let ov ← holding [v] (eval o X.env)
      let iv ← holding [v, ov] (eval i X.env)
      standAt pos'
      holding [v, ov, iv] (setItem ov iv v)
      release [v, ov, iv] []))
    (hs : swapsWithSole [.Subscript o i pos'] e pos.line X.env = pure false) (hw : swappedStores [.Subscript o i pos'] e X.env = pure none) (h1 : (assignEach [.Subscript o i pos'] X.env).map (·.2) = [assign (.Subscript o i pos') X.env]) :
    PS X (.Assign [.Subscript o i pos'] e pos) (tS T fun ρ m => (fe ρ m).bind fun v m1 => (fo ρ m1).bind fun d m2 => (fi ρ m2).bind fun k m3 => (setixO d k v m3).bind fun _ m4 => .ok (.nx ρ) m4) :=
  PS.weak (ps_asg he (pg_sub ho hi (set_any hX) ha) hs hw h1) fun D σ H ⟨α, W, ρ, m, hr, hs, h⟩ => ⟨α, W, ρ, m, hr, hs, h.bind.mono fun v m1 α1 W1 H1 e1 hr1 h1 x rx =>
    ⟨α1, W1, ρ, m1, hr1, hs.ext e1, h1.bind.mono fun d m2 α2 W2 H2 e2 hr2 h2 y ry => ⟨α2, W2, ρ, m2, hr2, (hs.ext e1).ext e2, h2.bind.mono fun k m3 α3 W3 H3 e3 hr3 h3 z rz =>
      set_red hX hr3 (ry.ext e3) rz ((rx.ext e2).ext e3) (h3.bind.mono fun _ m4 α4 W4 H4 e4 hr4 h4 => h4.here hr4 σ ((((hs.ext e1).ext e2).ext e3).ext e4))⟩⟩⟩
/-! ### loops -/
theorem forL_nil {g : Mem → Bool} {step : P → Env → Mem → Out Fl} {ρ : Env} {m : Mem} : forL g step [] ρ m = if g m then .ok (.nx ρ) m else .bad := rfl
theorem s_aug {i : Nat} {x : Str} {e : Expr} {fe : Ev} {pos pos' : Pos} {op : BOp} {o : Operator} {g : Int → Int → Int} (hN : X.N.Nodup) (hi : X.N[i]? = some x) (hx : Loc X.env.scope x) (he : PE X e (tD T fe)) (ho : PIp X o (ipI g)) (hg : ∀ a b r, binP op (.int a) (.int b) = some r → r = .int (g a b)) (hf : X.fn x = true ∨ X.env.scope.names.lookup x = some .local) :
    PS X (.AugAssign (.Name x pos') o e pos) (tS T (augO i op fe)) :=
  PS.weak (ps_aug hN hi hx he ho hf) fun D σ H ⟨α, W, ρ, m, hr, hs, h⟩ => by
    unfold augO at h
    cases q : (ρ[i]?).bind id with
    | none => rw [q] at h; exact h.elim
    | some d =>
      rw [q] at h
      obtain ⟨o, e1, e2⟩ := Option.bind_eq_some_iff.mp q
      have e3 : o = some d := e2
      subst e3
      obtain ⟨v, h1, h2⟩ := hs.2 i _ e1
      refine ⟨v, h1, α, W, ρ, m, hr, hs, h.bind.mono fun y m1 α1 W1 H1 ex hr1 h3 u ru => ?_⟩
      split at h3
      · rename_i a b
        cases er : binP op (.int a) (.int b) with
        | none => rw [er] at h3; exact h3.elim
        | some r =>
          rw [er] at h3
          have := hg a b r er
          subst this
          exact ⟨a, b, int_of h2, int_of ru, h3.here hr1 _ ((hs.ext ex).set i (by show Rp T W1 H1 _ _; simp only [Rp]))⟩
      · exact h3.elim
theorem s_for {tg iter : Expr} {body : List Stmt} {vs : List Nat} {b : P → Env → Option Env} {fi : Env → Mem → Out (List P × (Mem → Bool))} {f : Es} {pos : Pos} (hX : CxOk T X) (hp : PassesOwn (model X.prog X.w) X.A X.env X.xe) (hi : PI X tg iter (tI T fi)) (hg : PG X tg (tG T vs b)) (hb : PSs X body (tS T f))
    (hs : ∀ x, foldedSetIterable iter X.env x = pure x) : PS X (.For tg iter body [] pos) (tS T (forO b fi f)) :=
  PS.weak (ps_for hp hX.calm hi hg hb hs) fun D σ H ⟨α, W, ρ, m, hr, hs, h⟩ => ⟨α, W, ρ, m, hr, hs, h.bind.mono fun w m1 α1 W1 H1 e1 hr1 h1 J hJ => by
    obtain ⟨xs, g⟩ := w
    dsimp only at h1 hJ
    generalize hstep : (fun (x : P) (ρ : Env) (m : Mem) => match b x ρ with
      | some ρ1 => f ρ1 m
      | none => .bad) = step at h1
    refine ⟨fun i n σ' H' => n = xs.length - i ∧ i ≤ xs.length ∧ ∃ α' W' ρ' m', Ext α1 W1 H1 α' W' H' ∧ HR T α' W' H' m' ∧ RS T α' W' H' ρ' σ' ∧ Hg T α' W' H' (forL g step (xs.drop i) ρ' m') (endS T D),
      ⟨xs.length, by simp, Nat.zero_le _, α1, W1, ρ, m1, .refl, hr1, hs.ext e1, h1⟩, ?_⟩
    rintro i n σ' H' ⟨rfl, hi, α', W', ρ', m', e2, hr2, hs2, h2⟩
    have hgd : g m' = true := by
      cases q : g m' with
      | true => rfl
      | false =>
        exfalso
        have : forL g step (xs.drop i) ρ' m' = .bad := by
          cases xs.drop i <;> · unfold forL; rw [q]; rfl
        rw [this] at h2
        exact h2
    obtain ⟨hstop, hgo⟩ := hJ α' W' H' m' e2 hr2 hgd
    by_cases hlt : i < xs.length
    · right
      have hd : xs.drop i = xs[i] :: xs.drop (i + 1) := List.drop_eq_getElem_cons hlt
      rw [hd] at h2
      unfold forL at h2
      rw [hgd, if_pos rfl] at h2
      obtain ⟨hg1, hg2⟩ := hgo i xs[i] (List.getElem?_eq_getElem hlt)
      refine ⟨hg1, fun σ' H' => ∃ α' W' ρ' m', Ext α1 W1 H1 α' W' H' ∧ HR T α' W' H' m' ∧ RS T α' W' H' ρ' σ' ∧ Hg T α' W' H' (forL g step (xs.drop (i + 1)) ρ' m') (endS T D), fun σ'' H'' q => ⟨xs.length - (i + 1), by omega, rfl, hlt, q⟩, fun x H3 yl => ?_⟩
      obtain ⟨gr, rx⟩ := hg2 x H3 yl
      have e3 : Ext α' W' H' α' W' H3 := gr.ext
      have h3 := Hg.from e3 h2
      subst hstep
      dsimp only at h3
      cases hb : b xs[i] ρ' with
      | none => rw [hb] at h3; exact h3.elim
      | some ρ1 =>
        rw [hb] at h3
        refine ⟨α', W', ρ', m', xs[i], ρ1, gr.hr hr2, hs2.ext e3, rx, hb, fun σ2 hs2 off => ⟨α', W', ρ1, m', gr.hr hr2, hs2, h3.bind.mono fun fl m4 α4 W4 H4 e4 hr4 h4 => ?_⟩⟩
        have e14 := (e2.trans e3).trans e4
        cases fl with
        | nx ρ2 => exact fun σ4 hs4 => ⟨α4, W4, ρ2, m4, e14, hr4, hs4, h4⟩
        | ct ρ2 => exact fun σ4 hs4 => ⟨α4, W4, ρ2, m4, e14, hr4, hs4, h4⟩
        | bk ρ2 => exact h4.here hr4
        | rt d => exact h4.here hr4
    · left
      have hi' : i = xs.length := by omega
      subst hi'
      rw [List.drop_length] at h2
      unfold forL at h2
      rw [hgd, if_pos rfl] at h2
      exact ⟨hstop, h2.here hr2 σ' hs2⟩⟩
theorem s_while {c : Expr} {body : List Stmt} {ft : Env → Mem → Out Bool} {f : Es} {pos : Pos} {n : Nat} (hp : PassesOwn (model X.prog X.w) X.A X.env X.xe) (hc : PT X c (tT T ft)) (hb : PSs X body (tS T f)) : PS X (.While c body [] pos) (tS T fun ρ m => whileL ft f n ρ m) :=
  PS.weak (ps_while hp hc hb) fun D σ H ⟨α, W, ρ, m, hr, hs, h⟩ => by
    refine ⟨fun n σ' H' => ∃ α' W' ρ' m', HR T α' W' H' m' ∧ RS T α' W' H' ρ' σ' ∧ Hg T α' W' H' (whileL ft f n ρ' m') (endS T D), ⟨n, α, W, ρ, m, hr, hs, h⟩, ?_⟩
    rintro n σ' H' ⟨α', W', ρ', m', hr2, hs2, h2⟩
    cases n with
    | zero => exact h2.elim
    | succ n =>
      unfold whileL at h2
      refine ⟨α', W', ρ', m', hr2, hs2, h2.bind.mono fun t m3 α3 W3 H3 e3 hr3 h3 => ?_⟩
      cases t with
      | false => exact h3.here hr3 σ' (hs2.ext e3)
      | true =>
        rw [if_pos rfl] at h3 ⊢
        refine ⟨fun σ4 H4 => ∃ α' W' ρ' m', HR T α' W' H4 m' ∧ RS T α' W' H4 ρ' σ4 ∧ Hg T α' W' H4 (whileL ft f n ρ' m') (endS T D), fun σ4 H4 q => ⟨n, Nat.lt_succ_self _, q⟩, α3, W3, ρ', m3, hr3, hs2.ext e3, h3.bind.mono fun fl m4 α4 W4 H4 e4 hr4 h4 => ?_⟩
        cases fl with
        | nx ρ2 => exact fun σ4 hs4 => ⟨α4, W4, ρ2, m4, hr4, hs4, h4⟩
        | ct ρ2 => exact fun σ4 hs4 => ⟨α4, W4, ρ2, m4, hr4, hs4, h4⟩
        | bk ρ2 => exact h4.here hr4
        | rt d => exact h4.here hr4
end Lot
/-! LotM: calls of built-ins. -/
namespace Lot
open PySem PySem.Spec PyProof.Rows L2
variable {T : Tb} {X : Cx}
theorem CallR.or {f : Value} {r1 r2 : List V → Hp → VK → Prop} (h1 : CallR X f r1) (h2 : CallR X f r2) : CallR X f (fun vs H Q => r1 vs H Q ∨ r2 vs H Q) := by
  intro pins s σ H xs us Q I r h
  rcases h with h | h
  · exact h1 pins s σ H xs us Q I r h
  · exact h2 pins s σ H xs us Q I r h
theorem CallR.weak {f : Value} {r r' : List V → Hp → VK → Prop} (h : CallR X f r) (w : ∀ vs H Q, r' vs H Q → r vs H Q) : CallR X f r' :=
  fun pins s σ H xs us Q I rr q => h pins s σ H xs us Q I rr (w _ _ _ q)
/-- what a built-in promises of the small language's values -/
def rP (T : Tb) (f : List D → Mem → Out D) : List V → Hp → VK → Prop := fun vs H Q => ∃ α W m ds, HR T α W H m ∧ RDL T α W H ds vs ∧ Hx T α W H (f ds m) Q
theorem g_prim {x : Str} {id : String} {f : List D → Mem → Out D} {e : Expr} {es : List Expr} {fs : Env → Mem → Out (List D)} {p pos : Pos} (hc : CallR X (.builtin id) (rP T f)) (hg : Gl X x) (hm : X.mg x = none) (hv : bootBuiltins x = some (.builtin id)) (ha : PA X (e :: es) (tL T fs))
    (hn : x ≠ "__name__") (hdb : (x == ("__debug__" : Str)) = false) (he : starEach (e :: es) X.env = (false, eval e X.env) :: starEach es X.env) (hpl : (backTo pos (starEach es X.env)).any (·.1) = false) : PE X (.Call (.Name x p) (e :: es) [] pos) (tX T fun ρ m => (fs ρ m).bind fun ds m1 => f ds m1) :=
  PE.weak (pe_callB hc hg hm hv ha hn hdb he hpl) fun σ H Q ⟨α, W, ρ, m, hr, hs, h⟩ => ⟨α, W, ρ, m, hr, hs, h.bind.mono fun ds m1 α1 W1 H1 e1 hr1 h1 vs rvs => ⟨α1, W1, m1, ds, hr1, rvs, h1⟩⟩
theorem g_primT {x : Str} {id : String} {f : List D → Mem → Out D} {e : Expr} {es : List Expr} {fs : Env → Mem → Out (List D)} {p pos : Pos} (hc : CallR X (.type id) (rP T f)) (hg : Gl X x) (hm : X.mg x = none) (hv : bootBuiltins x = some (.type id)) (ha : PA X (e :: es) (tL T fs))
    (hn : x ≠ "__name__") (hdb : (x == ("__debug__" : Str)) = false) (he : starEach (e :: es) X.env = (false, eval e X.env) :: starEach es X.env) (hpl : (backTo pos (starEach es X.env)).any (·.1) = false) : PE X (.Call (.Name x p) (e :: es) [] pos) (tX T fun ρ m => (fs ρ m).bind fun ds m1 => f ds m1) :=
  PE.weak (pe_callTy hc hg hm hv ha hn hdb he hpl) fun σ H Q ⟨α, W, ρ, m, hr, hs, h⟩ => ⟨α, W, ρ, m, hr, hs, h.bind.mono fun ds m1 α1 W1 H1 e1 hr1 h1 vs rvs => ⟨α1, W1, m1, ds, hr1, rvs, h1⟩⟩
/-- all data as read -/
def RcL (T : Tb) (W : Addr → Prop) (H : Hp) : List P → List V → Prop
  | [], vs => vs = []
  | y :: ys, vs => ∃ v r, vs = v :: r ∧ Rc T W H y v ∧ RcL T W H ys r
theorem rds_rc {α : Al} {W : Addr → Prop} {H : Hp} {m : Mem} (hr : HR T α W H m) : ∀ {ds : List D} {vs : List V} {ys : List P}, RDL T α W H ds vs → rds ds m = some ys → RcL T W H ys vs
  | [], vs, ys, h, e => by cases e; exact h
  | d :: ds, vs, ys, h, e => by
    obtain ⟨v, r, rfl, h1, h2⟩ := h
    unfold rds at e
    split at e
    · rename_i x xs e1 e2
      cases e
      exact ⟨v, r, rfl, rd_rc hr h1 e1, rds_rc hr h2 e2⟩
    · cases e
theorem pure_red {α : Al} {W : Addr → Prop} {H : Hp} {m : Mem} {p : Pr} {ds : List D} {vs : List V} {Q : VK} (hr : HR T α W H m) (r : RDL T α W H ds vs) (h : Hx T α W H (pureO p ds m) Q) : ∃ ys x, RcL T W H ys vs ∧ primP p ys = some x ∧ Hx T α W H (.ok (.p x) m) Q := by
  unfold pureO at h
  cases e : rds ds m with
  | none => rw [e] at h; exact (h.elim id id).elim
  | some ys =>
    rw [e] at h
    cases e2 : primP p ys with
    | none => simp only [e2] at h; exact (h.elim id id).elim
    | some x => simp only [e2] at h; exact ⟨ys, x, rds_rc hr r e, e2, h⟩
theorem rcl1 {W : Addr → Prop} {H : Hp} {y : P} {vs : List V} (h : RcL T W H [y] vs) : ∃ v, vs = [v] ∧ Rc T W H y v := by
  obtain ⟨v, r, rfl, h1, rfl⟩ := h
  exact ⟨v, rfl, h1⟩
theorem rcl2 {W : Addr → Prop} {H : Hp} {y z : P} {vs : List V} (h : RcL T W H [y, z] vs) : ∃ v u, vs = [v, u] ∧ Rc T W H y v ∧ Rc T W H z u := by
  obtain ⟨v, r, rfl, h1, u, r', rfl, h2, rfl⟩ := h
  exact ⟨v, u, rfl, h1, h2⟩
theorem seq_sq {W : Addr → Prop} {H : Hp} {y : P} {l : List P} {v : V} (h : Rc T W H y v) (e : seqOf y = some l) : ∃ a xs, v = .ref a ∧ RpL T W H l xs ∧ (SqL T.K H a xs ∨ SqT T.K H a xs) := by
  unfold seqOf at e
  split at e
  · cases e
    obtain ⟨a, xs, rfl, h1, h2⟩ := h.lst
    exact ⟨a, xs, rfl, h2, .inl (SqL.of h1)⟩
  · cases e
    obtain ⟨a, xs, rfl, h1, h2⟩ := h.tup
    exact ⟨a, xs, rfl, h2, .inr h1.sq⟩
  · cases e
/-! ### one by one -/
theorem p_len (hX : CxOk T X) : CallR X (.builtin "len") (rP T lenO) := by
  refine CallR.weak (CallR.or call_len (CallR.or call_lenD call_len_dT)) fun vs H Q ⟨α, W, m, ds, hr, r, h⟩ => ?_
  unfold lenO at h
  split at h
  · rename_i d
    obtain ⟨v, r', rfl, rv, rfl⟩ := r
    split at h
    · rename_i x ex
      cases el : lenP x with
      | none => rw [el] at h; exact (h.elim id id).elim
      | some n =>
        rw [el] at h
        have q : Q (.int n) H := h.p (by intro l; simp) .refl hr (by simp only [Rp])
        have g := rg_rg hr rv ex
        unfold lenP at el
        split at el
        · cases el
          obtain ⟨a, xs, rfl, h1, h2⟩ := (g.c (by intro l; simp)).lst
          refine .inl ⟨_, _, rfl, .inl ⟨xs, SqL.of h1, rfl⟩, ?_⟩
          rw [h2.len]; exact q
        · cases el
          obtain ⟨a, xs, rfl, h1, h2⟩ := g.tup
          refine .inl ⟨_, _, rfl, .inr ⟨xs, by rw [hX.K]; exact h1, rfl⟩, ?_⟩
          rw [h2.len]; exact q
        · split at el
          · rename_i s hl
            cases el
            obtain rfl := (g.c (by intro l; simp)).str
            exact .inl ⟨_, _, rfl, ⟨by rw [← line_eq]; exact hl, rfl⟩, q⟩
          · cases el
        · rename_i t l
          cases el
          cases t with
          | false =>
            obtain ⟨a, kvs, rfl, h1, _, h2⟩ := (g.c (by intro l; simp)).dicF
            exact .inr (.inl ⟨a, kvs, rfl, h1, by rw [h2.len]; exact q⟩)
          | true =>
            obtain ⟨a, kvs, rfl, h1, _, h2⟩ := (g.c (by intro l; simp)).dicT
            exact .inr (.inr ⟨a, kvs, rfl, h1, by rw [h2.len]; exact q⟩)
        · cases el
    · exact (h.elim id id).elim
  · exact (h.elim id id).elim
theorem one_of {p : Pr} {f : P → Option P} (h0 : primP p [] = none) (h1 : ∀ y, primP p [y] = f y) (h2 : ∀ y z r, primP p (y :: z :: r) = none) {ys : List P} {x : P} (e : primP p ys = some x) : ∃ y, ys = [y] ∧ f y = some x := by
  match ys with
  | [] => rw [h0] at e; cases e
  | [y] => exact ⟨y, rfl, by rw [← h1]; exact e⟩
  | y :: z :: r => rw [h2] at e; cases e
theorem two_of {p : Pr} {f : P → P → Option P} (h0 : primP p [] = none) (h1 : ∀ y, primP p [y] = none) (h2 : ∀ y z, primP p [y, z] = f y z) (h3 : ∀ y z w r, primP p (y :: z :: w :: r) = none) {ys : List P} {x : P} (e : primP p ys = some x) : ∃ y z, ys = [y, z] ∧ f y z = some x := by
  match ys with
  | [] => rw [h0] at e; cases e
  | [y] => rw [h1] at e; cases e
  | [y, z] => exact ⟨y, z, rfl, by rw [← h2]; exact e⟩
  | y :: z :: w :: r => rw [h3] at e; cases e
theorem p_list (hX : CxOk T X) : CallR X (.type "list") (rP T (pureO .list)) := by
  refine CallR.weak call_list_of fun vs H Q ⟨α, W, m, ds, hr, r, h⟩ => ?_
  obtain ⟨ys, x, r1, e, h⟩ := pure_red hr r h
  obtain ⟨y, rfl, e⟩ := one_of (f := fun y => (seqOf y).map P.lst) rfl (fun _ => rfl) (fun _ _ _ => rfl) e
  obtain ⟨v, rfl, rv⟩ := rcl1 r1
  have e : (seqOf y).map P.lst = some x := e
  cases el : seqOf y with
  | none => rw [el] at e; cases e
  | some l =>
    rw [el] at e
    cases e
    obtain ⟨a, xs, rfl, h2, h3⟩ := seq_sq rv el
    exact ⟨a, xs, rfl, by rw [hX.K]; exact h3, fun p hp => h.F.new hr h2 hp⟩
theorem p_tuple (hX : CxOk T X) : CallR X (.type "tuple") (rP T (pureO .tuple)) := by
  refine CallR.weak call_tuple_of fun vs H Q ⟨α, W, m, ds, hr, r, h⟩ => ?_
  obtain ⟨ys, x, r1, e, h⟩ := pure_red hr r h
  obtain ⟨y, rfl, e⟩ := one_of (f := fun y => (seqOf y).map P.tup) rfl (fun _ => rfl) (fun _ _ _ => rfl) e
  obtain ⟨v, rfl, rv⟩ := rcl1 r1
  have e : (seqOf y).map P.tup = some x := e
  cases el : seqOf y with
  | none => rw [el] at e; cases e
  | some l =>
    rw [el] at e
    cases e
    unfold seqOf at el
    rw [hX.K]
    split at el
    · cases el
      obtain ⟨a, xs, rfl, h1, h2⟩ := rv.lst
      exact ⟨a, xs, rfl, .inl ⟨SqL.of h1, fun p hp => h.tupD.newT hr h2 hp⟩⟩
    · cases el
      obtain ⟨a, xs, rfl, h1, h2⟩ := rv.tup
      exact ⟨a, xs, rfl, .inr ⟨h1.sq, h.p (by intro l; simp) .refl hr (by simp only [Rp]; exact ⟨a, xs, rfl, h1, h2⟩)⟩⟩
    · cases el
theorem ints_eq : ∀ {l : List P} {ns : List Int}, asInts l = some ns → l = ns.map P.int
  | [], _, h => by cases h; rfl
  | .int i :: r, ns, h => by
    simp only [asInts] at h
    cases e : asInts r with
    | none => rw [e] at h; cases h
    | some ms => rw [e] at h; cases h; rw [ints_eq e]; rfl
  | .non :: _, _, h | .bl _ :: _, _, h | .str _ :: _, _, h | .tup _ :: _, _, h | .lst _ :: _, _, h | .dic _ _ :: _, _, h | .set _ :: _, _, h | .ins _ _ :: _, _, h | .exc _ _ :: _, _, h => by cases h
theorem rpl_ints {W : Addr → Prop} {H : Hp} : ∀ {ns : List Int} {xs : List V}, RpL T W H (ns.map P.int) xs → xs = ns.map V.int
  | [], _, h => by simpa only [List.map_nil, RpL] using h
  | n :: ns, _, h => by
    simp only [List.map_cons, RpL, Rp] at h
    obtain ⟨v, r, rfl, rfl, h2⟩ := h
    rw [rpl_ints h2]; rfl
theorem ints_rpl {W : Addr → Prop} {H : Hp} : ∀ (ns : List Int), RpL T W H (ns.map P.int) (ns.map V.int)
  | [] => by simp only [List.map_nil, RpL]
  | n :: ns => by
    simp only [List.map_cons, RpL, Rp]
    exact ⟨_, _, rfl, rfl, ints_rpl ns⟩
theorem bools_eq : ∀ {l : List P} {ns : List Bool}, asBls l = some ns → l = ns.map P.bl
  | [], _, h => by cases h; rfl
  | .bl i :: r, ns, h => by
    simp only [asBls] at h
    cases e : asBls r with
    | none => rw [e] at h; cases h
    | some ms => rw [e] at h; cases h; rw [bools_eq e]; rfl
  | .non :: _, _, h | .int _ :: _, _, h | .str _ :: _, _, h | .tup _ :: _, _, h | .lst _ :: _, _, h | .dic _ _ :: _, _, h | .set _ :: _, _, h | .ins _ _ :: _, _, h | .exc _ _ :: _, _, h => by cases h
theorem rpl_bools {W : Addr → Prop} {H : Hp} : ∀ {ns : List Bool} {xs : List V}, RpL T W H (ns.map P.bl) xs → xs = ns.map V.bl
  | [], _, h => by simpa only [List.map_nil, RpL] using h
  | n :: ns, _, h => by
    simp only [List.map_cons, RpL, Rp] at h
    obtain ⟨v, r, rfl, rfl, h2⟩ := h
    rw [rpl_bools h2]; rfl
theorem p_int (hX : CxOk T X) : CallR X (.type "int") (rP T (pureO .int)) := by
  refine CallR.weak call_int1 fun vs H Q ⟨α, W, m, ds, hr, r, h⟩ => ?_
  obtain ⟨ys, x, r1, e, h⟩ := pure_red hr r h
  match ys, e with
  | [.bl b], e =>
    cases e
    obtain ⟨v, rfl, rv⟩ := rcl1 r1
    obtain rfl := rv.bl
    exact .inr ⟨b, rfl, h.p (by intro l; simp) .refl hr (by simp only [Rp])⟩
  | [.int i], e =>
    cases e
    obtain ⟨v, rfl, rv⟩ := rcl1 r1
    obtain rfl := rv.int
    exact .inl ⟨i, rfl, h.p (by intro l; simp) .refl hr (by simp only [Rp])⟩
theorem p_min (hX : CxOk T X) : CallR X (.builtin "min") (rP T (pureO .min)) := by
  refine CallR.weak (call_min2 hX.calm) fun vs H Q ⟨α, W, m, ds, hr, r, h⟩ => ?_
  obtain ⟨ys, x, r1, e, h⟩ := pure_red hr r h
  match ys, e with
  | [.int i, .int j], e =>
    cases e
    obtain ⟨v, u, rfl, rv, ru⟩ := rcl2 r1
    obtain rfl := rv.int
    obtain rfl := ru.int
    exact ⟨i, j, rfl, h.p (by intro l; simp) .refl hr (by simp only [Rp])⟩
theorem p_max (hX : CxOk T X) : CallR X (.builtin "max") (rP T (pureO .max)) := by
  refine CallR.weak (call_max2 hX.calm) fun vs H Q ⟨α, W, m, ds, hr, r, h⟩ => ?_
  obtain ⟨ys, x, r1, e, h⟩ := pure_red hr r h
  match ys, e with
  | [.int i, .int j], e =>
    cases e
    obtain ⟨v, u, rfl, rv, ru⟩ := rcl2 r1
    obtain rfl := rv.int
    obtain rfl := ru.int
    exact ⟨i, j, rfl, h.p (by intro l; simp) .refl hr (by simp only [Rp])⟩
theorem p_all (hX : CxOk T X) : CallR X (.builtin "all") (rP T (pureO .all)) := by
  refine CallR.weak (cr_all hX.calm) fun vs H Q ⟨α, W, m, ds, hr, r, h⟩ => ?_
  obtain ⟨ys, x, r1, e, h⟩ := pure_red hr r h
  match ys, e with
  | [.lst l], e =>
    cases eb : asBls l with
    | none => simp only [primP, eb] at e; cases e
    | some bs =>
      simp only [primP, eb] at e; cases e
      obtain ⟨v, rfl, rv⟩ := rcl1 r1
      obtain ⟨a, xs, rfl, h1, h2⟩ := rv.lst
      rw [bools_eq eb] at h2
      exact ⟨a, bs, rfl, by rw [← rpl_bools h2]; exact SqL.of h1, h.p (by intro l; simp) .refl hr (by simp only [Rp])⟩
theorem p_any (hX : CxOk T X) : CallR X (.builtin "any") (rP T (pureO .any)) := by
  refine CallR.weak (cr_any hX.calm) fun vs H Q ⟨α, W, m, ds, hr, r, h⟩ => ?_
  obtain ⟨ys, x, r1, e, h⟩ := pure_red hr r h
  match ys, e with
  | [.lst l], e =>
    cases eb : asBls l with
    | none => simp only [primP, eb] at e; cases e
    | some bs =>
      simp only [primP, eb] at e; cases e
      obtain ⟨v, rfl, rv⟩ := rcl1 r1
      obtain ⟨a, xs, rfl, h1, h2⟩ := rv.lst
      rw [bools_eq eb] at h2
      exact ⟨a, bs, rfl, by rw [← rpl_bools h2]; exact SqL.of h1, h.p (by intro l; simp) .refl hr (by simp only [Rp])⟩
theorem p_sum (hX : CxOk T X) : CallR X (.builtin "sum") (rP T (pureO .sum)) := by
  refine CallR.weak (cr_sum hX.calm) fun vs H Q ⟨α, W, m, ds, hr, r, h⟩ => ?_
  obtain ⟨ys, x, r1, e, h⟩ := pure_red hr r h
  match ys, e with
  | [.lst l], e =>
    cases eb : asInts l with
    | none => simp only [primP, eb] at e; cases e
    | some bs =>
      simp only [primP, eb] at e; cases e
      obtain ⟨v, rfl, rv⟩ := rcl1 r1
      obtain ⟨a, xs, rfl, h1, h2⟩ := rv.lst
      rw [ints_eq eb] at h2
      exact ⟨a, bs, rfl, by rw [← rpl_ints h2]; exact SqL.of h1, h.p (by intro l; simp) .refl hr (by simp only [Rp])⟩
/-! ### isinstance -/
def tyN : P → String
  | .non => "NoneType" | .bl _ => "bool" | .int _ => "int" | .str _ => "str" | .tup _ => "tuple" | .lst _ => "list" | .dic _ _ => "dict" | .set _ => "set" | .ins _ _ => "object" | .exc _ _ => "exception"
def Ty.nm : Ty → String
  | .tInt => "int" | .tStr => "str" | .tBool => "bool" | .tTup => "tuple" | .tLst => "list" | .tDic => "dict"
theorem ty_x {W : Addr → Prop} {H : Hp} {x : P} {v : V} (h : Rg T W H x v) (ht : hasTy x = true) : TyX T.K H v (.type (tyN x)) := by
  cases x with
  | non => obtain rfl := (h.c (by intro l; simp)).non; exact .base .non
  | bl b => obtain rfl := (h.c (by intro l; simp)).bl; exact .base (.bl b)
  | int b => obtain rfl := (h.c (by intro l; simp)).int; exact .base (.int b)
  | str b => obtain rfl := (h.c (by intro l; simp)).str; exact .base (.str b)
  | tup l =>
    rcases h with h | ⟨l', a, xs, e, rfl, h1, h2⟩
    · obtain ⟨a, xs, rfl, h1, h2⟩ := h.tup
      exact .base (.tup h1.2)
    · obtain ⟨o, its, n, h3, h4, _⟩ := h1
      exact .kTuple h3 h4
  | lst l => obtain ⟨a, xs, rfl, h1, h2⟩ := (h.c (by intro l; simp)).lst; exact .base (.lst h1)
  | dic t l =>
    cases t with
    | false => obtain ⟨a, xs, rfl, h1, h2⟩ := (h.c (by intro l; simp)).dicF; exact .base (.dK h1)
    | true => obtain ⟨a, xs, rfl, h1, h2⟩ := (h.c (by intro l; simp)).dicT; exact .base (.dT h1)
  | set _ => cases ht
  | ins _ _ => cases ht
  | exc _ _ => cases ht
def isTyN : Ty → String → Bool
  | .tInt, s => s == "int" || s == "bool" | .tStr, s => s == "str" | .tBool, s => s == "bool" | .tTup, s => s == "tuple" | .tLst, s => s == "list" | .tDic, s => s == "dict"
theorem isTy_n (t : Ty) (x : P) : isTy t x = isTyN t (tyN x) := by cases t <;> cases x <;> rfl
theorem kit_tab : (["NoneType", "bool", "int", "str", "tuple", "list", "dict"].all fun s => [Ty.tInt, .tStr, .tBool, .tTup, .tLst, .tDic].all fun t => decide (kitB s t.nm = some (isTyN t s))) = true := by decide +kernel
theorem kit_is {K : PySem.W.Frag} {x : P} (t : Ty) (ht : hasTy x = true) : PySem.W.kitOne K (.type (tyN x)) (.type t.nm) = some (isTy t x) := by
  rw [isTy_n]
  refine kit_ty ?_
  have h := kit_tab
  rw [List.all_eq_true] at h
  have h1 := h (tyN x) (by cases x <;> simp only [tyN] <;> first | (simp; done) | cases ht)
  rw [List.all_eq_true] at h1
  exact of_decide_eq_true (h1 t (by cases t <;> simp))
end Lot
/-! LotN: an object becomes data; a comprehension's list in a name; isinstance. -/
namespace Lot
open PySem PySem.Spec PyProof.Rows L2
variable {T : Tb} {X : Cx}
theorem live_dead {m : Mem} {n q j : Nat} (hl : n < m.length) : live (m.set n .dead) q j = true → q ≠ n ∧ live m q j = true := by
  intro h
  unfold live cell at h ⊢
  rw [getM_set hl] at h
  by_cases e : q = n
  · rw [if_pos e] at h
    simp at h
  · rw [if_neg e] at h
    exact ⟨e, h⟩
theorem cell_val {m : Mem} {n : Nat} {x : P} (h : getM m n = .val x) : cell m n 0 = some x := by unfold cell; rw [h]; rfl
theorem HR.dead {α : Al} {W : Addr → Prop} {H : Hp} {m : Mem} {n : Nat} {a : Addr} {x : P} (hr : HR T α W H m) (hc : getM m n = .val x) (ha : α n 0 = some a) : HR T α (wDn W a) H (m.set n .dead) := by
  have hcell : cell m n 0 = some x := cell_val hc
  have hl := cell_lt hcell
  have ne : ∀ q j b, live m q j = true → q ≠ n → α q j = some b → b ≠ a := fun q j b h1 h2 h3 z => by
    subst z
    exact h2 (hr.inj q j n 0 b h1 (live_cell hcell) h3 ha).1
  have e : Ext α W H α (wDn W a) H := .less fun _ z => z.1
  refine ⟨fun b h => hr.wd b h.1, fun q j h => hr.out q j (by rw [List.length_set] at h; exact h), fun q j y h => ?_, fun q c fs h => ?_, fun q j q' j' b l1 l2 => hr.inj q j q' j' b (live_dead hl l1).2 (live_dead hl l2).2, fun b o h => ?_⟩
  · obtain ⟨h1, h2⟩ := live_dead hl (live_cell h)
    have h' : cell m q j = some y := by
      unfold cell at h ⊢
      rw [getM_set hl, if_neg h1] at h
      exact h
    obtain ⟨b, h3, h4, h5⟩ := hr.cel q j y h'
    exact ⟨b, h3, ⟨h4, ne q j b h2 h1 h3⟩, h5.ext e fun _ z => z⟩
  · rw [getM_set hl] at h
    by_cases z : q = n
    · rw [if_pos z] at h; cases h
    · rw [if_neg z] at h
      obtain ⟨b, h3, h4, h5⟩ := hr.ins q c fs h
      exact ⟨b, h3, ⟨h4, ne q 0 b (live_ins h) z h3⟩, h5.ext e (fun _ z => z) fun _ _ z => z⟩
  · obtain ⟨h1, h2, h3⟩ := hr.gho b o h
    exact ⟨⟨h1, fun z => by subst z; exact h3 n 0 (live_cell hcell) ha⟩, h2, fun q j l => h3 q j (live_dead hl l).2⟩
theorem g_frz {e : Expr} {f : Ev} (he : PE X e (tD T f)) : PE X e (tD T (frzO f)) := PE.weak he fun σ H Q ⟨α, W, ρ, m, hr, hs, h⟩ => ⟨α, W, ρ, m, hr, hs, h.bind.mono fun d m1 α1 W1 H1 e1 hr1 h1 v rv => by
  split at h1
  · rename_i n
    obtain ⟨a, ha, rfl⟩ := rv
    split at h1
    · rename_i l hc
      obtain ⟨b, hb, hw, xs, h3, h4⟩ := hr1.cel n 0 _ (cell_val hc)
      rw [ha] at hb; cases hb
      refine h1 α1 (wDn W1 a) H1 (.less fun _ z => z.1) (hr1.dead hc ha) (.ref a) ?_
      show Rp T _ H1 (.lst l) (.ref a)
      simp only [Rp]
      exact ⟨a, xs, rfl, fun z => z.2 rfl, h3, RpL.ext (α := α1) (α' := α1) (.less fun _ z => z.1) _ _ h4⟩
    · rename_i t l hc
      obtain ⟨b, hb, hw, hA⟩ := hr1.cel n 0 _ (cell_val hc)
      rw [ha] at hb; cases hb
      refine h1 α1 (wDn W1 a) H1 (.less fun _ z => z.1) (hr1.dead hc ha) (.ref a) ?_
      show Rp T _ H1 (.dic t l) (.ref a)
      cases t with
      | false =>
        obtain ⟨kvs, h3, nd, h4⟩ := hA
        simp only [Rp]
        exact ⟨a, kvs, rfl, fun z => z.2 rfl, h3, nd, RpD.ext (α := α1) (α' := α1) (.less fun _ z => z.1) _ _ h4⟩
      | true =>
        obtain ⟨kvs, h3, nd, h4⟩ := hA
        simp only [Rp]
        exact ⟨a, kvs, rfl, fun z => z.2 rfl, h3, nd, RpT.ext (α := α1) (α' := α1) (.less fun _ z => z.1) _ _ h4⟩
    · exact h1.elim
  · exact h1.elim⟩
section
variable {elt tg iter : Expr} {ifs : List Expr} {scope : Scope} {own : List (Str × Nat)} {pos spos py : Pos} {fi : Env → Mem → Out (List P × (Mem → Bool))} {b : P → Env → Option Env} {fifs : Env → Mem → Out Bool} {fe : Ev} {i : Nat} {y : Str}
/-- y = [..] on one line -/
theorem s_setLc (al : Bool) (hX : CxOk T X) (hy : X.N[i]? = some y) (hyl : X.env.scope.names.lookup y = some .local) (hsw : swapsWith (.ListComp elt [⟨tg, iter, ifs, 0⟩] scope pos) (some (.Name y py)) spos.line X.env = pure true)
    (hi : PI X tg iter (tI T fi)) (ok : BlkOk X.N X.env.scope scope own)
    (hg : ∀ gh (s : Shared) (H : Hp) (C : Addr) (cl : List (Str × Addr)) (fp : List Addr), PG (X.blk s H scope (compEnvC scope cl C X.env) fp) tg (tG (T.g gh) (own.map (·.2)) b))
    (ht : ∀ gh (s : Shared) (H : Hp) (C : Addr) (cl : List (Str × Addr)) (fp : List Addr), PTs (X.blk s H scope (compEnvC scope cl C X.env) fp) ifs (tT (T.g gh) fifs))
    (he : ∀ gh (s : Shared) (H : Hp) (C : Addr) (cl : List (Str × Addr)) (fp : List Addr), PE (X.blk s H scope (compEnvC scope cl C X.env) fp) elt (tD (T.g gh) fe)) (hs : ∀ x, foldedSetIterable iter X.env x = pure x) :
    PS X (.Assign [.Name y py] (.ListComp elt [⟨tg, iter, ifs, 0⟩] scope pos) spos) (tS T (setO i (allocO al (lcO (own.map (·.2)) b fi fifs fe)))) :=
  PS.weak (ps_setLc hX.calm hX.nd hy hyl hsw hi ok (fun s H C cl fp => PG.anyG fun gh => hg gh s H C cl fp) (fun s H C cl fp => PTs.anyG fun gh => ht gh s H C cl fp) (fun s H C cl fp => PE.anyG fun gh => he gh s H C cl fp) hs) fun D σ H ⟨α, W, ρ, m, hr, hs, h⟩ =>
    lc_red (tX_al (al := al) ⟨α, W, ρ, m, hr, hs, h.bind.mono fun d m1 α1 W1 H1 e1 hr1 h1 v rv => h1.here hr1 _ ((hs.ext e1).set i rv)⟩)
end
/-! ### isinstance -/
theorem g_isi1 {e : Expr} {fe : Ev} {p pt pos : Pos} {t : Ty} {n : Str} (hX : CxOk T X) (he : PE X e (tD T fe)) (hg : Gl X "isinstance") (hm : X.mg "isinstance" = none) (hn : Gl X n) (hmn : X.mg n = none) (hb : bootBuiltins n = some (.type t.nm)) (hne : n ≠ "__name__") (hdb : (n == ("__debug__" : Str)) = false)
    (h1 : starEach (e :: [.Name n pt]) X.env = (false, eval e X.env) :: starEach [.Name n pt] X.env) (h2 : starEach [.Name n pt] X.env = (false, eval (.Name n pt) X.env) :: starEach [] X.env) (hpl : (backTo pos (starEach [.Name n pt] X.env)).any (·.1) = false) :
    PE X (.Call (.Name "isinstance" p) [e, .Name n pt] [] pos) (tD T fun ρ m => (fe ρ m).bind fun d m1 => isiO [t] d m1) :=
  PE.weak (pe_callB (id := "isinstance") call_isi hg hm (by decide +kernel) (pa_cons he (pa_cons (pe_bltn (v := .ty t.nm) hn hmn hb rfl hne hdb) pa_nil h2) h1) (by decide) (by decide) h1 hpl) fun σ H Q ⟨α, W, ρ, m, hr, hs, h⟩ => ⟨α, W, ρ, m, hr, hs, h.bind.mono fun d m1 α1 W1 H1 e1 hr1 h1 v rv => by
    unfold isiO at h1
    split at h1
    · rename_i x ex
      split at h1
      · rename_i ht
        have g := ty_x (rg_rg hr1 rv ex) ht
        rw [← hX.K] at g
        exact ⟨v, .ty t.nm, _, _, isTy t x, rfl, .ty _, g, kit_is t ht, h1.here hr1 _ (by show Rp T W1 H1 _ _; simp only [Rp, List.any_cons, List.any_nil, Bool.or_false])⟩
      · exact h1.elim
    · exact h1.elim⟩
theorem g_isi2 {e : Expr} {fe : Ev} {p pt pt2 pu pos : Pos} {k : Nat} {t t2 : Ty} {n n2 : Str} (hX : CxOk T X) (he : PE X e (tD T fe)) (hg : Gl X "isinstance") (hm : X.mg "isinstance" = none) (hn : Gl X n) (hmn : X.mg n = none) (hb : bootBuiltins n = some (.type t.nm)) (hne : n ≠ "__name__") (hdb : (n == ("__debug__" : Str)) = false)
    (hn2 : Gl X n2) (hmn2 : X.mg n2 = none) (hb2 : bootBuiltins n2 = some (.type t2.nm)) (hne2 : n2 ≠ "__name__") (hdb2 : (n2 == ("__debug__" : Str)) = false)
    (h1 : starEach (e :: [.Tuple [.Name n pt, .Name n2 pt2] k pu]) X.env = (false, eval e X.env) :: starEach [.Tuple [.Name n pt, .Name n2 pt2] k pu] X.env) (h2 : starEach [.Tuple [.Name n pt, .Name n2 pt2] k pu] X.env = (false, eval (.Tuple [.Name n pt, .Name n2 pt2] k pu) X.env) :: starEach [] X.env)
    (h3 : starEach (.Name n pt :: [.Name n2 pt2]) X.env = (false, eval (.Name n pt) X.env) :: starEach [.Name n2 pt2] X.env) (h4 : starEach [.Name n2 pt2] X.env = (false, eval (.Name n2 pt2) X.env) :: starEach [] X.env) (hpl : (backTo pos (starEach [.Tuple [.Name n pt, .Name n2 pt2] k pu] X.env)).any (·.1) = false) :
    PE X (.Call (.Name "isinstance" p) [e, .Tuple [.Name n pt, .Name n2 pt2] k pu] [] pos) (tD T fun ρ m => (fe ρ m).bind fun d m1 => isiO [t, t2] d m1) :=
  PE.weak (pe_callB (id := "isinstance") call_isiT hg hm (by decide +kernel) (pa_cons he (pa_cons (pe_tup (pa_cons (pe_bltn (v := .ty t.nm) hn hmn hb rfl hne hdb) (pa_cons (pe_bltn (v := .ty t2.nm) hn2 hmn2 hb2 rfl hne2 hdb2) pa_nil h4) h3)) pa_nil h2) h1) (by decide) (by decide) h1 hpl) fun σ H Q ⟨α, W, ρ, m, hr, hs, h⟩ => ⟨α, W, ρ, m, hr, hs, h.bind.mono fun d m1 α1 W1 H1 e1 hr1 h1 v rv => by
    unfold isiO at h1
    split at h1
    · rename_i x ex
      split at h1
      · rename_i ht
        refine ⟨by show 2 ≤ sizeLine; decide, fun tp htp => ?_⟩
        have e2 : Ext α1 W1 H1 α1 W1 (upd H1 tp (.tup [.ty t.nm, .ty t2.nm])) := .new htp
        have hr2 := hr1.new (o := .tup [.ty t.nm, .ty t2.nm]) htp
        have g := ty_x (rg_rg hr2 (rv.ext e2) ex) ht
        rw [← hX.K] at g
        refine ⟨v, tp, [.ty t.nm, .ty t2.nm], _, [.type t.nm, .type t2.nm], isTy t x || isTy t2 x, rfl, upd_same, .cons (.ty _) (.cons (.ty _) .nil), g, ?_, h1 _ _ _ e2 hr2 _ (by show Rp T W1 _ _ _; simp only [Rp, List.any_cons, List.any_nil, Bool.or_false])⟩
        refine kitAny_cons (b := isTy t x) (kit_is t ht) (fun z => kitAny_cons (b := isTy t2 x) (kit_is t2 ht) (fun z2 => by rw [z, z2]; rfl) fun z2 => by rw [z, z2]; rfl) fun z => by rw [z]; rfl
      · exact h1.elim
    · exact h1.elim⟩
end Lot
/-! LotO: what holds of any expression's form. -/
namespace Lot
open PySem PySem.Spec PyProof.Rows L2
variable {T : Tb} {X : Cx}
def noStar : Expr → Bool
  | .Starred .. => false
  | _ => true
def noComp : Expr → Bool
  | .ListComp .. => false
  | .SetComp .. => false
  | .DictComp .. => false
  | _ => true
def noSet : Expr → Bool
  | .Set .. => false
  | _ => true
def noSlice : Expr → Bool
  | .Slice .. => false
  | _ => true
def noCall : Expr → Bool
  | .Call .. => false
  | _ => true
def isTup : Expr → Bool
  | .Tuple .. => true
  | .List .. => true
  | _ => false
/-- truth asked of the value -/
def plainT : Expr → Bool
  | .UnaryOp .Not .. => false
  | .BoolOp .. => false
  | .IfExp .. => false
  | .Compare .. => false
  | _ => true
theorem star1 {e : Expr} {es : List Expr} {env : PySem.Env} (h : noStar e = true) : starEach (e :: es) env = (false, eval e env) :: starEach es env := by
  cases e <;> first | rfl | cases h
theorem star_any {env : PySem.Env} : ∀ {es : List Expr}, es.all noStar = true → (starEach es env).any (·.1) = false
  | [], _ => rfl
  | e :: es, h => by
    rw [List.all_cons, Bool.and_eq_true] at h
    rw [star1 h.1, List.any_cons, star_any h.2]
    rfl
theorem back_any {pos : Pos} : ∀ {xs : List (Bool × Sem Value)}, (backTo pos xs).any (·.1) = xs.any (·.1)
  | [] => rfl
  | (b, t) :: xs => by
    have ih := back_any (pos := pos) (xs := xs)
    unfold backTo at ih ⊢
    rw [List.map_cons, List.any_cons, List.any_cons, ih]
theorem pl_of {es : List Expr} {env : PySem.Env} {pos : Pos} (h : es.all noStar = true) : (backTo pos (starEach es env)).any (·.1) = false := by rw [back_any, star_any h]
theorem sw_no {e : Expr} {t : Option Expr} {l : Nat} {env : PySem.Env} (h : noComp e = true) : swapsWith e t l env = pure false := by
  cases e <;> first | rfl | cases h
theorem sws_no {e : Expr} {t : Expr} {l : Nat} {env : PySem.Env} (h : noComp e = true) : swapsWithSole [t] e l env = pure false := by
  unfold swapsWithSole; exact sw_no h
theorem sst_no {e t : Expr} {env : PySem.Env} (h : (isTup e && isTup t) = false) : swappedStores [t] e env = pure none := by
  cases e <;> first | rfl | skip
  all_goals (cases t <;> first | rfl | cases h)
theorem ase1 {t : Expr} {ts : List Expr} {env : PySem.Env} (h : noStar t = true) : assignEach (t :: ts) env = (false, assign t env) :: assignEach ts env := by
  cases t <;> first | rfl | cases h
theorem ase_map {t : Expr} {ts : List Expr} {env : PySem.Env} (h : noStar t = true) : (assignEach (t :: ts) env).map (·.2) = assign t env :: (assignEach ts env).map (·.2) := by rw [ase1 h]; rfl
theorem ase_len {env : PySem.Env} : ∀ {ts : List Expr}, (assignEach ts env).length = ts.length
  | [] => rfl
  | t :: ts => by
    have ih := ase_len (env := env) (ts := ts)
    cases t <;> (simp only [assignEach, List.length_cons, ih])
theorem ase_no {env : PySem.Env} : ∀ {ts : List Expr}, ts.all noStar = true → (assignEach ts env).findIdx? (·.1) = none
  | [], _ => rfl
  | t :: ts, h => by
    rw [List.all_cons, Bool.and_eq_true] at h
    rw [ase1 h.1, List.findIdx?_cons, ase_no h.2]
    rfl
theorem bim {op : CmpOp} {e : Expr} (h : noSet e = true) : behindInMarks op e = false := by
  cases e <;> first | rfl | cases h
theorem lam {o1 o2 : CmpOp} {b c : Expr} (h : noSet c = true) : lastMarks [o1, o2] [b, c] = false := by
  unfold lastMarks lastMarks; exact bim h
theorem pix {b : Expr} (h : noSlice b = true) : PlainIx b := fun o i => by
  cases b <;> first | rfl | cases h
theorem fsi {e : Expr} {env : PySem.Env} (h : noSet e = true) (x : Value) : foldedSetIterable e env x = pure x := by
  cases e <;> first | rfl | cases h
theorem atb {e : Expr} {n : Str} {env : PySem.Env} (h : noCall e = true) : attributeBase e n env (eval e env) = eval e env := by
  cases e <;> first | rfl | cases h
theorem tru {e : Expr} {env : PySem.Env} (h : plainT e = true) (whole : Sem Value) : isTrue e env whole = (do let v ← whole; standAt e.pos; holding [v] (truthy v)) := by
  cases e <;> first | rfl | cases h | skip
  rename_i op _ _
  cases op <;> first | rfl | cases h
theorem asub {o i : Expr} {pos : Pos} {env : PySem.Env} (h : noSlice i = true) (v : Value) : assign (.Subscript o i pos) env v = (do
      let ov ← holding [v] (eval o env)
      let iv ← holding [v, ov] (eval i env)
      standAt pos
      holding [v, ov, iv] (setItem ov iv v)
      release [v, ov, iv] []) := by
  cases i <;> first | rfl | cases h
end Lot
/-! LotU: exceptions as values, over the hand layer. -/
namespace PySem
namespace W
open PyProof.Rows
section
variable {prog : Program} {w : World} {A : Around} {E : Value → Shared → Prop} {s : Shared} {h₀ : Heap} {L : Addr} {m : Str → Option Value} {K : Frag} {name : Str} {v : Value} {C : Addr}
theorem method_cref {pl : Sem Bool} {Q : Value × List Value → Shared → Prop} (F : Fr h₀ L s.heap m) (X₀ : K.In h₀) (ty : typeIn K (.ref C) = some (.type "type")) (op : nsIn K cStatics "thirdparty.any" = some none)
    (e : findCls K (.ref C) (.type "type") name = some (.val v)) (hh : handedIn v = true) (h : Q (v, []) { s with toks := s.toks + 1 }) : wpAny (model prog w) A (getMethod (.ref C) name pl) Q E s := by
  have X := X₀.keeps F.keep
  have L0 : Looks (model prog w) s.heap (typeOf (.ref C)) (.type "type") := looks_typeIn X ty
  have hg : findIn K (.type "type") "__getattribute__" = some (some (.builtin "type.__getattribute__")) := type_tga
  unfold getMethod specialOf
  refine wpAny_bind (wpAny_bind (L0.here ((looks_findIn X hg).here ?_)))
  dsimp only
  rw [if_pos canon_tga]
  refine wpAny_bind (wpAny_mono (Q := fun v => Q (v, [])) (E := E) ?_ (fun _ _ z => wpAny_pure z) fun _ _ z => z)
  have LO : Looks (model prog w) s.heap (opaqueClassAbove (.ref C)) none := looks_opaque X op
  refine cls_open X LO L0 hg (looks_hook X (r := none) (by rfl)) (by show subIn K _ _ = _; rfl) e
    (wpAny_pure (by show wpAny _ _ (handedOut v) _ _ _; rw [handedOut_of hh]; exact wpAny_pure h))
end
end W
end PySem
namespace Lot
open PySem PySem.Spec PyProof.Rows L2
/-- C0.__init__(self, ..), an own class's that is ValueError's -/
theorem pe_xinit {X : Cx} {x : Str} {C0 : Addr} {e : Expr} {es : List Expr} {ta : TA} {p1 p2 pos : Pos} {pl : Sem Bool} (hg : Gl X x) (hm : X.mg x = some (.ref C0)) (ty : PySem.W.typeIn X.K (.ref C0) = some (.type "type")) (op : PySem.W.nsIn X.K cStatics "thirdparty.any" = some none)
    (vV : PySem.W.findCls X.K (.ref C0) (.type "type") "__init__" = some (.val (.builtin "ValueError.__init__"))) (hdb : (x == ("__debug__" : Str)) = false) (ha : PA X (e :: es) ta)
    (hc : eval (.Call (.Attribute (.Name x p1) "__init__" p2) (e :: es) [] pos) X.env = (do
      let ov ← eval (.Name x p1) X.env
      standAt p2.atName
      let (f, first) ← holding [ov] (getMethod ov "__init__" pl)
      callWith pos f first (backTo pos (starEach (e :: es) X.env)) (backToKw pos (keywordEach [] X.env))))
    (he : starEach (e :: es) X.env = (false, eval e X.env) :: starEach es X.env) (hpl : (backTo pos (starEach es X.env)).any (·.1) = false) :
    PE X (.Call (.Attribute (.Name x p1) "__init__" p2) (e :: es) [] pos) (tVeI X.K ta) := by
  refine ⟨fun pins s σ H Q I h => ?_⟩
  refine PySem.W.methodCall_KW (ld_glob I hg hm ?_ hdb) hc
  obtain ⟨m, fr⟩ := I.fr
  refine PySem.W.method_cref fr I.ok.mod.kin ty op vV (by decide +kernel) ?_
  show wpAny _ _ (callWith pos (Value.builtin "ValueError.__init__") [] (backTo pos (starEach (e :: es) X.env)) []) _ _ _
  refine PyProof.Rows.callWith_method1 (thn (ha.run pos pins _ σ H _ (I.tok _) h) fun us s1 ⟨vs, H1, I1, r1, a, C, ws, ev, hl, T, ea, q⟩ => ?_) he hpl
  subst ev
  cases r1 with
  | @cons _ u0 _ ur ra rw' =>
    obtain rfl : u0 = Value.ref a := ra
    have hlen : ur.length ≤ sizeLine := by
      rw [← Paired.length rw', sizeLine_eq]
      omega
    exact oinit_ok T I1 ea hlen fun s' J => ⟨.non, H1, J, rfl, q⟩
/-- C(e, ..), C's own __init__ keeping sp: the exception as a value -/
def tMkV (C : Addr) (sp : Sp) (ta : TA) : TE := fun σ H Q => ta σ H fun vs H1 => vs.length ≤ 1000 ∧ ∀ a, H1 a = none → sp (.ref a :: vs) (upd H1 a (exo a C none)) (fun v H2 => v = .non ∧ Q (.ref a) H2) (fun _ _ _ => False)
theorem pe_oexV {X : Cx} {x : Str} {C fI : Addr} {k : Nat} {fd : FuncData} {ps : List Str} {sp : Sp} {e : Expr} {es : List Expr} {ta : TA} {p pos : Pos} (T : OexC X.K C) (iC : PySem.W.findIn X.K (.ref C) "__init__" = some (some (.ref fI))) (tI : PySem.W.typeIn X.K (.ref fI) = some (.type "function"))
    (F1 : FnOk X.prog X.w X.K X.mg X.base CX0 k fI fd ps sp) (hr : Room (k + 1) X.A) (hb : Binds X.K fd ps []) (hg : Gl X x) (hm : X.mg x = some (.ref C)) (ha : PA X (e :: es) ta)
    (hdb : (x == ("__debug__" : Str)) = false) (he : starEach (e :: es) X.env = (false, eval e X.env) :: starEach es X.env) (hpl : (backTo pos (starEach es X.env)).any (·.1) = false) :
    PE X (.Call (.Name x p) (e :: es) [] pos) (tMkV C sp ta) := by
  refine ⟨fun pins s σ H Q I h => ?_⟩
  obtain ⟨nm, q, N, bs, bm, sn, sub, ab, col, dd, k0, k1, k2, k3, k5, hC, hbm⟩ := T.cls
  refine wpAny_Call_Name_kw (ld_glob I hg hm ?_ hdb)
  refine PySem.W.callWith_K (h₀ := X.base) I.ok.mod.kin T.kC (thn (ha.run pos pins s σ H _ I h) fun us s1 ⟨vs, H1, I1, r1, hz, q1⟩ => ⟨I1.kIn, ?_⟩) he hpl
  show wpAny _ _ (call (.ref C) us) _ _ _
  obtain ⟨hp, g, dr, tk, os⟩ := s1
  have hsz : hp.objs.size ≤ hp.objs.size + 1 := Nat.le_succ _
  have hn : H1 (hp.objs.size + 1) = none := I1.hok.fresh hsz
  have hq := q1 (hp.objs.size + 1) hn
  have kk : ∀ b o, hp.get? b = some o → ((hp.push (PySem.W.kdv_tup us)).push (PySem.HandSPX.excO C hp.objs.size)).get? b = some o := fun b o e => Heap.get?_push_of_some _ (Heap.get?_push_of_some _ e)
  have hget : ((hp.push (PySem.W.kdv_tup us)).push (PySem.HandSPX.excO C hp.objs.size)).get? (hp.objs.size + 1) = some (PySem.HandSPX.excO C hp.objs.size) := by heap_get
  have I2 : Inv X pins σ (upd H1 (hp.objs.size + 1) (exo (hp.objs.size + 1) C none)) ⟨(hp.push (PySem.W.kdv_tup us)).push (PySem.HandSPX.excO C hp.objs.size), g, dr, tk, os⟩ :=
    I1.laid (t' := tk) (a := hp.objs.size + 1) (o := exo (hp.objs.size + 1) C none) (h' := (hp.push (PySem.W.kdv_tup us)).push (PySem.HandSPX.excO C hp.objs.size)) kk hsz (exo_ok hget)
  have r2 : Vals (V.ref (hp.objs.size + 1) :: vs) (Value.ref (hp.objs.size + 1) :: us) := .cons rfl r1
  have hl : (Value.ref (hp.objs.size + 1) :: us).length + 0 = ps.length := by
    have e := r2.length
    rw [F1.len _ _ _ _ hq] at e
    exact e.symm
  have hus : us.length ≤ sizeLine := by
    rw [← Paired.length r1, sizeLine_eq]
    omega
  refine wpAny_call (PySem.HandSPX.call_own F.excBase_ValueError (fun Y => PySem.HandSPX.refsVE_contains Y bm hbm) (I1.kIn _ _ hC) (PySem.W.looks_findIn I1.kIn iC) (fun self => PySem.W.bind_fn I1.kIn self tI) hus
    (codeAny_mono (F1.run _ X.stack _ _ ⟨Value.ref (hp.objs.size + 1) :: us, []⟩ (Value.ref (hp.objs.size + 1) :: us) _ _ (fun _ _ _ => False) (hr.make C us []) (I2.env0.make C us []) (by have := hb _ (Value.ref (hp.objs.size + 1) :: us) I2.kIn (by simpa using hl); simpa using this) r2 hq) fun r s' hq' => ?_))
  cases r with
  | error er => exact False.elim hq'
  | ok fl =>
    cases fl with
    | ret u =>
      obtain ⟨v, H', J, rv, ev, q2⟩ := I2.after hq'
      subst ev
      exact ⟨rv, .ref (hp.objs.size + 1), H', J, rfl, q2⟩
    | next => exact False.elim hq'
    | brk => exact False.elim hq'
    | cont => exact False.elim hq'
/-- o.f of an exception that stands in the heap -/
def tXv (K : PySem.W.Frag) (f : Str) (te : TE) : TE := fun σ H Q => te σ H fun x H1 => ∃ (a C dd : Addr) (fs : List (Str × V)) (v : V), x = .ref a ∧ XfC K C ∧ PySem.W.findIn K (.ref C) f = some none ∧ H1 a = some (exo a C (some dd)) ∧ H1 dd = some (exd dd fs) ∧ fs.lookup f = some v ∧ Q v H1
theorem pe_xv {X : Cx} {e : Expr} {te : TE} {pos : Pos} {n : Str} (he : PE X e te) (hb : attributeBase e n X.env (eval e X.env) = eval e X.env) : PE X (.Attribute e n pos) (tXv X.K n te) := by
  refine ⟨fun pins s σ H Q I h => ?_⟩
  refine attr_of hb (thn (he.run pins s σ H _ I h) fun u s1 hh => ?_)
  obtain ⟨x, H1, I1, rx, a, C, dd, fs, v, rfl, T, hno, ea, ed, l, q⟩ := hh
  obtain rfl : u = Value.ref a := rx
  obtain ⟨t1, ho⟩ := exo_at I1.hok ea
  obtain ⟨mA, hns, hr⟩ := exd_at I1.hok ed
  obtain ⟨od, hod, hl⟩ := lookIn_ns hns
  obtain ⟨u, hu, ru⟩ := RelO.some_of (v := v) (o := mA n) (by rw [← l]; exact hr n)
  have J : PySem.W.InstAt s1.heap a _ C (some od) := ⟨ho, rfl, rfl, hod⟩
  exact HandSPX.exc_get I1.kIn J T.ga T.gg T.exC (PySem.W.findObj_own T.hdC hno rfl (by rw [hl, hu])) (handed_of ru) ⟨v, H1, I1.tok _, ru, q⟩
/-- what isinstance asks of an exception's class -/
structure XcI (K : PySem.W.Frag) (C : Addr) : Prop where
  hcl : (PySem.W.clsIn K C).isSome = true
  ga : PySem.W.findIn K (.ref C) "__getattribute__" = some (some (.builtin "BaseException.__getattribute__"))
  gg : PySem.W.findIn K (.ref C) "__getattr__" = some none
  sub : PySem.W.subIn K (.ref C) (.type "BaseException") = some true
  ha : PySem.W.findIn K (.ref C) "__class__" = some (some (.builtin "object.__class__"))
  hn : PySem.W.specialIn K (.builtin "object.__class__") "__get__" = some (some (.builtin "getset_descriptor.__get__"))
  htk : PySem.W.takesIn K (.builtin "object.__class__") = some true
  hm : PySem.W.mroIn K C (.type "object") = some true
/-- an exception stands at a: with its dict, or made without one -/
def ExcAt (H : Hp) (C a : Addr) : Prop := (∃ dd fs, H a = some (exo a C (some dd)) ∧ H dd = some (exd dd fs)) ∨ H a = some (ExO (.ref C) a)
def rIsx (K : PySem.W.Frag) : List V → Hp → VK → Prop := fun xs H Q => ∃ (a C : Addr) (c : V) (u : Value) (b : Bool), xs = [.ref a, c] ∧ ClsV c u ∧ ExcAt H C a ∧ XcI K C ∧ PySem.W.kitOne K (.ref C) u = some b ∧ Q (.bl b) H
theorem call_isx {X : Cx} : CallR X (.builtin "isinstance") (rIsx X.K) := by
  intro pins s σ H xs us Q I r h
  obtain ⟨a, C, c, u, b, rfl, k, hE, T, e, q⟩ := h
  obtain ⟨u1, u2, rfl, r1, r2⟩ := vals2 r
  have e2 := k.eq r2
  subst e2
  obtain rfl : u1 = Value.ref a := r1
  have key : ∃ (ox : PySem.Obj) (od : Option PySem.Obj), PySem.W.InstAt s.heap a ox C od := by
    rcases hE with ⟨dd, fs, ea, ed⟩ | ea
    · obtain ⟨t1, ho⟩ := exo_at I.hok ea
      obtain ⟨mA, hns, hr⟩ := exd_at I.hok ed
      obtain ⟨od, hod, hl⟩ := lookIn_ns hns
      exact ⟨_, some od, ho, rfl, rfl, hod⟩
    · obtain ⟨⟨oe, vs, ho, hz, hd, _⟩, _, _⟩ := I.hok a _ ea
      exact ⟨oe, none, ho, hz.1, by unfold PySem.W.notCls; rw [hd] <;> rfl, by rw [hz.2]; trivial⟩
  obtain ⟨ox, od, J⟩ := key
  exact PySem.W.kia_one (PySem.W.kitx_exc T.hcl T.ga T.gg T.sub T.ha T.hn T.htk T.hm) I.kIn J e (fun z => nomatch z) fun tk => ⟨.bl b, H, I.tok tk, rfl, q⟩
/-! ### by readings of the small language -/
variable {T : Tb} {X : Cx}
/-- an exception's class: its name, its fields where it has an __init__ of its own, the classes that it stands under (itself, too) -/
structure Xc where
  name : Str
  own : Bool
  flds : List Str
  ups : List Nat
/-- what an __init__ promises -/
def spX (T : Tb) (c : Nat) (flds : List Str) : Sp := fun vs H Q _ => ∃ a ys, vs = V.ref a :: ys ∧ ys.length = flds.length ∧ H a = some (exo a (T.ca c) none) ∧
  ∀ d H', H d = none → d ≠ a → H' a = some (exo a (T.ca c) (some d)) → H' d = some (exd d (flds.zip ys).reverse) → (∀ b, b ≠ a → b ≠ d → H' b = H b) → Q .non H'
structure XcOk (xs : List Xc) (T : Tb) (X : Cx) (c : Nat) (q : Xc) : Prop where
  mgx : X.mg q.name = some (.ref (T.ca c))
  isi : XcI T.K (T.ca c)
  sub : ∀ j q', xs[j]? = some q' → PySem.W.kitOne T.K (.ref (T.ca c)) (.ref (T.ca j)) = some (q.ups.contains j)
  ve : PySem.W.kitOne T.K (.ref (T.ca c)) (.type "ValueError") = some true
  init : q.own = true → OexC T.K (T.ca c) ∧ XfC T.K (T.ca c) ∧ q.flds.Nodup ∧ (∀ (i : Nat) f, q.flds[i]? = some f → T.fn c i = some f ∧ PySem.W.findIn T.K (.ref (T.ca c)) f = some none) ∧
    ∃ fI fd ps, PySem.W.findIn T.K (.ref (T.ca c)) "__init__" = some (some (.ref fI)) ∧ PySem.W.typeIn T.K (.ref fI) = some (.type "function") ∧ FnOk T.P T.w T.K X.mg X.base CX0 1 fI fd ps (spX T c q.flds) ∧ Binds T.K fd ps []
  plain : q.own = false → PySem.W.excIn T.K (T.ca c) PySem.HandSPX.veTail "ValueError.__new__" = true ∧ PySem.W.keepIn T.K (.ref (T.ca c)) = true
theorem HR.grown {α : Al} {W : Addr → Prop} {H H' : Hp} {m : Mem} (hr : HR T α W H m) (h : ∀ b o, H b = some o → H' b = some o) : Ext α W H α W H' ∧ HR T α W H' m := by
  have e : Ext α W H α W H' := ⟨fun _ _ _ z => z, fun a o hw q => ⟨h a o q, hw⟩⟩
  refine ⟨e, hr.keep e (fun a hw q => ?_) fun a o _ hw q => ⟨h a o q, hw⟩⟩
  cases z : H a with
  | none => exact hr.wd a hw z
  | some o => rw [h a o z] at q; cases q
theorem zip_look : ∀ {fs : List Str} {vs : List V} {i : Nat} {v : V}, fs.Nodup → fs.length = vs.length → vs[i]? = some v → ∃ f, fs[i]? = some f ∧ (fs.zip vs).reverse.lookup f = some v := by
  have app : ∀ (l : List (Str × V)) (p : Str × V) (f : Str), (l ++ [p]).lookup f = match l.lookup f with | some v => some v | none => if f = p.1 then some p.2 else none := by
    intro l
    induction l with
    | nil =>
      intro p f
      rw [List.nil_append, List.lookup_cons]
      by_cases h : f = p.1
      · subst h; simp
      · have hb : (f == p.1) = false := by simpa using h
        rw [hb]; simp [h]
    | cons q l ih =>
      intro p f
      rw [List.cons_append, List.lookup_cons, List.lookup_cons]
      split
      · rfl
      · exact ih p f
  have mem : ∀ (fs : List Str) (vs : List V) (f : Str), f ∉ fs → (fs.zip vs).reverse.lookup f = none := by
    intro fs
    induction fs with
    | nil => intro vs f _; rfl
    | cons g fs ih =>
      intro vs f h
      cases vs with
      | nil => rfl
      | cons v vs =>
        simp only [List.mem_cons, not_or] at h
        rw [List.zip_cons_cons, List.reverse_cons, app, ih vs f h.2]
        simp [h.1]
  intro fs
  induction fs with
  | nil => intro vs i v _ h e; cases vs with | nil => simp at e | cons _ _ => cases h
  | cons g fs ih =>
    intro vs i v nd h e
    cases vs with
    | nil => cases h
    | cons u vs =>
      rw [List.nodup_cons] at nd
      cases i with
      | zero =>
        simp at e
        subst e
        refine ⟨g, rfl, ?_⟩
        rw [List.zip_cons_cons, List.reverse_cons, app, mem fs vs g nd.1]
        simp
      | succ i =>
        obtain ⟨f, h1, h2⟩ := ih nd.2 (by simpa using h) (by simpa using e)
        refine ⟨f, by simpa using h1, ?_⟩
        rw [List.zip_cons_cons, List.reverse_cons, app, h2]
theorem g_mkxO {xs : List Xc} {c : Nat} {q : Xc} {e : Expr} {es : List Expr} {fs : Env → Mem → Out (List P)} {p pos : Pos} (hX : CxOk T X) (C : XcOk xs T X c q) (ho : q.own = true) (hl : q.flds.length ≤ 1000) (hr : Room 2 X.A) (hg : Gl X q.name) (ha : PA X (e :: es) (tP T fs))
    (hdb : (q.name == ("__debug__" : Str)) = false) (he : starEach (e :: es) X.env = (false, eval e X.env) :: starEach es X.env) (hpl : (backTo pos (starEach es X.env)).any (·.1) = false) :
    PE X (.Call (.Name q.name p) (e :: es) [] pos) (tD T fun ρ m => (fs ρ m).bind fun ys m1 => mkxO c (some q.flds.length) ys m1) := by
  obtain ⟨h1, h2, nd, h3, fI, fd, ps, h4, h5, F, hb⟩ := C.init ho
  rw [← hX.K] at h1 h4 h5 hb
  rw [← hX.K, ← hX.P, ← hX.w] at F
  refine PE.weak (pe_oexV h1 h4 h5 F hr hb hg C.mgx ha hdb he hpl) fun σ H Q ⟨α, W, ρ, m, hr, hs, h⟩ => ⟨α, W, ρ, m, hr, hs, h.bind.mono fun ys m1 α1 W1 H1 e1 hr1 h1 vs rvs => ?_⟩
  unfold mkxO at h1
  dsimp only at h1
  split at h1
  · rename_i hn
    have lv := rvs.len
    refine ⟨by rw [lv, hn]; exact hl, fun a hna => ⟨a, vs, rfl, by rw [lv, hn], upd_same, fun d H' hd hda ha' hd' hb' => ⟨rfl, ?_⟩⟩⟩
    have hd1 : H1 d = none := by rw [upd_ne hda] at hd; exact hd
    obtain ⟨e2, hr2⟩ := hr1.grown (H' := H') fun b o hbo => by
      rw [hb' b (ne_of_none hbo hna) (ne_of_none hbo hd1), upd_ne (ne_of_none hbo hna)]
      exact hbo
    refine h1 α1 W1 H' e2 hr2 (.ref a) ?_
    show Rp T W1 H' (.exc c ys) (.ref a)
    simp only [Rp]
    refine ⟨a, rfl, hr1.free hna, .inl ⟨d, vs, _, hr1.free hd1, ha', hd', fun i v hv => ?_, RpL.ext e2 _ _ rvs⟩⟩
    obtain ⟨f, g1, g2⟩ := zip_look nd (by rw [lv, hn]) hv
    exact ⟨f, (h3 i f g1).1, g2⟩
  · exact h1.elim
theorem g_mkxN {xs : List Xc} {c : Nat} {q : Xc} {e : Expr} {p pos : Pos} {f1 : Ev} (hX : CxOk T X) (C : XcOk xs T X c q) (ho : q.own = false) (hg : Gl X q.name) (ha : PE X e (tD T f1))
    (hdb : (q.name == ("__debug__" : Str)) = false) (he : starEach [e] X.env = (false, eval e X.env) :: starEach [] X.env) :
    PE X (.Call (.Name q.name p) [e] [] pos) (tD T fun ρ m => ((f1 ρ m).bind fun d m1 => (asP d m1).bind fun x m1 => (Out.ok [] m1).bind fun ds m2 => .ok (x :: ds) m2).bind fun ys m1 => mkxO c none ys m1) := by
  obtain ⟨h1, h2⟩ := C.plain ho
  rw [← hX.K] at h1 h2
  refine PE.weak (pe_exc1 PySem.F.excBase_ValueError h1 C.mgx h2 hg ha he hdb) fun σ H Q ⟨α, W, ρ, m, hr, hs, h⟩ => ⟨α, W, ρ, m, hr, hs, ?_⟩
  simp only [Out.bind_assoc] at h
  refine h.bind.mono fun d m1 α1 W1 H1 e1 hr1 h1 v rv a hna => ?_
  cases d with
  | p x =>
    have h1 : Hg T α1 W1 H1 (.ok (.p (.exc c [])) m1) (fin T Q) := h1
    obtain ⟨e2, hr2⟩ := hr1.grown (H' := upd H1 a (ExO (.ref (T.ca c)) a)) fun b o hbo => by rw [upd_ne (ne_of_none hbo hna)]; exact hbo
    refine h1 α1 W1 _ e2 hr2 (.ref a) ?_
    show Rp T W1 _ (.exc c []) (.ref a)
    simp only [Rp]
    exact ⟨a, rfl, hr1.free hna, .inr ⟨trivial, upd_same⟩⟩
  | _ => exact h1.elim
theorem exc_rp {W : Addr → Prop} {H : Hp} {c : Nat} {fs : List P} {v : V} (h : Rp T W H (.exc c fs) v) : ∃ a, v = .ref a ∧ ExcAt H (T.ca c) a := by
  simp only [Rp] at h
  obtain ⟨a, rfl, _, h2⟩ := h
  refine ⟨a, rfl, ?_⟩
  rcases h2 with ⟨d, xs, r, _, h4, h5, _, _⟩ | ⟨_, h3⟩
  · exact .inl ⟨d, r, h4, h5⟩
  · exact .inr h3
/-- isinstance(x, C) of an exception, C an own class -/
theorem g_isx {xs : List Xc} {j : Nat} {qj : Xc} {js : List Nat} {e : Expr} {fe : Ev} {p pt pos : Pos} (hX : CxOk T X) (C : ∀ c q, xs[c]? = some q → XcOk xs T X c q) (hj : xs[j]? = some qj) (hjs : ∀ c q, xs[c]? = some q → js.contains c = q.ups.contains j) (he : PE X e (tD T fe)) (hg : Gl X "isinstance") (hm : X.mg "isinstance" = none) (hn : Gl X qj.name) (hdb : (qj.name == ("__debug__" : Str)) = false)
    (h1 : starEach (e :: [.Name qj.name pt]) X.env = (false, eval e X.env) :: starEach [.Name qj.name pt] X.env) (h2 : starEach [.Name qj.name pt] X.env = (false, eval (.Name qj.name pt) X.env) :: starEach [] X.env) (hpl : (backTo pos (starEach [.Name qj.name pt] X.env)).any (·.1) = false) :
    PE X (.Call (.Name "isinstance" p) [e, .Name qj.name pt] [] pos) (tD T fun ρ m => (fe ρ m).bind fun d m1 => isxO xs.length js d m1) :=
  PE.weak (pe_callB (id := "isinstance") call_isx hg hm (by decide +kernel) (pa_cons he (pa_cons (pe_glob (v := .ref (T.ca j)) hn (C j qj hj).mgx rfl hdb) pa_nil h2) h1) (by decide) (by decide) h1 hpl) fun σ H Q ⟨α, W, ρ, m, hr, hs, h⟩ => ⟨α, W, ρ, m, hr, hs, h.bind.mono fun d m1 α1 W1 H1 e1 hr1 h1 v rv => by
    unfold isxO at h1
    split at h1
    · rename_i c fs
      split at h1
      · rename_i hc
        obtain ⟨a, rfl, hE⟩ := exc_rp rv
        obtain ⟨q, hq⟩ : ∃ q, xs[c]? = some q := ⟨xs[c], List.getElem?_eq_getElem hc⟩
        rw [hX.K]
        exact ⟨a, T.ca c, .ref (T.ca j), _, js.contains c, rfl, .own _, hE, (C c q hq).isi, by rw [hjs c q hq]; exact (C c q hq).sub j qj hj, h1.here hr1 _ (by show Rp T W1 H1 _ _; simp only [Rp])⟩
      · exact h1.elim
    · exact h1.elim⟩
/-- .. C ValueError -/
theorem g_isv {xs : List Xc} {js : List Nat} {e : Expr} {fe : Ev} {p pt pos : Pos} (hX : CxOk T X) (C : ∀ c q, xs[c]? = some q → XcOk xs T X c q) (hjs : ∀ c q, xs[c]? = some q → js.contains c = true) (he : PE X e (tD T fe)) (hg : Gl X "isinstance") (hm : X.mg "isinstance" = none) (hn : Gl X "ValueError") (hmn : X.mg "ValueError" = none)
    (h1 : starEach (e :: [.Name "ValueError" pt]) X.env = (false, eval e X.env) :: starEach [.Name "ValueError" pt] X.env) (h2 : starEach [.Name "ValueError" pt] X.env = (false, eval (.Name "ValueError" pt) X.env) :: starEach [] X.env) (hpl : (backTo pos (starEach [.Name "ValueError" pt] X.env)).any (·.1) = false) :
    PE X (.Call (.Name "isinstance" p) [e, .Name "ValueError" pt] [] pos) (tD T fun ρ m => (fe ρ m).bind fun d m1 => isxO xs.length js d m1) :=
  PE.weak (pe_callB (id := "isinstance") call_isx hg hm (by decide +kernel) (pa_cons he (pa_cons (pe_bltn (v := .ty "ValueError") hn hmn (by decide +kernel) rfl (by decide) (by decide)) pa_nil h2) h1) (by decide) (by decide) h1 hpl) fun σ H Q ⟨α, W, ρ, m, hr, hs, h⟩ => ⟨α, W, ρ, m, hr, hs, h.bind.mono fun d m1 α1 W1 H1 e1 hr1 h1 v rv => by
    unfold isxO at h1
    split at h1
    · rename_i c fs
      split at h1
      · rename_i hc
        obtain ⟨a, rfl, hE⟩ := exc_rp rv
        obtain ⟨q, hq⟩ : ∃ q, xs[c]? = some q := ⟨xs[c], List.getElem?_eq_getElem hc⟩
        rw [hX.K]
        exact ⟨a, T.ca c, .ty "ValueError", _, js.contains c, rfl, .ty _, hE, (C c q hq).isi, by rw [hjs c q hq]; exact (C c q hq).ve, h1.here hr1 _ (by show Rp T W1 H1 _ _; simp only [Rp])⟩
      · exact h1.elim
    · exact h1.elim⟩
/-- a field of an exception -/
theorem g_fldx {xs : List Xc} {cks : List (Nat × Nat)} {f : Str} {e : Expr} {fe : Ev} {pos : Pos} (hX : CxOk T X) (C : ∀ c q, xs[c]? = some q → XcOk xs T X c q) (hck : ∀ c k, cks.lookup c = some k → ∃ q, xs[c]? = some q ∧ q.own = true ∧ q.flds[k]? = some f) (he : PE X e (tD T fe)) (hb : attributeBase e f X.env (eval e X.env) = eval e X.env) :
    PE X (.Attribute e f pos) (tD T fun ρ m => (fe ρ m).bind fun d m1 => fldxO cks d m1) :=
  PE.weak (pe_xv he hb) fun σ H Q ⟨α, W, ρ, m, hr, hs, h⟩ => ⟨α, W, ρ, m, hr, hs, h.bind.mono fun d m1 α1 W1 H1 e1 hr1 h1 v rv => by
    unfold fldxO at h1
    split at h1
    · rename_i c fs
      split at h1
      · rename_i k hk
        obtain ⟨q, hq, ho, hf⟩ := hck c k hk
        obtain ⟨_, g2, _, g3, _⟩ := (C c q hq).init ho
        obtain ⟨g4, g5⟩ := g3 k f hf
        have rv : Rp T W1 H1 (.exc c fs) v := rv
        simp only [Rp] at rv
        obtain ⟨a, rfl, _, h2⟩ := rv
        rw [hX.K]
        cases ex : fs[k]? with
        | none => rw [ex] at h1; exact h1.elim
        | some x =>
          rw [ex] at h1
          rcases h2 with ⟨dd, ys, r, _, q4, q5, q6, q7⟩ | ⟨rfl, _⟩
          · obtain ⟨u, q8, q9⟩ := q7.get' ex
            obtain ⟨f', q10, q11⟩ := q6 k u q8
            rw [g4] at q10
            cases q10
            exact ⟨a, T.ca c, dd, r, u, rfl, g2, g5, q4, q5, q11, h1.here hr1 u q9⟩
          · simp at ex
      · exact h1.elim
    · exact h1.elim⟩
theorem mc_of {o : Expr} {m : Str} {apos pos : Pos} {args : List Expr} {env : PySem.Env} (hb : attributeBase o m env (eval o env) = eval o env) (hl : (apos.endLine == pos.line) = true) (hs : args.all noStar = true) (hn : args.length < 30) :
    eval (.Call (.Attribute o m apos) args [] pos) env = (do
      let ov ← eval o env
      standAt apos.atName
      let (f, first) ← holding [ov] (getMethod ov m (plainOf o env))
      callWith pos f first (backTo pos (starEach args env)) (backToKw pos (keywordEach [] env))) := by
  have hf : methodCallForm (args.length + ([] : List Keyword).length) (backTo pos (starEach args env)) (backToKw pos (keywordEach [] env)) = true := by
    unfold methodCallForm
    have h1 : (backTo pos (starEach args env)).all (!·.1) = true := by
      have := pl_of (env := env) (pos := pos) hs
      rw [List.all_eq_true]
      intro x hx
      rw [List.any_eq_false] at this
      simpa using this x hx
    rw [h1]
    simp only [keywordEach, backToKw, List.map_nil, List.all_nil, List.isEmpty_nil, Bool.true_and, if_true, List.length_nil]
    exact decide_eq_true (by omega)
  show (do
    let ov ← attributeBase o m env (eval o env)
    standAt apos.atName
    methodCall o m apos pos env ov (args.length + ([] : List Keyword).length) (backTo pos (starEach args env)) (backToKw pos (keywordEach [] env))) = _
  rw [hb]
  congr 1
  funext ov
  congr 1
  funext _
  exact mcall_line hf hl
end Lot
/-! LotP: the look whether a core term speaks of an expression; what holds of it then. -/
namespace Lot
open PySem PySem.Spec PyProof.Rows L2

/-- what a global name stands for -/
inductive GK where
  | blt | fn (i : Nat) | int (i : Int) | str (s : Str) | xc (j : Nat)
/-- the program by core terms, its global names, a def's names -/
structure Sg where
  g : Pg
  G : List (Str × GK)
  xs : List Xc
structure Loc1 where
  N : List Str
  sc : Scope
  cs : List (Str × NameKind)
def glb (S : Sg) (L : Loc1) (x : Str) : Option GK := match L.sc.names.lookup x with
  | some .globalImplicit => S.G.lookup x
  | _ => none
def isBlt (S : Sg) (L : Loc1) (x : Str) : Bool := match glb S L x with
  | some .blt => true
  | _ => false
def isFn (S : Sg) (L : Loc1) (x : Str) (f : Nat) : Bool := match glb S L x with
  | some (.fn i) => i == f
  | _ => false
def isXc (S : Sg) (L : Loc1) (x : Str) (c : Nat) : Bool := match glb S L x with
  | some (.xc i) => i == c
  | _ => false
def visB (L : Loc1) (x : Str) : Bool := match L.sc.names.lookup x with
  | some .local => true
  | some .cell => true
  | some .free => true
  | _ => false
def locB (L : Loc1) (x : Str) : Bool := match L.sc.names.lookup x with
  | some .local => true
  | some .cell => (match L.cs.lookup x with
    | some .cell => true
    | _ => false)
  | _ => false
def lclB (L : Loc1) (x : Str) : Bool := match L.sc.names.lookup x with
  | some .local => true
  | _ => false
def slotB (L : Loc1) (i : Nat) (x : Str) : Bool := match L.N[i]? with
  | some y => y == x && !(x == ("__debug__" : Str)) && !(x == ("__classdict__" : Str))
  | none => false
def bopB : BOp → Operator → Bool
  | .add, .Add => true | .sub, .Sub => true | .mul, .Mult => true | .fdiv, .FloorDiv => true | .mod, .Mod => true | .pow, .Pow => true
  | _, _ => false
def copB : COp → CmpOp → Bool
  | .eq, .Eq => true | .ne, .NotEq => true | .lt, .Lt => true | .le, .LtE => true | .gt, .Gt => true | .ge, .GtE => true | .is, .Is => true | .isnot, .IsNot => true | .inn, .In => true | .notin, .NotIn => true
  | _, _ => false
def litB : P → Const → Bool
  | .non, .none => true
  | .bl a, .bool b => a == b
  | .int a, .int b => a == b
  | .str a, .str b => a == b
  | _, _ => false
def prName : Pr → String
  | .len => "len" | .sorted => "sorted" | .tuple => "tuple" | .list => "list" | .all => "all" | .any => "any" | .sum => "sum" | .int => "int" | .min => "min" | .max => "max"
  | _ => ""
/-- built-ins that are served -/
def prOk : Pr → Bool
  | .len => true | .tuple => true | .list => true | .all => true | .any => true | .sum => true | .int => true | .min => true | .max => true
  | _ => false
/-- a term of a list that is new -/
def isX : CE → Bool
  | .lst _ => true
  | .slice .. => true
  | .bin .. => true
  | .comp .. => true
  | .prim .list _ => true
  | .prim .sorted _ => true
  | _ => false
/-- a term whose truth is served -/
def tOk : CE → Bool
  | .ife .. => false
  | .chain .. => false
  | .alloc _ => false
  | .frz _ => false
  | _ => true
def Tg.sl : Tg → List Nat
  | .nm i => [i]
  | .tp l => l
/-- targets -/
def nmsB (L : Loc1) : List Nat → List Expr → Bool
  | [], [] => true
  | i :: is, .Name x _ :: es => slotB L i x && locB L x && nmsB L is es
  | _, _ => false
def tgB (L : Loc1) : Tg → Expr → Bool
  | .nm i, .Name x _ => slotB L i x && locB L x
  | .tp is, .Tuple es _ _ => nmsB L is es && is.length == es.length
  | _, _ => false
def relL (L : Loc1) (scope : Scope) : Loc1 := ⟨L.N, relS scope L.sc, scope.names⟩
def ownL (L : Loc1) (is : List Nat) : List (Str × Nat) := is.map fun i => ((L.N[i]?).getD ⟨#[]⟩, i)
def isNob : CE → Bool
  | .nob => true
  | _ => false
/-- an optional part -/
def optB (nb : Bool) (l : Option Expr) (f : Expr → Bool) : Bool := match l with
  | none => nb
  | some e => !nb && f e
/-- for which classes of exceptions isinstance says True -/
def isxB (S : Sg) (L : Loc1) (js : List Nat) (z : Str) : Bool := match glb S L z with
  | some .blt => z == ("ValueError" : Str) && ((List.range S.xs.length).all fun c => js.contains c)
  | some (.xc j) => (match S.xs[j]? with
    | some q => z == q.name && ((List.range S.xs.length).all fun c => match S.xs[c]? with | some r => js.contains c == r.ups.contains j | none => false)
    | none => false)
  | _ => false
section
variable (S : Sg)
mutual
def chkE : CE → Loc1 → Expr → Bool
  | .var i, L, e => match e with
    | .Name x _ => slotB L i x && visB L x
    | _ => false
  | .lit p, _, e => match e with
    | .Constant c _ _ => litB p c
    | _ => false
  | .gint _ i, L, e => match e with
    | .Name x _ => (match glb S L x with | some (.int j) => i == j && !(x == ("__debug__" : Str)) | _ => false)
    | _ => false
  | .gstr _ s, L, e => match e with
    | .Name x _ => (match glb S L x with | some (.str t) => s == t && !(x == ("__debug__" : Str)) | _ => false)
    | _ => false
  | .tup es, L, e => match e with
    | .Tuple xs _ _ => chkEs es L xs
    | _ => false
  | .lst es, L, e => match e with
    | .List xs _ => chkEs es L xs
    | _ => false
  | .alloc c, L, e => isX c && chkE c L e
  | .frz c, L, e => chkE c L e
  | .bin op a b, L, e => match e with
    | .BinOp x o y _ => bopB op o && chkE a L x && chkE b L y
    | _ => false
  | .neg a, L, e => match e with
    | .UnaryOp .USub x _ => chkE a L x
    | _ => false
  | .not a, L, e => match e with
    | .UnaryOp .Not x _ => tOk a && chkE a L x
    | _ => false
  | .cmp op a b, L, e => match e with
    | .Compare x [o] [y] _ => copB op o && noSet y && chkE a L x && chkE b L y
    | _ => false
  | .chain op1 op2 a b c, L, e => match e with
    | .Compare x [o1, o2] [y, z] _ => copB op1 o1 && copB op2 o2 && noSet z && chkE a L x && chkE b L y && chkE c L z
    | _ => false
  | .and es, L, e => match e with
    | .BoolOp .And (x :: xs) _ => chkB es L (x :: xs)
    | _ => false
  | .or es, L, e => match e with
    | .BoolOp .Or (x :: xs) _ => chkB es L (x :: xs)
    | _ => false
  | .ife c a b, L, e => match e with
    | .IfExp z x y _ => tOk c && chkE c L z && chkE a L x && chkE b L y
    | _ => false
  | .call f es, L, e => match e with
    | .Call (.Name x _) (y :: ys) [] _ => isFn S L x f && !(x == ("__debug__" : Str)) && chkEs es L (y :: ys)
    | _ => false
  | .prim (.isi [t]) (.cons a .nil), L, e => match e with
    | .Call (.Name x _) [y, .Name n _] [] _ => x == ("isinstance" : Str) && isBlt S L x && noStar y && isBlt S L n && n == Str.ofString t.nm && chkE a L y
    | _ => false
  | .prim (.isi [t, t2]) (.cons a .nil), L, e => match e with
    | .Call (.Name x _) [y, .Tuple [.Name n _, .Name n2 _] _ _] [] _ => x == ("isinstance" : Str) && isBlt S L x && noStar y && isBlt S L n && n == Str.ofString t.nm && isBlt S L n2 && n2 == Str.ofString t2.nm && chkE a L y
    | _ => false
  | .prim p es, L, e => match e with
    | .Call (.Name x _) (y :: ys) [] _ => prOk p && x == Str.ofString (prName p) && isBlt S L x && chkEs es L (y :: ys)
    | _ => false
  | .mkx c (some n) es, L, e => match e with
    | .Call (.Name x _) (y :: ys) [] _ => isXc S L x c && (match S.xs[c]? with | some q => q.own && x == q.name && n == q.flds.length && decide (n ≤ 1000) | none => false) && !(x == ("__debug__" : Str)) && chkEs es L (y :: ys)
    | _ => false
  | .mkx c none (.cons a .nil), L, e => match e with
    | .Call (.Name x _) [y] [] _ => isXc S L x c && (match S.xs[c]? with | some q => !q.own && x == q.name | none => false) && !(x == ("__debug__" : Str)) && noStar y && chkE a L y
    | _ => false
  | .isx n js a, L, e => match e with
    | .Call (.Name x _) [y, .Name z _] [] _ => x == ("isinstance" : Str) && isBlt S L x && noStar y && n == S.xs.length && !(z == ("__debug__" : Str)) && chkE a L y && isxB S L js z
    | _ => false
  | .fldx f cks a, L, e => match e with
    | .Attribute y f' _ => f' == f && noCall y && (cks.all fun ck => match S.xs[ck.1]? with | some q => q.own && (match q.flds[ck.2]? with | some g => g == f | none => false) | none => false) && chkE a L y
    | _ => false
  | .ix o i, L, e => match e with
    | .Subscript x y _ => noSlice y && chkE o L x && chkE i L y
    | _ => false
  | .slice o lo hi, L, e => match e with
    | .Subscript x (.Slice l h none _) _ => chkE o L x && optB (isNob lo) l (fun e => chkE lo L e) && optB (isNob hi) h (fun e => chkE hi L e)
    | _ => false
  | .comp elt tg it ifs, L, e => match e with
    | .ListComp x [⟨t, i, fs, 0⟩] scope _ => blkC L.N L.sc scope (ownL L tg.vars) && noSet i && chkI it L t i && tgB (relL L scope) tg t && chkIfs ifs (relL L scope) fs && chkE elt (relL L scope) x
    | _ => false
  | _, _, _ => false
def chkEs : CEs → Loc1 → List Expr → Bool
  | .nil, _, es => es.isEmpty
  | .cons c cs, L, es => match es with
    | e :: es => noStar e && chkE c L e && chkEs cs L es
    | [] => false
/-- parts of and, or -/
def chkB : CEs → Loc1 → List Expr → Bool
  | .nil, _, _ => false
  | .cons c .nil, L, es => match es with
    | [e] => tOk c && chkE c L e
    | _ => false
  | .cons c cs, L, es => match es with
    | e :: e2 :: es => tOk c && chkE c L e && chkB cs L (e2 :: es)
    | _ => false
def chkIfs : CEs → Loc1 → List Expr → Bool
  | .nil, _, es => es.isEmpty
  | .cons c .nil, L, es => match es with
    | [e] => tOk c && chkE c L e
    | _ => false
  | _, _, _ => false
def chkI : CI → Loc1 → Expr → Expr → Bool
  | .rng1 a, L, _, e => match e with
    | .Call (.Name x _) [y] [] _ => x == ("range" : Str) && isBlt S L x && noStar y && chkE a L y
    | _ => false
  | .rng a b, L, _, e => match e with
    | .Call (.Name x _) [y, z] [] _ => x == ("range" : Str) && isBlt S L x && noStar y && noStar z && chkE a L y && chkE b L z
    | _ => false
  | .enum a, L, t, e => match e with
    | .Call (.Name x _) [y] [] _ => x == ("enumerate" : Str) && isBlt S L x && noStar y && chkE a L y && (match t with | .Tuple .. => true | _ => false)
    | _ => false
  | .zip a b s, L, t, e => match e with
    | .Call (.Name x _) [y, z] [] _ => !s && x == ("zip" : Str) && isBlt S L x && noStar y && noStar z && chkE a L y && chkE b L z && (match t with | .Tuple .. => true | _ => false)
    | _ => false
  | .seq a, L, _, e => chkE a L e
  | _, _, _, _ => false
end
end
/-! ### what a look tells -/
/-- a global name's meaning -/
def GkOk (T : Tb) (X : Cx) (x : Str) : GK → Prop
  | .blt => X.mg x = none
  | .fn i => X.mg x = some (.ref (T.fa i))
  | .int i => ∃ u, X.mg x = some u ∧ RelV (.int i) u
  | .str s => ∃ u, X.mg x = some u ∧ RelV (.str s) u
  | .xc _ => True
structure Ctx (S : Sg) (d k : Nat) (T : Tb) (X : Cx) (L : Loc1) : Prop where
  ok : CxOk T X
  N : X.N = L.N
  sc : X.env.scope = L.sc
  kd : L.sc.kind = .function
  cs : ∀ x, L.cs.lookup x = some .cell → X.fn x = true
  fns : ∀ f q, S.g.fns[f]? = some q → FnAt T X k (T.fa f) (S.g.call d f)
  room : Room k X.A
  gl : ∀ x q, S.G.lookup x = some q → GkOk T X x q
  k3 : 3 ≤ k
  xc : ∀ c q, S.xs[c]? = some q → XcOk S.xs T X c q
section
variable {S : Sg} {d k : Nat} {T : Tb} {X : Cx} {L : Loc1}
theorem glb_eq {x : Str} {q : GK} (C : Ctx S d k T X L) (h : glb S L x = some q) : Gl X x ∧ GkOk T X x q := by
  unfold glb at h
  split at h
  · rename_i e
    refine ⟨?_, C.gl x q h⟩
    show X.env.scope.names.lookup x = _
    rw [C.sc]; exact e
  · cases h
theorem blt_eq {x : Str} (C : Ctx S d k T X L) (h : isBlt S L x = true) : Gl X x ∧ X.mg x = none := by
  unfold isBlt at h
  split at h
  · rename_i e; exact glb_eq C e
  · cases h
theorem fn_eq {x : Str} {f : Nat} (C : Ctx S d k T X L) (h : isFn S L x f = true) : Gl X x ∧ X.mg x = some (.ref (T.fa f)) := by
  unfold isFn at h
  split at h
  · rename_i i e
    have : i = f := by simpa using h
    subst this
    exact glb_eq C e
  · cases h
theorem xc_eq {x : Str} {c : Nat} (C : Ctx S d k T X L) (h : isXc S L x c = true) : Gl X x := by
  unfold isXc at h
  split at h
  · rename_i i e
    exact (glb_eq C e).1
  · cases h
theorem slot_eq {i : Nat} {x : Str} (C : Ctx S d k T X L) (h : slotB L i x = true) : X.N[i]? = some x ∧ (x == ("__debug__" : Str)) = false ∧ (x == ("__classdict__" : Str)) = false := by
  unfold slotB at h
  split at h
  · rename_i y e
    simp only [Bool.and_eq_true, Bool.not_eq_true', beq_iff_eq] at h
    obtain ⟨⟨rfl, h1⟩, h2⟩ := h
    exact ⟨by rw [C.N]; exact e, h1, h2⟩
  · cases h
theorem vis_eq {x : Str} (C : Ctx S d k T X L) (h : visB L x = true) : Vis X.env.scope x := by
  unfold visB at h
  unfold Vis
  rw [C.sc]
  split at h <;> first | cases h | skip
  · rename_i e; exact .inl e
  · rename_i e; exact .inr (.inl e)
  · rename_i e; exact .inr (.inr e)
theorem loc_eq {x : Str} (C : Ctx S d k T X L) (h : locB L x = true) : L2.Loc X.env.scope x ∧ (X.fn x = true ∨ X.env.scope.names.lookup x = some .local) := by
  unfold locB at h
  unfold L2.Loc
  rw [C.sc]
  split at h
  · rename_i e; exact ⟨.inl e, .inr e⟩
  · rename_i e
    split at h
    · rename_i e2; exact ⟨.inr e, .inl (C.cs _ e2)⟩
    · cases h
  · cases h
theorem lcl_eq {x : Str} (C : Ctx S d k T X L) (h : lclB L x = true) : X.env.scope.names.lookup x = some .local := by
  unfold lclB at h
  rw [C.sc]
  split at h
  · rename_i e; exact e
  · cases h
theorem Ctx.g {gh : Addr → Option HO} (C : Ctx S d k T X L) : Ctx S d k (T.g gh) X L := ⟨⟨C.ok.P, C.ok.w, C.ok.K, C.ok.calm, C.ok.nd, C.ok.hu⟩, C.N, C.sc, C.kd, C.cs, C.fns, C.room, (fun x q h => by
  have := C.gl x q h
  cases q <;> exact this), C.k3, fun c q h => let z := C.xc c q h; ⟨z.mgx, z.isi, z.sub, z.ve, z.init, z.plain⟩⟩
theorem Ctx.blk {scope : Scope} {own : List (Str × Nat)} (C : Ctx S d k T X L) (hb : blkC L.N L.sc scope own = true) (s : Shared) (H : Hp) (D : Addr) (cl : List (Str × Addr)) (fp : List Addr) :
    Ctx S d k T (X.blk s H scope (compEnvC scope cl D X.env) fp) (relL L scope) := by
  refine ⟨⟨C.ok.P, C.ok.w, C.ok.K, C.ok.calm, C.ok.nd, C.ok.hu⟩, C.N, ?_, (blkOk_by hb).kind, fun x h => ?_, C.fns, C.room, fun x q h => ?_, C.k3, fun c q h => let z := C.xc c q h; ⟨z.mgx, z.isi, z.sub, z.ve, z.init, z.plain⟩⟩
  · show relabel scope X.env = relS scope L.sc
    rw [← C.sc]
    rfl
  · show (scope.names.lookup x == some .cell) = true
    have h : scope.names.lookup x = some .cell := h
    rw [h]; rfl
  · have := C.gl x q h
    cases q <;> exact this
end
end Lot
/-! LotQ: a term that passes the look tells what the expression does. -/
namespace Lot
open PySem PySem.Spec PyProof.Rows L2
section
variable (S : Sg) (d k : Nat)
/-- of a term: as a value; as a new list; as a test -/
def SE (c : CE) : Prop := ∀ (T : Tb) (X : Cx) (L : Loc1) (e : Expr), Ctx S d k T X L → chkE S c L e = true →
  PE X e (tD T fun ρ m => evE (S.g.call d) S.g.mt c ρ m) ∧ (isX c = true → PE X e (tX T fun ρ m => evE (S.g.call d) S.g.mt c ρ m)) ∧ (tOk c = true → PT X e (tT T (tO fun ρ m => evE (S.g.call d) S.g.mt c ρ m)))
def SEs (cs : CEs) : Prop := ∀ (T : Tb) (X : Cx) (L : Loc1) (es : List Expr), Ctx S d k T X L → chkEs S cs L es = true →
  PA X es (tL T fun ρ m => evEs (S.g.call d) S.g.mt cs ρ m) ∧ PA X es (tP T fun ρ m => evPs (S.g.call d) S.g.mt cs ρ m) ∧ es.all noStar = true
def SB (cs : CEs) : Prop := ∀ (T : Tb) (X : Cx) (L : Loc1) (es : List Expr) (pos : Pos), Ctx S d k T X L → chkB S cs L es = true →
  (PE X (.BoolOp .And es pos) (tD T fun ρ m => evAnd (S.g.call d) S.g.mt cs ρ m) ∧ PWt X T (.BoolOp .And es pos) fun ρ m => evAnd (S.g.call d) S.g.mt cs ρ m) ∧
  (PE X (.BoolOp .Or es pos) (tD T fun ρ m => evOr (S.g.call d) S.g.mt cs ρ m) ∧ PWt X T (.BoolOp .Or es pos) fun ρ m => evOr (S.g.call d) S.g.mt cs ρ m)
def SIf (cs : CEs) : Prop := ∀ (T : Tb) (X : Cx) (L : Loc1) (es : List Expr), Ctx S d k T X L → chkIfs S cs L es = true → PTs X es (tT T fun ρ m => evIfs (S.g.call d) S.g.mt cs ρ m)
def SI (c : CI) : Prop := ∀ (T : Tb) (X : Cx) (L : Loc1) (t e : Expr), Ctx S d k T X L → chkI S c L t e = true → PI X t e (tI T fun ρ m => evI (S.g.call d) S.g.mt c ρ m)
end
section
variable {S : Sg} {d k : Nat} {T : Tb} {X : Cx} {L : Loc1}
theorem out3 {e : Expr} {c : CE} {f : Ev} (C : Ctx S d k T X L) (hp : plainT e = true) (h : PE X e (tD T f)) (hx : isX c = false) : PE X e (tD T f) ∧ (isX c = true → PE X e (tX T f)) ∧ (tOk c = true → PT X e (tT T (tO f))) :=
  ⟨h, (fun z => by rw [hx] at z; cases z), fun _ => g_truth C.ok h (tru hp)⟩
theorem out3x {e : Expr} {c : CE} {f : Ev} (C : Ctx S d k T X L) (hp : plainT e = true) (h : PE X e (tX T f)) : PE X e (tD T f) ∧ (isX c = true → PE X e (tX T f)) ∧ (tOk c = true → PT X e (tT T (tO f))) :=
  ⟨PE.ofX h, fun _ => h, fun _ => g_truth C.ok (PE.ofX h) (tru hp)⟩
theorem se_var (i : Nat) : SE S d k (.var i) := fun T X L e C h => by
  unfold chkE at h
  split at h
  · rename_i x p
    simp only [Bool.and_eq_true] at h
    obtain ⟨h1, h2, h3⟩ := slot_eq C h.1
    exact out3 C rfl (g_var h1 (vis_eq C h.2) h2 h3) rfl
  · cases h
theorem rd_p {x : P} {v : V} (h : ∀ W H, Rp T W H x v) (α : Al) (W : Addr → Prop) (H : Hp) : RD T α W H (.p x) v := h W H
theorem se_lit (p : P) : SE S d k (.lit p) := fun T X L e C h => by
  unfold chkE at h
  split at h
  · rename_i c j pos
    refine out3 C rfl ?_ rfl
    unfold litB at h
    split at h <;> first | cases h | skip
    · exact tC_d pe_non (rd_p fun W H => by simp only [Rp])
    · have := eq_of_beq h
      subst this
      exact tC_d pe_bl (rd_p fun W H => by simp only [Rp])
    · have := eq_of_beq h
      subst this
      exact tC_d pe_int (rd_p fun W H => by simp only [Rp])
    · have := eq_of_beq h
      subst this
      exact tC_d pe_str (rd_p fun W H => by simp only [Rp])
  · cases h
theorem se_gint (n : Str) (i : Int) : SE S d k (.gint n i) := fun T X L e C h => by
  unfold chkE at h
  split at h
  · rename_i x p
    split at h
    · rename_i j eg
      simp only [Bool.and_eq_true, beq_iff_eq, Bool.not_eq_true'] at h
      obtain ⟨rfl, h2⟩ := h
      obtain ⟨g1, u, g2, g3⟩ := glb_eq C eg
      exact out3 C rfl (tC_d (pe_glob g1 g2 g3 h2) (rd_p fun W H => by simp only [Rp])) rfl
    · cases h
  · cases h
theorem se_gstr (n : Str) (i : Str) : SE S d k (.gstr n i) := fun T X L e C h => by
  unfold chkE at h
  split at h
  · rename_i x p
    split at h
    · rename_i j eg
      simp only [Bool.and_eq_true, beq_iff_eq, Bool.not_eq_true'] at h
      obtain ⟨rfl, h2⟩ := h
      obtain ⟨g1, u, g2, g3⟩ := glb_eq C eg
      exact out3 C rfl (tC_d (pe_glob g1 g2 g3 h2) (rd_p fun W H => by simp only [Rp])) rfl
    · cases h
  · cases h
theorem se_tup {cs : CEs} (hs : SEs S d k cs) : SE S d k (.tup cs) := fun T X L e C h => by
  unfold chkE at h
  split at h
  · exact out3 C rfl (g_tup (hs T X L _ C h).2.1) rfl
  · cases h
theorem se_lst {cs : CEs} (hs : SEs S d k cs) : SE S d k (.lst cs) := fun T X L e C h => by
  unfold chkE at h
  split at h
  · exact out3x C rfl (g_lst (hs T X L _ C h).2.1)
  · cases h
theorem se_alloc {c : CE} (hc : SE S d k c) : SE S d k (.alloc c) := fun T X L e C h => by
  unfold chkE at h
  rw [Bool.and_eq_true] at h
  exact ⟨PE.allocX ((hc T X L e C h.2).2.1 h.1), (fun z => by cases z), fun z => by cases z⟩
theorem se_frz {c : CE} (hc : SE S d k c) : SE S d k (.frz c) := fun T X L e C h => by
  unfold chkE at h
  exact ⟨g_frz (hc T X L e C h).1, (fun z => by cases z), fun z => by cases z⟩
theorem bop_eq {op : BOp} {o : Operator} (C : Ctx S d k T X L) (h : bopB op o = true) : OpR X (binaryOp o) (rB T (binP op)) := by
  cases op <;> cases o <;> first | cases h | skip
  · exact opB_add C.ok
  · exact opB_sub
  · exact opB_mul
  · exact opB_fdiv
  · exact opB_mod
  · exact opB_pow
theorem cop_eq {op : COp} {o : CmpOp} (C : Ctx S d k T X L) (h : copB op o = true) : OpR X (compareOp o) (rC T op) := by
  cases op <;> cases o <;> first | cases h | skip
  · exact opC_eq C.ok
  · exact opC_ne C.ok
  · exact opC_lt
  · exact opC_le
  · exact opC_gt
  · exact opC_ge
  · exact opC_is
  · exact opC_isnot
  · exact opC_in C.ok
  · exact opC_notin C.ok
theorem se_bin {op : BOp} {a b : CE} (ha : SE S d k a) (hb : SE S d k b) : SE S d k (.bin op a b) := fun T X L e C h => by
  unfold chkE at h
  split at h
  · simp only [Bool.and_eq_true] at h
    obtain ⟨⟨h1, h2⟩, h3⟩ := h
    exact out3x C rfl (g_bin (bop_eq C h1) (ha T X L _ C h2).1 (hb T X L _ C h3).1)
  · cases h
theorem se_neg {a : CE} (ha : SE S d k a) : SE S d k (.neg a) := fun T X L e C h => by
  unfold chkE at h
  split at h
  · exact out3 C rfl (g_neg (ha T X L _ C h).1) rfl
  · cases h
theorem se_not {a : CE} (ha : SE S d k a) : SE S d k (.not a) := fun T X L e C h => by
  unfold chkE at h
  split at h
  · rw [Bool.and_eq_true] at h
    obtain ⟨h1, _, h3⟩ := ha T X L _ C h.2
    exact ⟨g_not (h3 h.1) C.ok h1, (fun z => by cases z), fun _ => g_notT (h3 h.1)⟩
  · cases h
theorem se_cmp {op : COp} {a b : CE} (ha : SE S d k a) (hb : SE S d k b) : SE S d k (.cmp op a b) := fun T X L e C h => by
  unfold chkE at h
  split at h
  · simp only [Bool.and_eq_true] at h
    obtain ⟨⟨⟨h1, h2⟩, h3⟩, h4⟩ := h
    exact ⟨g_cmp (cop_eq C h1) (bim h2) (ha T X L _ C h3).1 (hb T X L _ C h4).1, (fun z => by cases z), fun _ => g_cmpT (cop_eq C h1) (bim h2) (ha T X L _ C h3).1 (hb T X L _ C h4).1⟩
  · cases h
theorem se_chain {op op2 : COp} {a b c : CE} (ha : SE S d k a) (hb : SE S d k b) (hc : SE S d k c) : SE S d k (.chain op op2 a b c) := fun T X L e C h => by
  unfold chkE at h
  split at h
  · simp only [Bool.and_eq_true] at h
    obtain ⟨⟨⟨⟨⟨h1, h2⟩, h3⟩, h4⟩, h5⟩, h6⟩ := h
    exact ⟨g_chain (cop_eq C h1) (cop_eq C h2) (lam h3) (ha T X L _ C h4).1 (hb T X L _ C h5).1 (hc T X L _ C h6).1, (fun z => by cases z), fun z => by cases z⟩
  · cases h
theorem se_and {cs : CEs} (hs : SB S d k cs) : SE S d k (.and cs) := fun T X L e C h => by
  unfold chkE at h
  split at h
  · rename_i x xs pos
    have := (hs T X L _ pos C h).1
    exact ⟨this.1, (fun z => by cases z), fun _ => this.2.pt⟩
  · cases h
theorem se_or {cs : CEs} (hs : SB S d k cs) : SE S d k (.or cs) := fun T X L e C h => by
  unfold chkE at h
  split at h
  · rename_i x xs pos
    have := (hs T X L _ pos C h).2
    exact ⟨this.1, (fun z => by cases z), fun _ => this.2.pt⟩
  · cases h
theorem se_ife {c a b : CE} (hc : SE S d k c) (ha : SE S d k a) (hb : SE S d k b) : SE S d k (.ife c a b) := fun T X L e C h => by
  unfold chkE at h
  split at h
  · simp only [Bool.and_eq_true] at h
    obtain ⟨⟨⟨h1, h2⟩, h3⟩, h4⟩ := h
    exact ⟨g_ife ((hc T X L _ C h2).2.2 h1) (ha T X L _ C h3).1 (hb T X L _ C h4).1, (fun z => by cases z), fun z => by cases z⟩
  · cases h
theorem call_bad {f : Nat} (h : S.g.fns[f]? = none) (ds : List D) (m : Mem) : S.g.call d f ds m = .bad := by
  cases d with
  | zero => rfl
  | succ d => unfold Pg.call; rw [h]
theorem se_call {f : Nat} {cs : CEs} (hs : SEs S d k cs) : SE S d k (.call f cs) := fun T X L e C h => by
  unfold chkE at h
  split at h
  · simp only [Bool.and_eq_true, Bool.not_eq_true'] at h
    obtain ⟨⟨h1, h2⟩, h3⟩ := h
    obtain ⟨g1, g2⟩ := fn_eq C h1
    obtain ⟨a1, _, a3⟩ := hs T X L _ C h3
    rw [List.all_cons, Bool.and_eq_true] at a3
    cases q : S.g.fns[f]? with
    | none =>
      refine out3 C rfl ?_ rfl
      refine ⟨fun pins s σ H Q I ⟨α, W, ρ, m, hr, hs', h⟩ => ?_⟩
      exfalso
      have h : Hg T α W H ((evEs (S.g.call d) S.g.mt cs ρ m).bind fun ds m1 => S.g.call d f ds m1) (fin T Q) := h
      cases q2 : evEs (S.g.call d) S.g.mt cs ρ m with
      | ok ds m1 =>
        rw [q2] at h
        dsimp only [Out.bind_ok] at h
        rw [call_bad q] at h
        exact h
      | exn _ _ _ => rw [q2] at h; exact h
      | bad => rw [q2] at h; exact h
    | some fn => exact out3 C rfl (g_call (C.fns f fn q) C.room g1 g2 a1 h2 (star1 a3.1) (pl_of a3.2)) rfl
  · cases h
theorem isi_ev {ts : List Ty} {a : CE} : (fun ρ m => evE (S.g.call d) S.g.mt (.prim (.isi ts) (.cons a .nil)) ρ m) = fun ρ m => (evE (S.g.call d) S.g.mt a ρ m).bind fun x m1 => isiO ts x m1 := by
  funext ρ m
  show ((evE (S.g.call d) S.g.mt a ρ m).bind fun x m1 => (Out.ok [] m1).bind fun ds m2 => Out.ok (x :: ds) m2).bind (fun ds m1 => primD (.isi ts) ds m1) = _
  rw [Out.bind_assoc]
  rfl
theorem ty_boot (t : Ty) : bootBuiltins (Str.ofString t.nm) = some (.type t.nm) := by cases t <;> decide +kernel
theorem ty_nm (t : Ty) : (Str.ofString t.nm) ≠ ("__name__" : Str) ∧ ((Str.ofString t.nm) == ("__debug__" : Str)) = false := by cases t <;> decide +kernel
theorem se_isi1 {t : Ty} {a : CE} (ha : SE S d k a) : SE S d k (.prim (.isi [t]) (.cons a .nil)) := fun T X L e C h => by
  unfold chkE at h
  split at h
  · simp only [Bool.and_eq_true, beq_iff_eq] at h
    obtain ⟨⟨⟨⟨⟨rfl, h2⟩, h3⟩, h4⟩, rfl⟩, h6⟩ := h
    obtain ⟨g1, g2⟩ := blt_eq C h2
    obtain ⟨g3, g4⟩ := blt_eq C h4
    rw [isi_ev]
    exact out3 C rfl (g_isi1 C.ok (ha T X L _ C h6).1 g1 g2 g3 g4 (ty_boot t) (ty_nm t).1 (ty_nm t).2 (star1 h3) (star1 rfl) (pl_of rfl)) rfl
  · cases h
theorem se_isi2 {t t2 : Ty} {a : CE} (ha : SE S d k a) : SE S d k (.prim (.isi [t, t2]) (.cons a .nil)) := fun T X L e C h => by
  unfold chkE at h
  split at h
  · simp only [Bool.and_eq_true, beq_iff_eq] at h
    obtain ⟨⟨⟨⟨⟨⟨⟨rfl, h2⟩, h3⟩, h4⟩, rfl⟩, h6⟩, rfl⟩, h8⟩ := h
    obtain ⟨g1, g2⟩ := blt_eq C h2
    obtain ⟨g3, g4⟩ := blt_eq C h4
    obtain ⟨g5, g6⟩ := blt_eq C h6
    rw [isi_ev]
    exact out3 C rfl (g_isi2 C.ok (ha T X L _ C h8).1 g1 g2 g3 g4 (ty_boot t) (ty_nm t).1 (ty_nm t).2 g5 g6 (ty_boot t2) (ty_nm t2).1 (ty_nm t2).2 (star1 h3) (star1 rfl) (star1 rfl) (star1 rfl) (pl_of rfl)) rfl
  · cases h
theorem se_prim {p : Pr} {cs : CEs} (hs : SEs S d k cs) (T : Tb) (X : Cx) (L : Loc1) (e : Expr) (C : Ctx S d k T X L) (h : (match e with
    | .Call (.Name x _) (y :: ys) [] _ => prOk p && x == Str.ofString (prName p) && isBlt S L x && chkEs S cs L (y :: ys)
    | _ => false) = true) : PE X e (tD T fun ρ m => evE (S.g.call d) S.g.mt (.prim p cs) ρ m) ∧ (isX (.prim p cs) = true → PE X e (tX T fun ρ m => evE (S.g.call d) S.g.mt (.prim p cs) ρ m)) ∧ (tOk (.prim p cs) = true → PT X e (tT T (tO fun ρ m => evE (S.g.call d) S.g.mt (.prim p cs) ρ m))) := by
  split at h
  · simp only [Bool.and_eq_true, beq_iff_eq] at h
    obtain ⟨⟨⟨h1, rfl⟩, h3⟩, h4⟩ := h
    obtain ⟨g1, g2⟩ := blt_eq C h3
    obtain ⟨a1, _, a3⟩ := hs T X L _ C h4
    rw [List.all_cons, Bool.and_eq_true] at a3
    refine out3x C rfl ?_
    cases p <;> first | cases h1 | skip
    · exact g_prim (p_len C.ok) g1 g2 (by decide +kernel) a1 (by decide +kernel) (by decide +kernel) (star1 a3.1) (pl_of a3.2)
    · exact g_primT (p_tuple C.ok) g1 g2 (by decide +kernel) a1 (by decide +kernel) (by decide +kernel) (star1 a3.1) (pl_of a3.2)
    · exact g_primT (p_list C.ok) g1 g2 (by decide +kernel) a1 (by decide +kernel) (by decide +kernel) (star1 a3.1) (pl_of a3.2)
    · exact g_prim (p_all C.ok) g1 g2 (by decide +kernel) a1 (by decide +kernel) (by decide +kernel) (star1 a3.1) (pl_of a3.2)
    · exact g_prim (p_any C.ok) g1 g2 (by decide +kernel) a1 (by decide +kernel) (by decide +kernel) (star1 a3.1) (pl_of a3.2)
    · exact g_prim (p_sum C.ok) g1 g2 (by decide +kernel) a1 (by decide +kernel) (by decide +kernel) (star1 a3.1) (pl_of a3.2)
    · exact g_primT (p_int C.ok) g1 g2 (by decide +kernel) a1 (by decide +kernel) (by decide +kernel) (star1 a3.1) (pl_of a3.2)
    · exact g_prim (p_min C.ok) g1 g2 (by decide +kernel) a1 (by decide +kernel) (by decide +kernel) (star1 a3.1) (pl_of a3.2)
    · exact g_prim (p_max C.ok) g1 g2 (by decide +kernel) a1 (by decide +kernel) (by decide +kernel) (star1 a3.1) (pl_of a3.2)
  · cases h
theorem se_ix {o i : CE} (ho : SE S d k o) (hi : SE S d k i) : SE S d k (.ix o i) := fun T X L e C h => by
  unfold chkE at h
  split at h
  · simp only [Bool.and_eq_true] at h
    obtain ⟨⟨h1, h2⟩, h3⟩ := h
    exact out3 C rfl (g_ix C.ok (pix h1) (ho T X L _ C h2).1 (hi T X L _ C h3).1) rfl
  · cases h
theorem so_of {c : CE} (hc : SE S d k c) (e : Option Expr) (C : Ctx S d k T X L) (h : optB (isNob c) e (fun e => chkE S c L e) = true) : PO X e (tB1 T fun ρ m => bnd c (evE (S.g.call d) S.g.mt c ρ m)) := by
  cases e with
  | none =>
    have h : isNob c = true := h
    cases c <;> first | exact g_bnd0 (f := fun _ m => .ok (.p .non) m) | cases h
  | some e =>
    have h : (!isNob c && chkE S c L e) = true := h
    rw [Bool.and_eq_true] at h
    exact g_bnd (fun z => by rw [z] at h; cases h.1) (hc T X L _ C h.2).1
theorem se_slice {o l u : CE} (ho : SE S d k o) (hl : SE S d k l) (hu : SE S d k u) : SE S d k (.slice o l u) := fun T X L e C h => by
  unfold chkE at h
  split at h
  · simp only [Bool.and_eq_true] at h
    obtain ⟨⟨h1, h2⟩, h3⟩ := h
    exact out3x C rfl (g_slice C.ok (ho T X L _ C h1).1 (so_of hl _ C h2) (so_of hu _ C h3))
  · cases h
theorem se_mkxO {c n : Nat} {cs : CEs} (hs : SEs S d k cs) : SE S d k (.mkx c (some n) cs) := fun T X L e C h => by
  unfold chkE at h
  split at h
  · simp only [Bool.and_eq_true, Bool.not_eq_true'] at h
    obtain ⟨⟨⟨h1, h2⟩, h3⟩, h4⟩ := h
    split at h2
    · rename_i q hq
      simp only [Bool.and_eq_true, beq_iff_eq, decide_eq_true_eq] at h2
      obtain ⟨⟨⟨h5, rfl⟩, rfl⟩, h6⟩ := h2
      obtain ⟨_, a2, a3⟩ := hs T X L _ C h4
      rw [List.all_cons, Bool.and_eq_true] at a3
      exact out3 C rfl (g_mkxO C.ok (C.xc c q hq) h5 h6 (C.room.mono (Nat.le_trans (by decide) C.k3)) (xc_eq C h1) a2 h3 (star1 a3.1) (pl_of a3.2)) rfl
    · cases h2
  · cases h
theorem se_mkxN {c : Nat} {a : CE} (ha : SE S d k a) : SE S d k (.mkx c none (.cons a .nil)) := fun T X L e C h => by
  unfold chkE at h
  split at h
  · simp only [Bool.and_eq_true, Bool.not_eq_true'] at h
    obtain ⟨⟨⟨⟨h1, h2⟩, h3⟩, h4⟩, h5⟩ := h
    split at h2
    · rename_i q hq
      simp only [Bool.and_eq_true, beq_iff_eq, Bool.not_eq_true'] at h2
      obtain ⟨h6, rfl⟩ := h2
      exact out3 C rfl (g_mkxN C.ok (C.xc c q hq) h6 (xc_eq C h1) (ha T X L _ C h5).1 h3 (star1 h4)) rfl
    · cases h2
  · cases h
theorem se_isx {n : Nat} {js : List Nat} {a : CE} (ha : SE S d k a) : SE S d k (.isx n js a) := fun T X L e C h => by
  unfold chkE at h
  split at h
  · simp only [Bool.and_eq_true, beq_iff_eq, Bool.not_eq_true'] at h
    obtain ⟨⟨⟨⟨⟨⟨rfl, h2⟩, h3⟩, rfl⟩, h5⟩, h6⟩, h7⟩ := h
    obtain ⟨g1, g2⟩ := blt_eq C h2
    refine out3 C rfl ?_ rfl
    unfold isxB at h7
    split at h7
    · rename_i eg
      simp only [Bool.and_eq_true, beq_iff_eq] at h7
      obtain ⟨rfl, h8⟩ := h7
      rw [List.all_eq_true] at h8
      obtain ⟨g3, g4⟩ := glb_eq C eg
      exact g_isv C.ok C.xc (fun c q hq => h8 c (List.mem_range.mpr (List.getElem?_eq_some_iff.mp hq).1)) (ha T X L _ C h6).1 g1 g2 g3 g4 (star1 h3) (star1 rfl) (pl_of rfl)
    · rename_i j eg
      split at h7
      · rename_i qj hj
        simp only [Bool.and_eq_true, beq_iff_eq] at h7
        obtain ⟨rfl, h8⟩ := h7
        rw [List.all_eq_true] at h8
        refine g_isx C.ok C.xc hj (fun c q hq => ?_) (ha T X L _ C h6).1 g1 g2 (glb_eq C eg).1 h5 (star1 h3) (star1 rfl) (pl_of rfl)
        have := h8 c (List.mem_range.mpr (List.getElem?_eq_some_iff.mp hq).1)
        rw [hq] at this
        exact beq_iff_eq.mp this
      · cases h7
    · cases h7
  · cases h
theorem se_fldx {f : Str} {cks : List (Nat × Nat)} {a : CE} (ha : SE S d k a) : SE S d k (.fldx f cks a) := fun T X L e C h => by
  unfold chkE at h
  split at h
  · simp only [Bool.and_eq_true, beq_iff_eq] at h
    obtain ⟨⟨⟨rfl, h2⟩, h3⟩, h4⟩ := h
    rw [List.all_eq_true] at h3
    refine out3 C rfl (g_fldx C.ok C.xc (fun c k hk => ?_) (ha T X L _ C h4).1 (atb h2)) rfl
    have mem : ∀ (l : List (Nat × Nat)), l.lookup c = some k → (c, k) ∈ l := by
      intro l
      induction l with
      | nil => intro h; simp at h
      | cons p l ih =>
        intro h
        obtain ⟨a, b⟩ := p
        rw [List.lookup_cons] at h
        by_cases e : c = a
        · subst e
          rw [beq_self_eq_true] at h
          cases h
          exact List.mem_cons_self
        · have : (c == a) = false := by simpa using e
          rw [this] at h
          exact List.mem_cons_of_mem _ (ih h)
    have z := h3 (c, k) (mem cks hk)
    dsimp only at z
    split at z
    · rename_i q hq
      rw [Bool.and_eq_true] at z
      refine ⟨q, hq, z.1, ?_⟩
      have z2 := z.2
      split at z2
      · rename_i g hg
        rw [hg, eq_of_beq z2]
      · cases z2
    · cases z
  · cases h
theorem nms_of (C : Ctx S d k T X L) : ∀ (is : List Nat) (es : List Expr), nmsB L is es = true → PGs X es (tGs T is) ∧ PGs X es (tGsD T is) ∧ es.all noStar = true ∧ is.length = es.length
  | [], [], _ => ⟨g_nms_nil, g_nmsD_nil, rfl, rfl⟩
  | i :: is, .Name x p :: es, h => by
    simp only [nmsB, Bool.and_eq_true] at h
    obtain ⟨⟨h1, h2⟩, h3⟩ := h
    obtain ⟨a1, a2, a3, a4⟩ := nms_of C is es h3
    obtain ⟨b1, _, _⟩ := slot_eq C h1
    obtain ⟨c1, c2⟩ := loc_eq C h2
    exact ⟨g_nms_cons C.ok.nd b1 c1 c2 a1 (ase_map rfl), g_nmsD_cons C.ok.nd b1 c1 c2 a2 (ase_map rfl), by rw [List.all_cons, a3]; rfl, by simp [a4]⟩
theorem tg_of (C : Ctx S d k T X L) {tg : Tg} {e : Expr} (h : tgB L tg e = true) : PG X e (tG T tg.vars (bindTg tg)) := by
  unfold tgB at h
  split at h
  · simp only [Bool.and_eq_true] at h
    obtain ⟨h1, h2⟩ := h
    obtain ⟨b1, _, _⟩ := slot_eq C h1
    obtain ⟨c1, c2⟩ := loc_eq C h2
    exact g_nm C.ok.nd b1 c1 c2
  · simp only [Bool.and_eq_true, beq_iff_eq] at h
    obtain ⟨a1, _, a3, a4⟩ := nms_of C _ _ h.1
    exact g_tp C.ok a1 (by rw [ase_len]; exact a4.symm) (ase_no a3)
  · cases h
theorem own_vars (L : Loc1) (is : List Nat) : (ownL L is).map (·.2) = is := by
  unfold ownL
  rw [List.map_map]
  exact List.map_id' is
theorem se_comp {elt : CE} {tg : Tg} {it : CI} {ifs : CEs} (hi : SI S d k it) (hf : SIf S d k ifs) (he : SE S d k elt) : SE S d k (.comp elt tg it ifs) := fun T X L e C h => by
  unfold chkE at h
  split at h
  · rename_i x t i fs scope pos
    simp only [Bool.and_eq_true] at h
    obtain ⟨⟨⟨⟨⟨h1, h2⟩, h3⟩, h4⟩, h5⟩, h6⟩ := h
    refine out3x C rfl ?_
    have h := g_lc (T := T) (own := ownL L tg.vars) (pos := pos) C.ok (hi T X L _ _ C h3) (by rw [C.N, C.sc]; exact blkOk_by h1) (fun gh s H D cl fp => by rw [own_vars]; exact tg_of (C.blk h1 s H D cl fp).g h4) (fun gh s H D cl fp => hf _ _ _ _ (C.blk h1 s H D cl fp).g h5) (fun gh s H D cl fp => (he _ _ _ _ (C.blk h1 s H D cl fp).g h6).1) (fsi h2)
    rw [own_vars] at h
    exact h
  · cases h
/-! ### lists of terms -/
theorem ses_nil : SEs S d k .nil := fun T X L es C h => by
  unfold chkEs at h
  cases es with
  | nil => exact ⟨g_nil, g_nilP, rfl⟩
  | cons _ _ => cases h
theorem ses_cons {c : CE} {cs : CEs} (hc : SE S d k c) (hs : SEs S d k cs) : SEs S d k (.cons c cs) := fun T X L es C h => by
  unfold chkEs at h
  cases es with
  | nil => cases h
  | cons e es =>
    simp only [Bool.and_eq_true] at h
    obtain ⟨⟨h1, h2⟩, h3⟩ := h
    obtain ⟨a1, a2, a3⟩ := hs T X L es C h3
    exact ⟨g_cons (hc T X L e C h2).1 a1 (star1 h1), g_consP (hc T X L e C h2).1 a2 (star1 h1), by rw [List.all_cons, h1, a3]; rfl⟩
theorem sb_nil : SB S d k .nil := fun T X L es pos C h => by
  unfold chkB at h
  cases h
theorem sb_one {c : CE} (hc : SE S d k c) : SB S d k (.cons c .nil) := fun T X L es pos C h => by
  unfold chkB at h
  split at h
  · rw [Bool.and_eq_true] at h
    obtain ⟨a1, _, a3⟩ := hc T X L _ C h.2
    exact ⟨⟨pe_one a1, pw_and1 (a3 h.1)⟩, ⟨pe_one a1, pw_or1 (a3 h.1)⟩⟩
  · cases h
theorem sb_cons {c c2 : CE} {cs : CEs} (hc : SE S d k c) (hs : SB S d k (.cons c2 cs)) : SB S d k (.cons c (.cons c2 cs)) := fun T X L es pos C h => by
  unfold chkB at h
  split at h
  · simp only [Bool.and_eq_true] at h
    obtain ⟨⟨h1, h2⟩, h3⟩ := h
    obtain ⟨a1, _, a3⟩ := hc T X L _ C h2
    obtain ⟨⟨b1, b2⟩, ⟨b3, b4⟩⟩ := hs T X L _ pos C h3
    exact ⟨⟨g_and C.ok a1 b1, g_andT (a3 h1) b2⟩, ⟨g_or C.ok a1 b3, g_orT (a3 h1) b4⟩⟩
  · cases h
theorem sif_nil : SIf S d k .nil := fun T X L es C h => by
  unfold chkIfs at h
  cases es with
  | nil => exact g_ifs0
  | cons _ _ => cases h
theorem sif_one {c : CE} (hc : SE S d k c) : SIf S d k (.cons c .nil) := fun T X L es C h => by
  unfold chkIfs at h
  split at h
  · rw [Bool.and_eq_true] at h
    exact g_ifs1 ((hc T X L _ C h.2).2.2 h.1)
  · cases h
theorem sif_two {c c2 : CE} {cs : CEs} : SIf S d k (.cons c (.cons c2 cs)) := fun T X L es C h => by
  unfold chkIfs at h
  cases h
/-! ### walks -/
theorem si_seq {a : CE} (ha : SE S d k a) : SI S d k (.seq a) := fun T X L t e C h => by
  unfold chkI at h
  exact g_seq C.ok (ha T X L _ C h).1
theorem si_rng1 {a : CE} (ha : SE S d k a) : SI S d k (.rng1 a) := fun T X L t e C h => by
  unfold chkI at h
  split at h
  · simp only [Bool.and_eq_true, beq_iff_eq] at h
    obtain ⟨⟨⟨rfl, h2⟩, h3⟩, h4⟩ := h
    obtain ⟨g1, g2⟩ := blt_eq C h2
    exact g_rng1 g1 g2 (ha T X L _ C h4).1 (star1 h3)
  · cases h
theorem si_rng {a b : CE} (ha : SE S d k a) (hb : SE S d k b) : SI S d k (.rng a b) := fun T X L t e C h => by
  unfold chkI at h
  split at h
  · simp only [Bool.and_eq_true, beq_iff_eq] at h
    obtain ⟨⟨⟨⟨⟨rfl, h2⟩, h3⟩, h4⟩, h5⟩, h6⟩ := h
    obtain ⟨g1, g2⟩ := blt_eq C h2
    exact g_rng g1 g2 (ha T X L _ C h5).1 (hb T X L _ C h6).1 (star1 h3) (star1 h4)
  · cases h
theorem si_enum {a : CE} (ha : SE S d k a) : SI S d k (.enum a) := fun T X L t e C h => by
  unfold chkI at h
  split at h
  · simp only [Bool.and_eq_true, beq_iff_eq] at h
    obtain ⟨⟨⟨⟨rfl, h2⟩, h3⟩, h4⟩, h5⟩ := h
    obtain ⟨g1, g2⟩ := blt_eq C h2
    cases t with
    | Tuple elts kk tpos => exact g_enum C.ok g1 g2 (ha T X L _ C h4).1 (star1 h3)
    | _ => cases h5
  · cases h
theorem si_zip {a b : CE} {s : Bool} (ha : SE S d k a) (hb : SE S d k b) : SI S d k (.zip a b s) := fun T X L t e C h => by
  unfold chkI at h
  split at h
  · simp only [Bool.and_eq_true, beq_iff_eq, Bool.not_eq_true'] at h
    obtain ⟨⟨⟨⟨⟨⟨⟨rfl, rfl⟩, h2⟩, h3⟩, h4⟩, h5⟩, h6⟩, h7⟩ := h
    obtain ⟨g1, g2⟩ := blt_eq C h2
    cases t with
    | Tuple elts kk tpos => exact g_zip C.ok g1 g2 (ha T X L _ C h5).1 (hb T X L _ C h6).1 (star1 h3) (star1 h4) (pl_of (by simp [h4]))
    | _ => cases h7
  · cases h
end
end Lot
/-! LotR: every term; statements. -/
namespace Lot
open PySem PySem.Spec PyProof.Rows L2
section
variable (S : Sg) (d k : Nat)
theorem se_no {c : CE} (h : ∀ L e, chkE S c L e = false) : SE S d k c := fun T X L e C q => by rw [h] at q; cases q
mutual
theorem sndE : ∀ c : CE, SE S d k c
  | .var i => se_var i
  | .lit p => se_lit p
  | .gint n i => se_gint n i
  | .gstr n s => se_gstr n s
  | .gtup .. => se_no S d k fun _ _ => by unfold chkE; rfl
  | .gfn .. => se_no S d k fun _ _ => by unfold chkE; rfl
  | .tup es => se_tup (sndEs es)
  | .lst es => se_lst (sndEs es)
  | .ndict .. => se_no S d k fun _ _ => by unfold chkE; rfl
  | .ddict .. => se_no S d k fun _ _ => by unfold chkE; rfl
  | .alloc c => se_alloc (sndE c)
  | .frz c => se_frz (sndE c)
  | .bin op a b => se_bin (sndE a) (sndE b)
  | .neg a => se_neg (sndE a)
  | .not a => se_not (sndE a)
  | .cmp op a b => se_cmp (sndE a) (sndE b)
  | .chain _ _ a b c => se_chain (sndE a) (sndE b) (sndE c)
  | .and es => se_and (sndB es)
  | .or es => se_or (sndB es)
  | .ife c a b => se_ife (sndE c) (sndE a) (sndE b)
  | .call f es => se_call (sndEs es)
  | .callv .. => se_no S d k fun _ _ => by unfold chkE; rfl
  | .new .. => se_no S d k fun _ _ => by unfold chkE; rfl
  | .meth .. => se_no S d k fun _ _ => by unfold chkE; rfl
  | .fld .. => se_no S d k fun _ _ => by unfold chkE; rfl
  | .prim (.isi [t]) (.cons a .nil) => se_isi1 (sndE a)
  | .prim (.isi [t, t2]) (.cons a .nil) => se_isi2 (sndE a)
  | .prim (.isi []) es => fun T X L e C h => by
    unfold chkE at h
    exact se_prim (sndEs es) T X L e C h
  | .prim (.isi (_ :: _ :: _ :: _)) es => fun T X L e C h => by
    unfold chkE at h
    exact se_prim (sndEs es) T X L e C h
  | .prim (.isi [_]) .nil => fun T X L e C h => by
    unfold chkE at h
    exact se_prim (sndEs .nil) T X L e C h
  | .prim (.isi [_]) (.cons a (.cons b es)) => fun T X L e C h => by
    unfold chkE at h
    exact se_prim (sndEs (.cons a (.cons b es))) T X L e C h
  | .prim (.isi [_, _]) .nil => fun T X L e C h => by
    unfold chkE at h
    exact se_prim (sndEs .nil) T X L e C h
  | .prim (.isi [_, _]) (.cons a (.cons b es)) => fun T X L e C h => by
    unfold chkE at h
    exact se_prim (sndEs (.cons a (.cons b es))) T X L e C h
  | .prim .len es => fun T X L e C h => by unfold chkE at h; exact se_prim (sndEs es) T X L e C h
  | .prim .sorted es => fun T X L e C h => by unfold chkE at h; exact se_prim (sndEs es) T X L e C h
  | .prim .tuple es => fun T X L e C h => by unfold chkE at h; exact se_prim (sndEs es) T X L e C h
  | .prim .list es => fun T X L e C h => by unfold chkE at h; exact se_prim (sndEs es) T X L e C h
  | .prim .set es => fun T X L e C h => by unfold chkE at h; exact se_prim (sndEs es) T X L e C h
  | .prim .dict es => fun T X L e C h => by unfold chkE at h; exact se_prim (sndEs es) T X L e C h
  | .prim .all es => fun T X L e C h => by unfold chkE at h; exact se_prim (sndEs es) T X L e C h
  | .prim .any es => fun T X L e C h => by unfold chkE at h; exact se_prim (sndEs es) T X L e C h
  | .prim .sum es => fun T X L e C h => by unfold chkE at h; exact se_prim (sndEs es) T X L e C h
  | .prim .int es => fun T X L e C h => by unfold chkE at h; exact se_prim (sndEs es) T X L e C h
  | .prim .bool es => fun T X L e C h => by unfold chkE at h; exact se_prim (sndEs es) T X L e C h
  | .prim .repr es => fun T X L e C h => by unfold chkE at h; exact se_prim (sndEs es) T X L e C h
  | .prim .min es => fun T X L e C h => by unfold chkE at h; exact se_prim (sndEs es) T X L e C h
  | .prim .max es => fun T X L e C h => by unfold chkE at h; exact se_prim (sndEs es) T X L e C h
  | .prim .lenset es => fun T X L e C h => by unfold chkE at h; exact se_prim (sndEs es) T X L e C h
  | .prim .sortset es => fun T X L e C h => by unfold chkE at h; exact se_prim (sndEs es) T X L e C h
  | .mkx c (some n) es => se_mkxO (sndEs es)
  | .mkx c none .nil => se_no S d k fun _ _ => by unfold chkE; rfl
  | .mkx c none (.cons a .nil) => se_mkxN (sndE a)
  | .mkx c none (.cons a (.cons b es)) => se_no S d k fun _ _ => by unfold chkE; rfl
  | .isx n js a => se_isx (sndE a)
  | .fldx f cks a => se_fldx (sndE a)
  | .bmeth .. => se_no S d k fun _ _ => by unfold chkE; rfl
  | .nob => se_no S d k fun _ _ => by unfold chkE; rfl
  | .ix o i => se_ix (sndE o) (sndE i)
  | .gix .. => se_no S d k fun _ _ => by unfold chkE; rfl
  | .gin .. => se_no S d k fun _ _ => by unfold chkE; rfl
  | .slice o l u => se_slice (sndE o) (sndE l) (sndE u)
  | .rev .. => se_no S d k fun _ _ => by unfold chkE; rfl
  | .comp elt tg it ifs => se_comp (sndI it) (sndIf ifs) (sndE elt)
  | .comp2 .. => se_no S d k fun _ _ => by unfold chkE; rfl
  | .dcomp .. => se_no S d k fun _ _ => by unfold chkE; rfl
theorem sndEs : ∀ cs : CEs, SEs S d k cs
  | .nil => ses_nil
  | .cons c cs => ses_cons (sndE c) (sndEs cs)
theorem sndB : ∀ cs : CEs, SB S d k cs
  | .nil => sb_nil
  | .cons c .nil => sb_one (sndE c)
  | .cons c (.cons c2 cs) => sb_cons (sndE c) (sndB (.cons c2 cs))
theorem sndIf : ∀ cs : CEs, SIf S d k cs
  | .nil => sif_nil
  | .cons c .nil => sif_one (sndE c)
  | .cons c (.cons c2 cs) => sif_two
theorem sndI : ∀ c : CI, SI S d k c
  | .seq e => si_seq (sndE e)
  | .rng a b => si_rng (sndE a) (sndE b)
  | .rng1 a => si_rng1 (sndE a)
  | .enum a => si_enum (sndE a)
  | .zip a b s => si_zip (sndE a) (sndE b)
  | .revd _ => fun T X L t e C h => by unfold chkI at h; cases h
  | .items _ => fun T X L t e C h => by unfold chkI at h; cases h
end
end
end Lot
/-! LotS: the look at statements; what holds then. -/
namespace Lot
open PySem PySem.Spec PyProof.Rows L2
/-- in what order a pair of values is stored -/
def swsB (env : PySem.Env) (ts vs : List Expr) : Option (Option (List Str)) :=
  if !(ts.length == 2 || ts.length == 3) || vs.length != ts.length || env.blockKind != .function then some none else
  if (vs.any fun | .Starred .. => true | _ => false) then some none else
  if (ts.filterMap fun
    | .Name id pos => if env.kindOf id == some .local && pos.line == (ts.head?.map (·.pos.line)).getD 0 then some id else none
    | _ => none).length != ts.length || (ts.filterMap fun
    | .Name id pos => if env.kindOf id == some .local && pos.line == (ts.head?.map (·.pos.line)).getD 0 then some id else none
    | _ => none).eraseDups.length != (ts.filterMap fun
    | .Name id pos => if env.kindOf id == some .local && pos.line == (ts.head?.map (·.pos.line)).getD 0 then some id else none
    | _ => none).length then some none else
  if vs.all (foldedForSure 8) then some none else
  if vs.all (constantsAlone 8) then none else
  some (some (ts.filterMap fun
    | .Name id pos => if env.kindOf id == some .local && pos.line == (ts.head?.map (·.pos.line)).getD 0 then some id else none
    | _ => none))
theorem sws_ok {env : PySem.Env} {ts vs : List Expr} {k k2 : Nat} {p p2 : Pos} {r : Option (List Str)} (h : swsB env ts vs = some r) : swappedStores [.Tuple ts k p] (.Tuple vs k2 p2) env = pure r := by
  unfold swsB at h
  unfold swappedStores
  dsimp only
  split at h
  · rename_i c; cases h; exact if_pos c
  · rename_i c
    refine (if_neg c).trans ?_
    split at h
    · rename_i c; cases h; exact if_pos c
    · rename_i c
      refine (if_neg c).trans ?_
      split at h
      · rename_i c; cases h; exact if_pos c
      · rename_i c
        refine (if_neg c).trans ?_
        split at h
        · rename_i c; cases h; exact if_pos c
        · rename_i c
          refine (if_neg c).trans ?_
          split at h
          · cases h
          · rename_i c; cases h; exact if_neg c
def envS (sc : Scope) : PySem.Env := { scope := sc, locals := 0, globals := 0, cells := [], qual := "", func := none, code := .none, frame := none, builtins := 0 }
theorem swsB_sc (env : PySem.Env) (ts vs : List Expr) : swsB env ts vs = swsB (envS env.scope) ts vs := rfl
/-! ### the look -/
/-- a comprehension's list that is stored on its own line -/
def sameB (L : Loc1) (x : Str) (py pos : Pos) (scope : Scope) : Bool := lclB L x && py.line == pos.line && !(scope.names.any fun (n, k) => n == x && (k == .local || k == .cell))
def isIntC : CE → Bool
  | _ => true
def augB : BOp → Operator → Bool
  | .add, .Add => true
  | .sub, .Sub => true
  | _, _ => false
section
variable (S : Sg)
def parB (L : Loc1) (is : List Nat) (ts es : List Expr) : Bool := match swsB (envS L.sc) ts es with
  | some none => nmsB L is ts
  | some (some ns) => (match is, ts, ns with
    | [i, j], [.Name x _, .Name y _], [x', y'] => slotB L i x && slotB L j y && lclB L x && lclB L y && i != j && x == x' && y == y'
    | [i, j, l], [.Name x _, .Name y _, .Name z _], [x', y', z'] => slotB L i x && slotB L j y && slotB L l z && lclB L x && lclB L y && lclB L z && i != j && i != l && j != l && x == x' && y == y' && z == z'
    | _, _, _ => false)
  | none => false
/-- a store of a comprehension in its own frame -/
def chkC (L : Loc1) (i : Nat) (c : CE) (y : Str) (py : Pos) (e : Expr) : Bool := match c, e with
  | .comp elt tg it ifs, .ListComp x [⟨t, it', fs, 0⟩] scope pos => slotB L i y && sameB L y py pos scope && blkC L.N L.sc scope (ownL L tg.vars) && noSet it' && chkI S it L t it' && tgB (relL L scope) tg t && chkIfs S ifs (relL L scope) fs && chkE S elt (relL L scope) x
  | .alloc (.comp elt tg it ifs), .ListComp x [⟨t, it', fs, 0⟩] scope pos => slotB L i y && sameB L y py pos scope && blkC L.N L.sc scope (ownL L tg.vars) && noSet it' && chkI S it L t it' && tgB (relL L scope) tg t && chkIfs S ifs (relL L scope) fs && chkE S elt (relL L scope) x
  | _, _ => false
mutual
def chkS : CS → Loc1 → Stmt → Bool
  | .expr c, L, st => match st with
    | .Expr e _ => noComp e && chkE S c L e
    | _ => false
  | .set i c, L, st => match st with
    | .Assign [.Name x _] e _ => noComp e && slotB L i x && locB L x && chkE S c L e
    | _ => false
  | .setc i c, L, st => match st with
    | .Assign [.Name x p] e _ => chkC S L i c x p e
    | _ => false
  | .unp is c, L, st => match st with
    | .Assign [.Tuple ts _ _] e _ => noComp e && !isTup e && nmsB L is ts && chkE S c L e
    | _ => false
  | .par is cs, L, st => match st with
    | .Assign [.Tuple ts _ _] (.Tuple es _ _) _ => parB L is ts es && chkEs S cs L es
    | _ => false
  | .setix o i c, L, st => match st with
    | .Assign [.Subscript x y _] e _ => noComp e && noSlice y && chkE S c L e && chkE S o L x && chkE S i L y
    | _ => false
  | .aug i op c, L, st => match st with
    | .AugAssign (.Name x _) o e _ => augB op o && slotB L i x && locB L x && chkE S c L e
    | _ => false
  | .ift c a b, L, st => match st with
    | .If x p q _ => tOk c && chkE S c L x && chkSs a L p && chkSs b L q
    | _ => false
  | .for tg it body, L, st => match st with
    | .For t i p [] _ => noSet i && chkI S it L t i && tgB L tg t && chkSs body L p
    | _ => false
  | .while c body, L, st => match st with
    | .While x p [] _ => tOk c && chkE S c L x && chkSs body L p
    | _ => false
  | .ret c, L, st => match st with
    | .Return (some e) _ => chkE S c L e
    | _ => false
  | .retn, _, st => match st with
    | .Return none _ => true
    | _ => false
  | .brk, _, st => match st with
    | .Break _ => true
    | _ => false
  | .cont, _, st => match st with
    | .Continue _ => true
    | _ => false
  | .pass, _, st => match st with
    | .Pass _ => true
    | _ => false
  | _, _, _ => false
def chkSs : CSs → Loc1 → List Stmt → Bool
  | .nil, _, sts => sts.isEmpty
  | .cons c cs, L, sts => match sts with
    | st :: sts => chkS c L st && chkSs cs L sts
    | [] => false
end
end
section
variable (S : Sg) (d k : Nat)
def SS (c : CS) : Prop := ∀ (T : Tb) (X : Cx) (L : Loc1) (st : Stmt), Ctx S d k T X L → PassesOwn (model X.prog X.w) X.A X.env X.xe → chkS S c L st = true → PS X st (tS T fun ρ m => evS (S.g.call d) S.g.mt c ρ m)
def SSs (c : CSs) : Prop := ∀ (T : Tb) (X : Cx) (L : Loc1) (st : List Stmt), Ctx S d k T X L → PassesOwn (model X.prog X.w) X.A X.env X.xe → chkSs S c L st = true → PSs X st (tS T fun ρ m => evSs (S.g.call d) S.g.mt c ρ m)
end
section
variable {S : Sg} {d k : Nat} {T : Tb} {X : Cx} {L : Loc1}
theorem ss_expr (c : CE) : SS S d k (.expr c) := fun T X L st C hp h => by
  unfold chkS at h
  split at h
  · rw [Bool.and_eq_true] at h
    exact s_expr (sndE S d k c T X L _ C h.2).1 (sw_no h.1)
  · cases h
theorem ss_set (i : Nat) (c : CE) : SS S d k (.set i c) := fun T X L st C hp h => by
  unfold chkS at h
  split at h
  · simp only [Bool.and_eq_true] at h
    obtain ⟨⟨⟨h1, h2⟩, h3⟩, h4⟩ := h
    obtain ⟨b1, _, _⟩ := slot_eq C h2
    obtain ⟨c1, c2⟩ := loc_eq C h3
    exact s_set C.ok.nd b1 c1 (sndE S d k c T X L _ C h4).1 (sw_no h1) c2
  · cases h
theorem ss_unp (is : List Nat) (c : CE) : SS S d k (.unp is c) := fun T X L st C hp h => by
  unfold chkS at h
  split at h
  · simp only [Bool.and_eq_true, Bool.not_eq_true'] at h
    obtain ⟨⟨⟨h1, h2⟩, h3⟩, h4⟩ := h
    obtain ⟨a1, _, a3, a4⟩ := nms_of C _ _ h3
    exact s_unp C.ok (sndE S d k c T X L _ C h4).1 a1 (by rw [ase_len]; exact a4.symm) (ase_no a3) (sws_no h1) (sst_no (by rw [h2]; rfl)) (ase_map rfl)
  · cases h
theorem blk_fn (C : Ctx S d k T X L) : X.env.scope = L.sc := C.sc
theorem ss_par (is : List Nat) (cs : CEs) : SS S d k (.par is cs) := fun T X L st C hp h => by
  unfold chkS at h
  split at h
  · rename_i ts kt pt es ke pe pos
    rw [Bool.and_eq_true] at h
    obtain ⟨h1, h2⟩ := h
    obtain ⟨a1, _, a3⟩ := sndEs S d k cs T X L _ C h2
    unfold parB at h1
    split at h1
    · rename_i hs
      rw [← C.sc, ← swsB_sc] at hs
      obtain ⟨_, b2, b3, b4⟩ := nms_of C _ _ h1
      exact s_parT C.ok a1 b2 (by rw [ase_len]; exact b4.symm) (ase_no b3) (sws_no rfl) (sws_ok hs) (ase_map rfl)
    · rename_i ns hs
      rw [← C.sc, ← swsB_sc] at hs
      split at h1
      · rename_i i j x px y py x' y'
        simp only [Bool.and_eq_true, beq_iff_eq, bne_iff_ne, ne_eq] at h1
        obtain ⟨⟨⟨⟨⟨⟨q1, q2⟩, q3⟩, q4⟩, q5⟩, rfl⟩, rfl⟩ := h1
        match es, h2, a1, hs with
        | [a, b], h2, a1, hs => exact s_par C.ok (slot_eq C q1).1 (slot_eq C q2).1 q5 (lcl_eq C q3) (lcl_eq C q4) a1 (sws_ok hs) (sws_no rfl)
        | [], _, _, hs => simp [swsB] at hs
        | [_], _, _, hs => simp [swsB] at hs
        | _ :: _ :: _ :: _, _, _, hs => simp [swsB] at hs
      · rename_i i j l x px y py z pz x' y' z'
        simp only [Bool.and_eq_true, beq_iff_eq, bne_iff_ne, ne_eq] at h1
        obtain ⟨⟨⟨⟨⟨⟨⟨⟨⟨⟨⟨q1, q2⟩, q3⟩, q4⟩, q5⟩, q6⟩, q7⟩, q8⟩, q9⟩, rfl⟩, rfl⟩, rfl⟩ := h1
        match es, h2, a1, hs with
        | [a, b, c], h2, a1, hs => exact s_par3 C.ok (slot_eq C q1).1 (slot_eq C q2).1 (slot_eq C q3).1 q7 q8 q9 (lcl_eq C q4) (lcl_eq C q5) (lcl_eq C q6) a1 (sws_ok hs) (sws_no rfl)
        | [], _, _, hs => simp [swsB] at hs
        | [_], _, _, hs => simp [swsB] at hs
        | [_, _], _, _, hs => simp [swsB] at hs
        | _ :: _ :: _ :: _ :: _, _, _, hs => simp [swsB] at hs
      · cases h1
    · cases h1
  · cases h
theorem ss_setix (o i c : CE) : SS S d k (.setix o i c) := fun T X L st C hp h => by
  unfold chkS at h
  split at h
  · simp only [Bool.and_eq_true] at h
    obtain ⟨⟨⟨⟨h1, h2⟩, h3⟩, h4⟩, h5⟩ := h
    exact s_setix C.ok (sndE S d k c T X L _ C h3).1 (sndE S d k o T X L _ C h4).1 (sndE S d k i T X L _ C h5).1 (asub h2) (sws_no h1) (sst_no (by simp [isTup])) (ase_map rfl)
  · cases h
theorem ss_aug (i : Nat) (op : BOp) (c : CE) : SS S d k (.aug i op c) := fun T X L st C hp h => by
  unfold chkS at h
  split at h
  · simp only [Bool.and_eq_true] at h
    obtain ⟨⟨⟨h1, h2⟩, h3⟩, h4⟩ := h
    obtain ⟨b1, _, _⟩ := slot_eq C h2
    obtain ⟨c1, c2⟩ := loc_eq C h3
    unfold augB at h1
    split at h1
    · exact s_aug C.ok.nd b1 c1 (sndE S d k c T X L _ C h4).1 ip_add (fun a b r e => by cases e; rfl) c2
    · exact s_aug C.ok.nd b1 c1 (sndE S d k c T X L _ C h4).1 ip_sub (fun a b r e => by cases e; rfl) c2
    · cases h1
  · cases h
theorem ss_ret (c : CE) : SS S d k (.ret c) := fun T X L st C hp h => by
  unfold chkS at h
  split at h
  · exact s_ret (sndE S d k c T X L _ C h).1
  · cases h
theorem ss_retn : SS S d k .retn := fun T X L st C hp h => by
  unfold chkS at h
  split at h
  · exact s_retn
  · cases h
theorem ss_brk : SS S d k .brk := fun T X L st C hp h => by
  unfold chkS at h
  split at h
  · exact s_brk
  · cases h
theorem ss_cont : SS S d k .cont := fun T X L st C hp h => by
  unfold chkS at h
  split at h
  · exact s_cont
  · cases h
theorem ss_pass : SS S d k .pass := fun T X L st C hp h => by
  unfold chkS at h
  split at h
  · exact s_pass
  · cases h
theorem same_sw (C : Ctx S d k T X L) {y : Str} {py pos : Pos} {elt : Expr} {gs : List Comprehension} {scope : Scope} {l : Nat} (h : sameB L y py pos scope = true) : X.env.scope.names.lookup y = some .local ∧ swapsWith (.ListComp elt gs scope pos) (some (.Name y py)) l X.env = pure true := by
  unfold sameB at h
  simp only [Bool.and_eq_true, Bool.not_eq_true'] at h
  obtain ⟨⟨h1, h2⟩, h3⟩ := h
  exact ⟨lcl_eq C h1, sw_true (by rw [C.sc]; exact C.kd) (lcl_eq C h1) h2 h3⟩
theorem ss_comp (al : Bool) {elt : CE} {tg : Tg} {it : CI} {ifs : CEs} {i : Nat} {y : Str} {py spos pos : Pos} {x t it' : Expr} {fs : List Expr} {scope : Scope} (C : Ctx S d k T X L)
    (h : (slotB L i y && sameB L y py pos scope && blkC L.N L.sc scope (ownL L tg.vars) && noSet it' && chkI S it L t it' && tgB (relL L scope) tg t && chkIfs S ifs (relL L scope) fs && chkE S elt (relL L scope) x) = true) :
    PS X (.Assign [.Name y py] (.ListComp x [⟨t, it', fs, 0⟩] scope pos) spos) (tS T (setO i (allocO al (lcO tg.vars (bindTg tg) (fun ρ m => evI (S.g.call d) S.g.mt it ρ m) (fun ρ m => evIfs (S.g.call d) S.g.mt ifs ρ m) fun ρ m => evE (S.g.call d) S.g.mt elt ρ m)))) := by
  simp only [Bool.and_eq_true] at h
  obtain ⟨⟨⟨⟨⟨⟨⟨h0, h0'⟩, h1⟩, h2⟩, h3⟩, h4⟩, h5⟩, h6⟩ := h
  obtain ⟨l1, l2⟩ := same_sw (elt := x) (gs := [⟨t, it', fs, 0⟩]) (l := spos.line) C h0'
  have h := s_setLc (T := T) (own := ownL L tg.vars) al C.ok (slot_eq C h0).1 l1 l2 (sndI S d k it T X L _ _ C h3) (by rw [C.N, C.sc]; exact blkOk_by h1) (fun gh s H D cl fp => by rw [own_vars]; exact tg_of (C.blk h1 s H D cl fp).g h4) (fun gh s H D cl fp => sndIf S d k ifs _ _ _ _ (C.blk h1 s H D cl fp).g h5) (fun gh s H D cl fp => (sndE S d k elt _ _ _ _ (C.blk h1 s H D cl fp).g h6).1) (fsi h2)
  rw [own_vars] at h
  exact h
theorem ss_setc (i : Nat) (c : CE) : SS S d k (.setc i c) := fun T X L st C hp h => by
  unfold chkS at h
  split at h
  · unfold chkC at h
    split at h
    · exact ss_comp false C h
    · exact ss_comp true C h
    · cases h
  · cases h
theorem ss_ift {c : CE} {a b : CSs} (ha : SSs S d k a) (hb : SSs S d k b) : SS S d k (.ift c a b) := fun T X L st C hp h => by
  unfold chkS at h
  split at h
  · simp only [Bool.and_eq_true] at h
    obtain ⟨⟨⟨h1, h2⟩, h3⟩, h4⟩ := h
    exact s_if ((sndE S d k c T X L _ C h2).2.2 h1) (ha T X L _ C hp h3) (hb T X L _ C hp h4)
  · cases h
theorem ss_for {tg : Tg} {it : CI} {a : CSs} (ha : SSs S d k a) : SS S d k (.for tg it a) := fun T X L st C hp h => by
  unfold chkS at h
  split at h
  · simp only [Bool.and_eq_true] at h
    obtain ⟨⟨⟨h1, h2⟩, h3⟩, h4⟩ := h
    exact s_for C.ok hp (sndI S d k it T X L _ _ C h2) (tg_of C h3) (ha T X L _ C hp h4) (fsi h1)
  · cases h
theorem ss_while {c : CE} {a : CSs} (ha : SSs S d k a) : SS S d k (.while c a) := fun T X L st C hp h => by
  unfold chkS at h
  split at h
  · simp only [Bool.and_eq_true] at h
    obtain ⟨⟨h1, h2⟩, h3⟩ := h
    exact s_while hp ((sndE S d k c T X L _ C h2).2.2 h1) (ha T X L _ C hp h3)
  · cases h
theorem sss_nil : SSs S d k .nil := fun T X L st C hp h => by
  unfold chkSs at h
  cases st with
  | nil => exact s_nil
  | cons _ _ => cases h
theorem sss_cons {c : CS} {cs : CSs} (hc : SS S d k c) (hs : SSs S d k cs) : SSs S d k (.cons c cs) := fun T X L st C hp h => by
  unfold chkSs at h
  cases st with
  | nil => cases h
  | cons st sts =>
    rw [Bool.and_eq_true] at h
    exact s_cons (hc T X L st C hp h.1) (hs T X L sts C hp h.2)
end
section
variable (S : Sg) (d k : Nat)
theorem ss_no {c : CS} (h : ∀ L e, chkS S c L e = false) : SS S d k c := fun T X L e C hp q => by rw [h] at q; cases q
mutual
theorem sndS : ∀ c : CS, SS S d k c
  | .expr c => ss_expr c
  | .set i c => ss_set i c
  | .setc i c => ss_setc i c
  | .unp is c => ss_unp is c
  | .par is cs => ss_par is cs
  | .setix o i c => ss_setix o i c
  | .setfld .. => ss_no S d k fun _ _ => by unfold chkS; rfl
  | .aug i op c => ss_aug i op c
  | .ift c a b => ss_ift (sndSs a) (sndSs b)
  | .for tg it a => ss_for (sndSs a)
  | .while c a => ss_while (sndSs a)
  | .ret c => ss_ret c
  | .retn => ss_retn
  | .brk => ss_brk
  | .cont => ss_cont
  | .pass => ss_pass
  | .raise .. => ss_no S d k fun _ _ => by unfold chkS; rfl
theorem sndSs : ∀ c : CSs, SSs S d k c
  | .nil => sss_nil
  | .cons c cs => sss_cons (sndS c) (sndSs cs)
end
end
end Lot
/-! LotT: defs, at any depth. -/
namespace Lot
open PySem PySem.Spec PyProof.Rows L2
section
variable {T : Tb} {α : Al} {W : Addr → Prop} {H : Hp} {m : Mem}
def aCut (α : Al) (n : Nat) : Al := fun i k => if i < n then α i k else none
theorem getM_take {n q : Nat} : getM (m.take n) q = if q < n then getM m q else .dead := by
  unfold getM
  by_cases h : q < n
  · rw [if_pos h, List.getElem?_take_of_lt h]
  · rw [if_neg h, List.getElem?_eq_none (by rw [List.length_take]; omega)]; rfl
theorem cell_take {n q k : Nat} {x : P} (h : cell (m.take n) q k = some x) : q < n ∧ cell m q k = some x := by
  unfold cell at h ⊢
  rw [getM_take] at h
  by_cases hq : q < n
  · rw [if_pos hq] at h; exact ⟨hq, h⟩
  · rw [if_neg hq] at h; cases h
theorem live_take {n q k : Nat} (h : live (m.take n) q k = true) : q < n ∧ live m q k = true := by
  unfold live cell at h ⊢
  rw [getM_take] at h
  by_cases hq : q < n
  · rw [if_pos hq] at h; exact ⟨hq, h⟩
  · rw [if_neg hq] at h; simp at h
theorem HR.take (hr : HR T α W H m) (n : Nat) : HR T (aCut α n) W H (m.take n) where
  wd := hr.wd
  out := fun q k h => by
    unfold aCut
    split
    · rename_i hq
      rw [List.length_take] at h
      exact hr.out q k (by omega)
    · rfl
  cel := fun q k x h => by
    obtain ⟨h1, h2⟩ := cell_take h
    unfold aCut
    rw [if_pos h1]
    exact hr.cel q k x h2
  ins := fun q c fs h => by
    rw [getM_take] at h
    by_cases hq : q < n
    · rw [if_pos hq] at h
      obtain ⟨a, h1, h2, h3⟩ := hr.ins q c fs h
      unfold aCut
      simp only [if_pos hq]
      exact ⟨a, h1, h2, h3⟩
    · rw [if_neg hq] at h; cases h
  inj := fun q k q' k' a l1 l2 e1 e2 => by
    obtain ⟨h1, h2⟩ := live_take l1
    obtain ⟨h3, h4⟩ := live_take l2
    unfold aCut at e1 e2
    rw [if_pos h1] at e1
    rw [if_pos h3] at e2
    exact hr.inj q k q' k' a h2 h4 e1 e2
  gho := fun a o h => by
    obtain ⟨h1, h2, h3⟩ := hr.gho a o h
    refine ⟨h1, h2, fun q k l e => ?_⟩
    obtain ⟨h4, h5⟩ := live_take l
    unfold aCut at e
    rw [if_pos h4] at e
    exact h3 q k h5 e
theorem Ext.cut {α' : Al} {W' : Addr → Prop} {H' : Hp} {n : Nat} (e : Ext α W H α' W' H') (h : ∀ q k, n ≤ q → α q k = none) : Ext α W H (aCut α' n) W' H' := ⟨fun q k a z => by
  unfold aCut
  have hq : q < n := by
    rcases Nat.lt_or_ge q n with y | y
    · exact y
    · rw [h q k y] at z; cases z
  rw [if_pos hq]
  exact e.al q k a z, e.hp⟩
/-- from a body's end to what the call tells -/
theorem Hg.settle {o : Out Fl} {Q : VK} (hr : HR T α W H m) (h : Hg T α W H (settle m.length o) (fin T Q)) : Hg T α W H o (endS T { nx := fun _ H' => Q .non H', rt := Q }) := by
  have cut : ∀ {α' : Al} {W' : Addr → Prop} {H' : Hp}, Ext α W H α' W' H' → Ext α W H (aCut α' m.length) W' H' := fun e => e.cut fun q k z => hr.out q k z
  unfold Lot.settle at h
  cases o with
  | exn _ _ _ => exact h
  | bad => exact h
  | ok fl m1 =>
    dsimp only [Out.bind_ok] at h
    cases fl with
    | nx ρ => exact fun α' W' H' e hr' σ _ => h _ _ _ (cut e) (hr'.take _) .non (by simp only [RD, Rp])
    | rt x =>
      cases x with
      | p x => exact fun α' W' H' e hr' v rv => h _ _ _ (cut e) (hr'.take _) v rv
      | ref q k => exact fun α' W' H' e hr' v rv => h _ _ _ e hr' v rv
      | fn i => exact fun α' W' H' e hr' v rv => h _ _ _ (cut e) (hr'.take _) v rv
      | scr l => exact h.elim
      | gt l => exact h.elim
    | bk ρ => exact h.elim
    | ct ρ => exact h.elim
theorem rs_start (N : List Str) : ∀ {ds : List D} {vs : List V}, RDL T α W H ds vs → RS T α W H (ds.map some ++ List.replicate (N.length - ds.length) none) (L2.start N vs) := by
  intro ds vs h
  have hl := rdl2 h
  unfold L2.start
  refine ⟨by simp [hl], fun i d e => ?_⟩
  by_cases hi : i < ds.length
  · rw [List.getElem?_append_left (by simpa using hi), List.getElem?_map] at e
    have key : ∀ (ds : List D) (vs : List V), RDL T α W H ds vs → ∀ (i : Nat) (d : D), ds[i]? = some d → ∃ v, vs[i]? = some v ∧ RD T α W H d v := by
      intro ds
      induction ds with
      | nil => intro vs _ i d h; simp at h
      | cons x xs ih =>
        intro vs h i d e
        obtain ⟨v, r, rfl, h1, h2⟩ := h
        cases i with
        | zero => simp at e; subst e; exact ⟨v, rfl, h1⟩
        | succ i => simpa using ih r h2 i d (by simpa using e)
    cases q : ds[i]? with
    | none => rw [q] at e; cases e
    | some x =>
      rw [q] at e
      cases e
      obtain ⟨v, h1, h2⟩ := key ds vs h i _ q
      exact ⟨v, by rw [List.getElem?_append_left (by rw [List.length_map, hl]; exact hi), List.getElem?_map, h1]; rfl, h2⟩
  · rw [List.getElem?_append_right (by simpa using hi)] at e
    rw [List.getElem?_replicate] at e
    split at e <;> cases e
end
/-! ### defs -/
/-- what the top has made of the defs and names -/
structure Tops (S : Sg) (T : Tb) (mg : Str → Option Value) : Prop where
  defs : ∀ f q, S.g.fns[f]? = some q → ∃ (st : Stmt) (fd : FuncData) (ps : List Str), FunD T.K q.name q.qual (defArgs st) (defBody st) (defScope st) [] [] (T.fa f) fd ∧ FnScope q.names ps (defScope st) ∧ ps.length = q.np ∧ chkSs S q.body ⟨q.names, defScope st, (defScope st).names⟩ (defBody st) = true ∧ Binds T.K fd ps []
  gl : ∀ x q, S.G.lookup x = some q → match q with
    | .blt => mg x = none
    | .fn i => mg x = some (.ref (T.fa i))
    | .int i => ∃ u, mg x = some u ∧ RelV (.int i) u
    | .str s => ∃ u, mg x = some u ∧ RelV (.str s) u
    | .xc _ => True
/-- .. of the exceptions' classes, over a base -/
def Xcs (S : Sg) (T : Tb) (mg : Str → Option Value) (base : Heap) : Prop := ∀ (X : Cx), X.mg = mg → X.base = base → ∀ c q, S.xs[c]? = some q → XcOk S.xs T X c q
def FnAt0 (T : Tb) (mg : Str → Option Value) (base : Heap) (k : Nat) (a : Addr) (cf : List D → Mem → Out D) : Prop := ∃ fd ps, FnOk T.P T.w T.K mg base CX0 k a fd ps (spF T cf) ∧ PySem.W.keepIn T.K (.ref a) = true ∧ Binds T.K fd ps []
theorem fn_step {S : Sg} {T : Tb} {mg : Str → Option Value} {base : Heap} (B : Tops S T mg) (BX : Xcs S T mg base) {d f : Nat} {q : Fn} (hf : S.g.fns[f]? = some q) {st : Stmt} {fd : FuncData} {ps : List Str} (F : FunD T.K q.name q.qual (defArgs st) (defBody st) (defScope st) [] [] (T.fa f) fd) (Sc : FnScope q.names ps (defScope st)) (hp : ps.length = q.np)
    (hc : chkSs S q.body ⟨q.names, defScope st, (defScope st).names⟩ (defBody st) = true) (ih : ∀ f q, S.g.fns[f]? = some q → FnAt0 T mg base (d + 3) (T.fa f) (S.g.call d f)) : FnOk T.P T.w T.K mg base CX0 (d + 1 + 3) (T.fa f) fd ps (spF T (S.g.call (d + 1) f)) := by
  have un : ∀ ds m, S.g.call (d + 1) f ds m = if ds.length = q.np then settle m.length (evSs (S.g.call d) S.g.mt q.body (ds.map some ++ List.replicate (q.names.length - q.np) none) m) else .bad := fun ds m => by
    show (match S.g.fns[f]? with | some q => _ | none => _) = _
    rw [hf]
  refine F.ok Sc (fun vs H Q E h => ?_) fun cdv A outer s H vs Q E hr h => ?_
  · obtain ⟨gh, α, W, m, ds, hr, rv, h⟩ := h
    rw [un] at h
    split at h
    · rename_i hl
      rw [rdl2 rv, hl, hp]
    · exact h.elim
  · obtain ⟨gh, α, W, m, ds, hr1, rv, h⟩ := h
    rw [un] at h
    split at h
    · rename_i hl
      refine ⟨_, PSs.nox (sndSs S d (d + 3) q.body (T.g gh) (cxOf CX0 T.P T.w T.K mg base q.names q.qual (defScope st) (T.fa f) cdv A outer s H E).nox ⟨q.names, defScope st, (defScope st).names⟩ (defBody st) ⟨⟨rfl, rfl, rfl, rfl, Sc.nd, ?_⟩, rfl, rfl, Sc.kind, fun _ _ => rfl, fun f q hf => ?_, hr, fun x q h => ?_, Nat.le_add_left 3 d, fun c qx h => ?_⟩ PassesOwn.never hc), α, W, _, m, hr1, ?_, Hg.settle hr1 h⟩
      · have := hr.un
        show (A.deeper _).units + 70 < cLine
        omega
      · exact ih f q hf
      · have := B.gl x q h
        cases q <;> exact this
      · have z := BX (cxOf CX0 T.P T.w T.K mg base q.names q.qual (defScope st) (T.fa f) cdv A outer s H E).nox rfl rfl c qx h
        exact ⟨z.mgx, z.isi, z.sub, z.ve, z.init, z.plain⟩
      · rw [← hl]
        exact rs_start q.names rv
    · exact h.elim
theorem fn_all {S : Sg} {T : Tb} {mg : Str → Option Value} {base : Heap} (B : Tops S T mg) (BX : Xcs S T mg base) : ∀ (d f : Nat) (q : Fn), S.g.fns[f]? = some q → FnAt0 T mg base (d + 3) (T.fa f) (S.g.call d f)
  | 0, f, q, hf => by
    obtain ⟨st, fd, ps, F, Sc, hp, hc, hb⟩ := B.defs f q hf
    have no : ∀ vs H Q E, ¬ spF T (S.g.call 0 f) vs H Q E := fun vs H Q E ⟨gh, α, W, m, ds, _, _, h⟩ => h
    exact ⟨fd, ps, ⟨fun vs H Q E h => (no _ _ _ _ h).elim, fun A outer s H args us vs Q E _ _ _ _ h => (no _ _ _ _ h).elim⟩, F.kp, hb⟩
  | d + 1, f, q, hf => by
    obtain ⟨st, fd, ps, F, Sc, hp, hc, hb⟩ := B.defs f q hf
    exact ⟨fd, ps, fn_step B BX hf F Sc hp hc fun f q hf => fn_all B BX d f q hf, F.kp, hb⟩
end Lot
/-! LotV: method calls on one line; an exception's __init__. -/
namespace Lot
open PySem PySem.Spec PyProof.Rows L2
/-! ### an __init__ -/
/-- the body of an own __init__: the base's __init__, then each field by its parameter -/
def initB (L : Loc1) (base : Str) (flds : List Str) (body : List Stmt) : Bool := match body, flds with
  | [.Expr (.Call (.Attribute (.Name x _) m p2) [.Name s _, .Constant (.str _) _ _] [] pos) _, .Assign [.Attribute (.Name s1 _) f1 _] (.Name y1 _) _], [g1] =>
    x == base && (L.sc.names.lookup x == some .globalImplicit) && !(x == ("__debug__" : Str)) && m == ("__init__" : Str) && p2.endLine == pos.line && slotB L 0 s && visB L s && slotB L 0 s1 && visB L s1 && slotB L 1 y1 && visB L y1 && f1 == g1
  | [.Expr (.Call (.Attribute (.Name x _) m p2) [.Name s _, .Constant (.str _) _ _] [] pos) _, .Assign [.Attribute (.Name s1 _) f1 _] (.Name y1 _) _, .Assign [.Attribute (.Name s2 _) f2 _] (.Name y2 _) _], [g1, g2] =>
    x == base && (L.sc.names.lookup x == some .globalImplicit) && !(x == ("__debug__" : Str)) && m == ("__init__" : Str) && p2.endLine == pos.line && slotB L 0 s && visB L s && slotB L 0 s1 && visB L s1 && slotB L 1 y1 && visB L y1 && f1 == g1 && slotB L 0 s2 && visB L s2 && slotB L 2 y2 && visB L y2 && f2 == g2
  | _, _ => false
/-- what is told of the base -/
structure BaseOk (K : PySem.W.Frag) (mg : Str → Option Value) (base : Str) (C0 : Addr) : Prop where
  mg : mg base = some (.ref C0)
  ty : PySem.W.typeIn K (.ref C0) = some (.type "type")
  op : PySem.W.nsIn K cStatics "thirdparty.any" = some none
  vV : PySem.W.findCls K (.ref C0) (.type "type") "__init__" = some (.val (.builtin "ValueError.__init__"))
theorem init_ok {P : Program} {w : World} {T : Tb} {mg : Str → Option Value} {base : Heap} {x qual : Str} {params : Arguments} {body : List Stmt} {scope : Scope} {f : Addr} {fd : FuncData} {N ps : List Str} {bn : Str} {C0 : Addr} {c : Nat} {flds : List Str}
    (F : FunD T.K x qual params body scope [] [] f fd) (S : FnScope N ps scope) (B : BaseOk T.K mg bn C0) (hX : OexC T.K (T.ca c)) (hp : ps.length = flds.length + 1) (hN : N.length = flds.length + 1) (hf : ∀ g ∈ flds, PySem.W.findIn T.K (.ref (T.ca c)) g = some none) (hb : initB ⟨N, scope, []⟩ bn flds body = true) :
    FnOk P w T.K mg base CX0 1 f fd ps (spX T c flds) := by
  refine F.ok S (fun vs H Q E h => ?_) (fun cdv A outer s H vs Q E hr h => ?_)
  · obtain ⟨a, ys, rfl, hl, _⟩ := h
    simp [hl, hp]
  · obtain ⟨a, ys, rfl, hl, ha, hq⟩ := h
    have vis : ∀ {x : Str}, visB ⟨N, scope, []⟩ x = true → Vis scope x := fun {x} h => by
      unfold visB at h
      unfold Vis
      split at h <;> first | cases h | skip
      · rename_i e; exact .inl e
      · rename_i e; exact .inr (.inl e)
      · rename_i e; exact .inr (.inr e)
    have slot : ∀ {i : Nat} {x : Str}, slotB ⟨N, scope, []⟩ i x = true → N[i]? = some x ∧ (x == ("__debug__" : Str)) = false ∧ (x == ("__classdict__" : Str)) = false := fun {i x} h => by
      unfold slotB at h
      split at h
      · rename_i y e
        simp only [Bool.and_eq_true, Bool.not_eq_true', beq_iff_eq] at h
        obtain ⟨⟨rfl, h1⟩, h2⟩ := h
        exact ⟨e, h1, h2⟩
      · cases h
    unfold initB at hb
    split at hb
    · rename_i x p1 m p2 sn ps' msg j pm pos posE s1 ps1 f1 pa1 y1 py1 pos1 g1
      simp only [Bool.and_eq_true, beq_iff_eq, Bool.not_eq_true'] at hb
      obtain ⟨⟨⟨⟨⟨⟨⟨⟨⟨⟨⟨rfl, b2⟩, b3⟩, rfl⟩, b5⟩, b6⟩, b7⟩, b8⟩, b9⟩, b10⟩, b11⟩, rfl⟩ := hb
      match ys, hl with
      | [y], _ =>
        obtain ⟨c1, c2, c3⟩ := slot b6
        obtain ⟨d1, d2, d3⟩ := slot b8
        obtain ⟨e1, e2, e3⟩ := slot b10
        refine ⟨_, PSs.nox (pss_cons (ps_expr (pe_xinit (pl := plainOf _ _) b2 B.mg B.ty B.op B.vV b3 (pa_cons (pe_var c1 (vis b7) c2 c3) (pa_cons pe_str pa_nil (star1 rfl)) (star1 rfl)) (mc_of (atb rfl) (by simpa using b5) rfl (by show 2 < 30; decide)) (star1 rfl) (pl_of rfl)) (sw_no rfl))
          (pss_one (ps_ost (pe_var d1 (vis b9) d2 d3) (pe_var e1 (vis b11) e2 e3) (sw_no rfl)))), ?_⟩
        have n0 : (L2.start N [V.ref a, y])[0]? = some (some (.ref a)) := rfl
        have n1 : (L2.start N [V.ref a, y])[1]? = some (some y) := rfl
        have gone : ∀ d, H d = none → d ≠ a → Q .non (upd (upd H d (exd d [(f1, y)])) a (exo a (T.ca c) (some d))) := fun d hd hda => hq d _ hd hda upd_same (by rw [upd_ne hda]; exact upd_same) fun b h1 h2 => by rw [upd_ne h1, upd_ne h2]
        exact ⟨_, n0, a, T.ca c, [.str msg], rfl, by show 1 ≤ 1000; decide, hX, ha, _, n1, _, n0, a, T.ca c, rfl, hX, hf _ (by simp), .inl ⟨ha, gone⟩⟩
    · rename_i x p1 m p2 sn ps' msg j pm pos posE s1 ps1 f1 pa1 y1 py1 pos1 s2 ps2 f2 pa2 y2 py2 pos2 g1 g2
      simp only [Bool.and_eq_true, beq_iff_eq, Bool.not_eq_true'] at hb
      obtain ⟨⟨⟨⟨⟨⟨⟨⟨⟨⟨⟨⟨⟨⟨⟨⟨rfl, b2⟩, b3⟩, rfl⟩, b5⟩, b6⟩, b7⟩, b8⟩, b9⟩, b10⟩, b11⟩, rfl⟩, b13⟩, b14⟩, b15⟩, b16⟩, rfl⟩ := hb
      match ys, hl with
      | [y, z], _ =>
        obtain ⟨c1, c2, c3⟩ := slot b6
        obtain ⟨d1, d2, d3⟩ := slot b8
        obtain ⟨e1, e2, e3⟩ := slot b10
        obtain ⟨h1, h2, h3⟩ := slot b13
        obtain ⟨i1, i2, i3⟩ := slot b15
        refine ⟨_, PSs.nox (pss_cons (ps_expr (pe_xinit (pl := plainOf _ _) b2 B.mg B.ty B.op B.vV b3 (pa_cons (pe_var c1 (vis b7) c2 c3) (pa_cons pe_str pa_nil (star1 rfl)) (star1 rfl)) (mc_of (atb rfl) (by simpa using b5) rfl (by show 2 < 30; decide)) (star1 rfl) (pl_of rfl)) (sw_no rfl))
          (pss_cons (ps_ost (pe_var d1 (vis b9) d2 d3) (pe_var e1 (vis b11) e2 e3) (sw_no rfl)) (pss_one (ps_ost (pe_var h1 (vis b14) h2 h3) (pe_var i1 (vis b16) i2 i3) (sw_no rfl))))), ?_⟩
        have n0 : (L2.start N [V.ref a, y, z])[0]? = some (some (.ref a)) := rfl
        have n1 : (L2.start N [V.ref a, y, z])[1]? = some (some y) := rfl
        have n2 : (L2.start N [V.ref a, y, z])[2]? = some (some z) := rfl
        refine ⟨_, n0, a, T.ca c, [.str msg], rfl, by show 1 ≤ 1000; decide, hX, ha, _, n1, _, n0, a, T.ca c, rfl, hX, hf _ (by simp), .inl ⟨ha, fun d hd hda => ?_⟩⟩
        refine ⟨_, n2, _, n0, a, T.ca c, rfl, hX, hf _ (by simp), .inr ⟨d, [(f1, y)], upd_same, by rw [upd_ne hda]; exact upd_same, by show 1 ≤ 900; decide, ?_⟩⟩
        refine hq d _ hd hda (by rw [upd_ne (Ne.symm hda)]; exact upd_same) upd_same fun b h1 h2 => by rw [upd_ne h2, upd_ne h1, upd_ne h2]
    · cases hb
end Lot
/-! LotW: from the head's facts and the evaluator's word to the law's promise. -/
namespace Lot
open PySem PySem.Spec PyProof.Rows L2
/-! ### what is looked at in the written part -/
def oexB (K : PySem.W.Frag) (C : Addr) : Bool := (match K.lookup C with
  | some ⟨.type "type", _, .cls cd, sl⟩ => (match cd.mro, sl.toList with
    | .ref C' :: bm, [_, _, _, _, some (.builtin n), _] => C' == C && n == "ValueError.__new__" && !cd.hasDel && cd.hasDict && PySem.HandSPX.refsVE bm
    | _, _ => false)
  | _ => false) && decide (PySem.W.findIn K (.ref C) "__setattr__" = some (some (.builtin "object.__setattr__"))) && decide (PySem.W.subIn K (.ref C) (.type "BaseException") = some true) && decide (PySem.W.typeIn K (.ref C) = some (.type "type")) && PySem.W.keepIn K (.ref C)
theorem oexB_ok {K : PySem.W.Frag} {C : Addr} (h : oexB K C = true) : OexC K C := by
  unfold oexB at h
  simp only [Bool.and_eq_true, decide_eq_true_eq] at h
  obtain ⟨⟨⟨⟨q, h2⟩, h3⟩, h4⟩, h5⟩ := h
  refine ⟨?_, h2, h3, h4, h5⟩
  split at q
  · rename_i dd cd sl ho
    split at q
    · rename_i C' bm k0 k1 k2 k3 n k5 hm hs
      simp only [Bool.and_eq_true, beq_iff_eq, Bool.not_eq_true'] at q
      obtain ⟨⟨⟨⟨rfl, rfl⟩, hdel⟩, hd⟩, hb⟩ := q
      obtain ⟨nm, bs, mro, ns, qn, hd', sn, sub, ab, col, del⟩ := cd
      dsimp only at hm hdel hd
      subst hm hdel hd
      have hsl : sl = #[k0, k1, k2, k3, some (.builtin "ValueError.__new__"), k5] := by
        obtain ⟨l⟩ := sl
        simp only at hs
        rw [hs]
      subst hsl
      exact ⟨nm, qn, ns, bs, bm, sn, sub, ab, col, dd, k0, k1, k2, k3, k5, ho, hb⟩
    · cases q
  · cases q
def xciB (K : PySem.W.Frag) (C : Addr) : Bool := (PySem.W.clsIn K C).isSome && decide (PySem.W.findIn K (.ref C) "__getattribute__" = some (some (.builtin "BaseException.__getattribute__"))) && decide (PySem.W.findIn K (.ref C) "__getattr__" = some none) && decide (PySem.W.subIn K (.ref C) (.type "BaseException") = some true) &&
  decide (PySem.W.findIn K (.ref C) "__class__" = some (some (.builtin "object.__class__"))) && decide (PySem.W.specialIn K (.builtin "object.__class__") "__get__" = some (some (.builtin "getset_descriptor.__get__"))) && decide (PySem.W.takesIn K (.builtin "object.__class__") = some true) && decide (PySem.W.mroIn K C (.type "object") = some true)
theorem xciB_ok {K : PySem.W.Frag} {C : Addr} (h : xciB K C = true) : XcI K C := by
  unfold xciB at h
  simp only [Bool.and_eq_true, decide_eq_true_eq] at h
  obtain ⟨⟨⟨⟨⟨⟨⟨h1, h2⟩, h3⟩, h4⟩, h5⟩, h6⟩, h7⟩, h8⟩ := h
  exact ⟨h1, h2, h3, h4, h5, h6, h7, h8⟩
def xcB (xs : List Xc) (K : PySem.W.Frag) (q : Xc) : Bool := xciB K (He.ga K q.name) && ((List.range xs.length).all fun j => match xs[j]? with
    | some r => decide (PySem.W.kitOne K (.ref (He.ga K q.name)) (.ref (He.ga K r.name)) = some (q.ups.contains j))
    | none => true) && decide (PySem.W.kitOne K (.ref (He.ga K q.name)) (.type "ValueError") = some true) &&
  (if q.own then oexB K (He.ga K q.name) && xfB K (He.ga K q.name) && decide q.flds.Nodup && (q.flds.all fun f => decide (PySem.W.findIn K (.ref (He.ga K q.name)) f = some none)) && decide (PySem.W.findIn K (.ref (He.ga K q.name)) "__init__" = some (some (.ref (He.ma K (He.ga K q.name) "__init__")))) && decide (PySem.W.typeIn K (.ref (He.ma K (He.ga K q.name) "__init__")) = some (.type "function"))
    else PySem.W.excIn K (He.ga K q.name) PySem.HandSPX.veTail "ValueError.__new__" && PySem.W.keepIn K (.ref (He.ga K q.name)))
def baseB (K : PySem.W.Frag) (b : Str) : Bool := decide (PySem.W.typeIn K (.ref (He.ga K b)) = some (.type "type")) && decide (PySem.W.nsIn K cStatics "thirdparty.any" = some none) && (match PySem.W.findCls K (.ref (He.ga K b)) (.type "type") "__init__" with
  | some (.val (.builtin s)) => s == "ValueError.__init__"
  | _ => false)
theorem baseB_ok {K : PySem.W.Frag} {mg : Str → Option Value} {b : Str} (hm : mg b = some (.ref (He.ga K b))) (h : baseB K b = true) : BaseOk K mg b (He.ga K b) := by
  unfold baseB at h
  simp only [Bool.and_eq_true, decide_eq_true_eq] at h
  obtain ⟨⟨h1, h2⟩, h3⟩ := h
  refine ⟨hm, h1, h2, ?_⟩
  split at h3
  · rename_i s e
    rw [e, eq_of_beq h3]
  · cases h3
/-- the written part's own look -/
def exB (xs : List Xc) (b : Option Str) (K : PySem.W.Frag) : Bool := xs.all (xcB xs K) && (match b with | some b => baseB K b | none => true)
/-! ### what is looked at in the text -/
def fscB (N P : List Str) (sc : Scope) : Bool := (match sc.kind with | .function => true | _ => false) && !sc.isCoroutine && !sc.isGenerator && decide N.Nodup && decide (N.take P.length = P) && (P.all fun x => match sc.names.lookup x with | some .local => true | some .cell => true | _ => false) && (sc.names.all fun y => match y.2 with | .free => false | _ => true)
theorem fscB_ok {N P : List Str} {sc : Scope} (h : fscB N P sc = true) : FnScope N P sc := by
  unfold fscB at h
  simp only [Bool.and_eq_true, decide_eq_true_eq, Bool.not_eq_true', List.all_eq_true] at h
  obtain ⟨⟨⟨⟨⟨⟨h1, h2⟩, h3⟩, h4⟩, h5⟩, h6⟩, h7⟩ := h
  refine ⟨?_, h2, h3, h4, h5, fun x hx => ?_, fun y hy e => ?_⟩
  · split at h1
    · rename_i e; exact e
    · cases h1
  · have := h6 x hx
    split at this
    · rename_i e; exact .inl e
    · rename_i e; exact .inr e
    · cases this
  · have := h7 y hy
    rw [e] at this
    cases this
def fnB (S : Sg) (q : Fn) (st : Stmt) : Bool := fscB q.names (q.names.take q.np) (defScope st) && decide (q.np ≤ q.names.length) && chkSs S q.body ⟨q.names, defScope st, (defScope st).names⟩ (defBody st)
/-- how a def's arguments bind -/
def BindP (name qual : Str) (ps : List Str) (st : Stmt) : Prop := ∀ (kV doc pm : Value) (an : Option Addr) (cdv ct : Value) (us : List Value), us.length = ps.length → bindArgs (PySem.W.fnOf name qual (defArgs st) (defBody st) (defScope st) .none kV doc pm an cdv ct) ⟨us, []⟩ = pure (ps.zip us)
def faOf (p : Str × GK) : He.Fa := match p.2 with
  | .blt => .free p.1
  | .fn _ => .glo p.1
  | .xc _ => .glo p.1
  | .int i => .int p.1 i
  | .str s => .str p.1 s
def defOf (q : Fn) (st : Stmt) : He.DefD := ⟨(q.name, none), q.name, q.qual, defArgs st, defBody st, defScope st, [], []⟩
def iniOf (q : Xc) (qual : Str) (st : Stmt) : He.DefD := ⟨(q.name, some "__init__"), "__init__", qual, defArgs st, defBody st, defScope st, [], []⟩
/-- the names' table -/
def gB (S : Sg) : Bool := S.G.all fun p => match p.2 with
  | .fn i => (match S.g.fns[i]? with | some q => q.name == p.1 | none => false)
  | .xc j => (match S.xs[j]? with | some q => q.name == p.1 | none => false)
  | _ => true
def mkT (S : Sg) (P : Program) (w : World) (K : PySem.W.Frag) : Tb where
  P := P
  w := w
  K := K
  fa := fun i => match S.g.fns[i]? with | some q => He.ga K q.name | none => 0
  ca := fun c => match S.xs[c]? with | some q => He.ga K q.name | none => 0
  fn := fun c i => match S.xs[c]? with | some q => q.flds[i]? | none => none
  gh := fun _ => none
theorem look_mem {α β : Type} [BEq α] [LawfulBEq α] {x : α} {q : β} : ∀ {l : List (α × β)}, l.lookup x = some q → (x, q) ∈ l
  | [], h => by simp at h
  | (a, b) :: l, h => by
    rw [List.lookup_cons] at h
    by_cases e : x = a
    · subst e
      rw [beq_self_eq_true] at h
      cases h
      exact List.mem_cons_self
    · have : (x == a) = false := by simpa using e
      rw [this] at h
      exact List.mem_cons_of_mem _ (look_mem h)
section
variable {S : Sg} {P : Program} {w : World} {K : PySem.W.Frag} {h : Heap} {mg : Str → Option Value} {fn : List He.DefD} {fa : List He.Fa}
theorem gl_of (X : K.In h) (G : h.Ns mainGlobals mg) (c : He.SaysD fa fn K) (hfa : ∀ p ∈ S.G, faOf p ∈ fa) (hg : gB S = true) : ∀ x q, S.G.lookup x = some q → match q with
    | .blt => mg x = none
    | .fn i => mg x = some (.ref ((mkT S P w K).fa i))
    | .int i => ∃ u, mg x = some u ∧ RelV (.int i) u
    | .str s => ∃ u, mg x = some u ∧ RelV (.str s) u
    | .xc j => mg x = some (.ref ((mkT S P w K).ca j)) := by
  intro x q hq
  have hm := look_mem hq
  have hF := c.facts (hfa _ hm)
  unfold gB at hg
  rw [List.all_eq_true] at hg
  have hgx := hg _ hm
  cases q with
  | blt => exact He.free_ok X G hF
  | fn i =>
    dsimp only at hgx ⊢
    split at hgx
    · rename_i q e
      have := eq_of_beq hgx
      subst this
      show mg q.name = some (.ref (match S.g.fns[i]? with | some q => He.ga K q.name | none => 0))
      rw [e]
      exact He.glo_ok X G hF
    · cases hgx
  | int i => obtain ⟨t, e⟩ := He.int_ok X G hF; exact ⟨_, e, ⟨t, rfl⟩⟩
  | str s => obtain ⟨t, e⟩ := He.str_ok X G hF; exact ⟨_, e, ⟨t, rfl⟩⟩
  | xc j =>
    dsimp only at hgx ⊢
    split at hgx
    · rename_i q e
      have := eq_of_beq hgx
      subst this
      show mg q.name = some (.ref (match S.xs[j]? with | some q => He.ga K q.name | none => 0))
      rw [e]
      exact He.glo_ok X G hF
    · cases hgx
theorem tops_of (X : K.In h) (G : h.Ns mainGlobals mg) (c : He.SaysD fa fn K) (hfa : ∀ p ∈ S.G, faOf p ∈ fa) (hg : gB S = true) {sts : List Stmt}
    (hd : ∀ (f : Nat) q, S.g.fns[f]? = some q → ∃ st, sts[f]? = some st ∧ defOf q st ∈ fn ∧ fnB S q st = true ∧ BindP q.name q.qual (q.names.take q.np) st) : Tops S (mkT S P w K) mg := by
  refine ⟨fun f q hf => ?_, fun x q hq => ?_⟩
  · obtain ⟨st, _, h2, h3, h4⟩ := hd f q hf
    obtain ⟨fd, F⟩ := c.defs h2
    unfold fnB at h3
    simp only [Bool.and_eq_true, decide_eq_true_eq] at h3
    obtain ⟨⟨h5, h6⟩, h7⟩ := h3
    have ef : (mkT S P w K).fa f = He.ga K q.name := by
      show (match S.g.fns[f]? with | some q => He.ga K q.name | none => 0) = _
      rw [hf]
    refine ⟨st, fd, q.names.take q.np, ?_, fscB_ok h5, by rw [List.length_take]; omega, h7, FunD.bindsN F h4⟩
    rw [ef]
    exact F
  · have := gl_of (P := P) (w := w) X G c hfa hg x q hq
    cases q <;> first | exact this | trivial
theorem xcs_of (X : K.In h) (G : h.Ns mainGlobals mg) (c : He.SaysD fa fn K) (hfa : ∀ p ∈ S.G, faOf p ∈ fa) (hg : gB S = true) {bn : Option Str} (hex : exB S.xs bn K = true) (base : Heap)
    (hn : ∀ (j : Nat) q, S.xs[j]? = some q → S.G.lookup q.name = some (.xc j))
    (hi : ∀ (j : Nat) q, S.xs[j]? = some q → q.own = true → ∃ st qual b N ps, bn = some b ∧ He.Fa.glo b ∈ fa ∧ iniOf q qual st ∈ fn ∧ fscB N ps (defScope st) = true ∧ ps.length = q.flds.length + 1 ∧ N.length = q.flds.length + 1 ∧ initB ⟨N, defScope st, []⟩ b q.flds (defBody st) = true ∧ BindP "__init__" qual ps st) :
    Xcs S (mkT S P w K) mg base := by
  intro Y hY hb j q hq
  have eca : (mkT S P w K).ca j = He.ga K q.name := by
    show (match S.xs[j]? with | some q => He.ga K q.name | none => 0) = _
    rw [hq]
  have hG := gl_of (P := P) (w := w) X G c hfa hg q.name _ (hn j q hq)
  dsimp only at hG
  unfold exB at hex
  rw [Bool.and_eq_true, List.all_eq_true] at hex
  have hx := hex.1 q (List.mem_of_getElem? hq)
  unfold xcB at hx
  simp only [Bool.and_eq_true, decide_eq_true_eq] at hx
  obtain ⟨⟨⟨h1, h2⟩, h3⟩, h4⟩ := hx
  rw [List.all_eq_true] at h2
  refine ⟨by rw [hY]; exact hG, by rw [eca]; exact xciB_ok h1, fun i r hr => ?_, by rw [eca]; exact h3, fun ho => ?_, fun ho => ?_⟩
  · have := h2 i (List.mem_range.mpr (List.getElem?_eq_some_iff.mp hr).1)
    rw [hr] at this
    have er : (mkT S P w K).ca i = He.ga K r.name := by
      show (match S.xs[i]? with | some q => He.ga K q.name | none => 0) = _
      rw [hr]
    rw [eca, er]
    exact of_decide_eq_true this
  · rw [if_pos ho] at h4
    simp only [Bool.and_eq_true, decide_eq_true_eq] at h4
    obtain ⟨⟨⟨⟨⟨g1, g2⟩, g3⟩, g4⟩, g5⟩, g6⟩ := h4
    rw [List.all_eq_true] at g4
    obtain ⟨st, qual, b, N, ps, eb, k1, k2, k3, k4, k5, k6, k7⟩ := hi j q hq ho
    subst eb
    have hB := baseB_ok (He.glo_ok X G (c.facts k1)) hex.2
    obtain ⟨fd, F⟩ := c.defs k2
    rw [eca]
    have hO := oexB_ok g1
    have hff : ∀ g ∈ q.flds, PySem.W.findIn K (.ref (He.ga K q.name)) g = some none := fun g hg => of_decide_eq_true (g4 g hg)
    refine ⟨hO, xfB_ok g2, g3, fun i f hf => ⟨?_, hff f (List.mem_of_getElem? hf)⟩, He.ma K (He.ga K q.name) "__init__", fd, ps, g5, g6, ?_, FunD.bindsN F k7⟩
    · show (match S.xs[j]? with | some q => q.flds[i]? | none => none) = some f
      rw [hq]; exact hf
    · rw [hY, hb]
      exact init_ok (T := mkT S P w K) (c := j) F (fscB_ok k3) hB (by rw [eca]; exact hO) k4 k5 (by rw [eca]; exact hff) k6
  · rw [if_neg (by rw [ho]; exact Bool.false_ne_true), Bool.and_eq_true] at h4
    rw [eca]
    exact h4
/-- what the walk wants of the law -/
theorem law_end (X : K.In h) (B : Tops S (mkT S P w K) mg) (BX : ∀ base, Xcs S (mkT S P w K) mg base) {d li : Nat} {q : Fn} {fa' : Addr} {st : Stmt} {k : Nat} (hk : d + 1 + 3 ≤ k) (hq : S.g.fns[li]? = some q) (hn : q.np = 1) (hl : 1 ≤ q.names.length) (hf : fa' = (mkT S P w K).fa li) {fd : FuncData}
    (F : FunD K q.name q.qual (defArgs st) (defBody st) (defScope st) [] [] fa' fd) (fB : fnB S q st = true) (bd : BindP q.name q.qual (q.names.take q.np) st) {x : Str} (hx : q.names.take 1 = [x])
    (ev : ∀ ns : List Int, ns.length ≤ 63 → ∃ m, S.g.call (d + 1) li [.scr ns] [] = .ok (.p (.bl true)) m) :
    ∃ (K : PySem.W.Frag) (fd : FuncData) (sp : Sp), K.In h ∧ (∀ (s : Shared) (u : Value), BindsTo s fd ⟨[u], []⟩ [(x, u)]) ∧
      (∀ (H : Hp) (a : Addr) (ns : List Int), ns.length ≤ 63 → Only H → SqL K H a (ns.map V.int) → sp [.ref a] H (fun v _ => v = .bl true) fun _ _ _ => False) ∧
      ∀ base : Heap, K.In base → base.Ns mainGlobals mg → FnOk P w K mg base CX0 k fa' fd [x] sp := by
  have hps : q.names.take q.np = [x] := by rw [hn]; exact hx
  refine ⟨K, fd, spF (mkT S P w K) (S.g.call (d + 1) li), X, fun s u => ?_, fun H a ns hl hO hS => ?_, fun base _ _ => ?_⟩
  · have := FunD.bindsA F bd s [u] (by rw [hps]; rfl)
    rw [hps] at this
    exact this
  · obtain ⟨m', em⟩ := ev ns hl
    refine ⟨fun _ => none, fun _ _ => none, fun _ => False, [], [.scr ns], ⟨fun a z => z.elim, fun _ _ _ => rfl, fun n k y z => ?_, fun n c fs z => ?_, fun n k n' k' a z => ?_, fun a o z => by cases z⟩, ⟨.ref a, [], rfl, ⟨a, rfl, ?_⟩, rfl⟩, ?_⟩
    · have z : cell [] n k = some y := z
      simp [cell, getM] at z
    · simp [getM] at z
    · simp [live, cell, getM] at z
    · rcases hS with h | h
      · rcases h with h | ⟨o, h⟩
        · rcases hO a with z | ⟨o, xs, z⟩
          · rw [z] at h; cases h
          · rw [z] at h; cases h
        · exact .inl ⟨o, id, h⟩
      · exact .inr h
    · rw [em]
      exact fun α' W' H' e hr v rv => by
        rw [RD_ge] at rv
        have rv : Rp (mkT S P w K) W' H' (.bl true) v := rv
        simp only [Rp] at rv
        exact rv
  · subst hf
    have h3 := fB
    unfold fnB at h3
    simp only [Bool.and_eq_true, decide_eq_true_eq] at h3
    obtain ⟨⟨h5, h6⟩, h7⟩ := h3
    have Sc := fscB_ok h5
    rw [hps] at Sc
    exact (fn_step B (BX base) hq F Sc (by rw [hn]; rfl) h7 fun f q hf => fn_all B (BX base) d f q hf).mono hk
end
/-! ### the look at the heap behind the top -/
def asY (g : Addr → Option PySem.Obj) (n : Nat) : List Addr := cStatics :: He.asD g n
def obsY (n : Nat) (fa : List He.Fa) (fn : List He.DefD) (ex : PySem.W.Frag → Bool) (g : Addr → Option PySem.Obj) : He.AlD × Bool := (He.obsD fa fn (He.frG g (asY g n)), ex (He.frG g (asY g n)))
def hookY (n : Nat) (fa : List He.Fa) (fn : List He.DefD) (ex : PySem.W.Frag → Bool) : PySem.W.Hook where
  α := He.AlD × Bool
  obs := fun s => obsY n fa fn ex s.heap.get?
  val := fun _ => (He.valD fn, true)
  says := fun _ h => ∃ K : PySem.W.Frag, K.In h ∧ He.SaysD fa fn K ∧ ex K = true
  of := fun _ _ e => ⟨_, He.frG_in, congrArg (fun z : He.AlD × Bool => z.1) e, congrArg (fun z : He.AlD × Bool => z.2) e⟩
  keeps := fun _ _ _ ⟨K, hK, c⟩ k => ⟨K, PySem.W.Frag.In.keeps hK k, c⟩
theorem obsY_eq {n : Nat} {fa : List He.Fa} {fn : List He.DefD} {ex : PySem.W.Frag → Bool} {g : Addr → Option PySem.Obj} {s : Shared} (h : ∀ a, g a = s.heap.get? a) : obsY n fa fn ex g = (hookY n fa fn ex).obs s := by
  have e : g = s.heap.get? := funext h
  rw [e] <;> rfl
end Lot
/-! LotX: the evaluator, step by step. -/
namespace Lot
open PySem
theorem small_of {i : Int} (h0 : 0 ≤ i) (h1 : i < 18446744073709551616) : small64 i = true := by
  unfold small64
  rw [Bool.and_eq_true, decide_eq_true_eq, decide_eq_true_eq]
  omega
theorem sm_r {p q : Int} (h : small64 q = true) : (small64 p || small64 q) = true := by rw [h, Bool.or_true]
theorem sm_l {p q : Int} (h : small64 p = true) : (small64 p || small64 q) = true := by rw [h, Bool.true_or]
theorem pow_ok {p : Int} {q : Int} (hq : 0 ≤ q ∧ q ≤ 1000000) (h0 : 0 ≤ p) (h1 : p < 18446744073709551616) : 0 ≤ q ∧ q ≤ 1000000 ∧ p.natAbs < 2 ^ 64 := ⟨hq.1, hq.2, by omega⟩
theorem mul_le2 {a b c d : Int} (h1 : a ≤ c) (h2 : b ≤ d) (h3 : 0 ≤ b) (h4 : 0 ≤ c) : a * b ≤ c * d := Int.mul_le_mul h1 h2 h3 h4
theorem mod_b {a p : Int} (h : 0 < p) : 0 ≤ a % p ∧ a % p < p := ⟨Int.emod_nonneg _ (by omega), Int.emod_lt_of_pos _ h⟩
theorem ixD_l {x y : D} {m : Mem} {l : List P} {k : Int} {r : P} (hx : rg x m = some (.lst l)) (hy : rd y m = some (.int k)) (h : atI l k = some r) : ixD x y m = some r := by
  unfold ixD
  rw [hx, hy]
  exact h
theorem atI_of {α : Type} {l : List α} {i : Int} (h0 : 0 ≤ i) (h1 : i < l.length) : ∃ x, atI l i = some x ∧ x ∈ l ∧ l[i.toNat]? = some x := by
  unfold atI ixN
  rw [if_pos h0, if_pos h1]
  have : i.toNat < l.length := by omega
  exact ⟨l[i.toNat], by simp [this], List.getElem_mem this, by simp [this]⟩
section
variable {cf : Nat → List D → Mem → Out D} {mt : Nat → Nat → Option Nat} {ρ ρ1 : Env} {m m1 m2 : Mem} {a b c o i e : CE} {d x y : D}
theorem e_var {k : Nat} (h : (ρ[k]?).bind id = some d) : evE cf mt (.var k) ρ m = .ok d m := by
  show Out.of ((ρ[k]?).bind id) m = _
  rw [h]; rfl
theorem e_lit (p : P) : evE cf mt (.lit p) ρ m = .ok (.p p) m := rfl
theorem e_bin {op : BOp} {p q r : P} (ha : evE cf mt a ρ m = .ok x m1) (hb : evE cf mt b ρ m1 = .ok y m2) (hx : rd x m2 = some p) (hy : rd y m2 = some q) (h : binP op p q = some r) : evE cf mt (.bin op a b) ρ m = .ok (.p r) m2 := by
  show ((evE cf mt a ρ m).bind fun x m1 => (evE cf mt b ρ m1).bind fun y m2 => match rd x m2, rd y m2 with
    | some u, some v => (Out.of (binP op u v) m2).bind fun r m3 => Out.ok (D.p r) m3
    | _, _ => .bad) = _
  rw [ha, Out.bind_ok, hb, Out.bind_ok, hx, hy]
  dsimp only
  rw [h]; rfl
theorem e_add {p q : Int} (ha : evE cf mt a ρ m = .ok (.p (.int p)) m1) (hb : evE cf mt b ρ m1 = .ok (.p (.int q)) m2) : evE cf mt (.bin .add a b) ρ m = .ok (.p (.int (p + q))) m2 := e_bin ha hb rfl rfl rfl
theorem e_sub {p q : Int} (ha : evE cf mt a ρ m = .ok (.p (.int p)) m1) (hb : evE cf mt b ρ m1 = .ok (.p (.int q)) m2) : evE cf mt (.bin .sub a b) ρ m = .ok (.p (.int (p - q))) m2 := e_bin ha hb rfl rfl rfl
theorem e_mul {p q : Int} (ha : evE cf mt a ρ m = .ok (.p (.int p)) m1) (hb : evE cf mt b ρ m1 = .ok (.p (.int q)) m2) (h : (small64 p || small64 q) = true) : evE cf mt (.bin .mul a b) ρ m = .ok (.p (.int (p * q))) m2 := e_bin ha hb rfl rfl (if_pos h)
theorem e_mod {p q : Int} (ha : evE cf mt a ρ m = .ok (.p (.int p)) m1) (hb : evE cf mt b ρ m1 = .ok (.p (.int q)) m2) (h : 0 < q) : evE cf mt (.bin .mod a b) ρ m = .ok (.p (.int (p % q))) m2 := e_bin ha hb rfl rfl (if_pos h)
theorem e_fdiv {p q : Int} (ha : evE cf mt a ρ m = .ok (.p (.int p)) m1) (hb : evE cf mt b ρ m1 = .ok (.p (.int q)) m2) (h : 0 < q ∧ q < 1073741824) : evE cf mt (.bin .fdiv a b) ρ m = .ok (.p (.int (p / q))) m2 := e_bin ha hb rfl rfl (if_pos h)
theorem e_pow {p q : Int} (ha : evE cf mt a ρ m = .ok (.p (.int p)) m1) (hb : evE cf mt b ρ m1 = .ok (.p (.int q)) m2) (h : 0 ≤ q ∧ q ≤ 1000000 ∧ p.natAbs < 2 ^ 64) : evE cf mt (.bin .pow a b) ρ m = .ok (.p (.int (p ^ q.toNat))) m2 := e_bin ha hb rfl rfl (if_pos h)
theorem e_cmp {op : COp} {r : Bool} (ha : evE cf mt a ρ m = .ok x m1) (hb : evE cf mt b ρ m1 = .ok y m2) (h : cmpD op x y m2 = some r) : evE cf mt (.cmp op a b) ρ m = .ok (.p (.bl r)) m2 := by
  show ((evE cf mt a ρ m).bind fun x m1 => (evE cf mt b ρ m1).bind fun y m2 => (Out.of (cmpD op x y m2) m2).bind fun r m3 => Out.ok (D.p (P.bl r)) m3) = _
  rw [ha, Out.bind_ok, hb, Out.bind_ok, h]; rfl
theorem e_ix {r : P} (ha : evE cf mt o ρ m = .ok x m1) (hb : evE cf mt i ρ m1 = .ok y m2) (h : ixD x y m2 = some r) : evE cf mt (.ix o i) ρ m = .ok (.p r) m2 := by
  show ((evE cf mt o ρ m).bind fun x m1 => (evE cf mt i ρ m1).bind fun y m2 => (Out.of (ixD x y m2) m2).bind fun r m3 => Out.ok (D.p r) m3) = _
  rw [ha, Out.bind_ok, hb, Out.bind_ok, h]; rfl
theorem e_len {q : P} {n : Int} (ha : evE cf mt a ρ m = .ok x m1) (hx : rg x m1 = some q) (hl : lenP q = some n) : evE cf mt (.prim .len (.cons a .nil)) ρ m = .ok (.p (.int n)) m1 := by
  show ((((evE cf mt a ρ m).bind fun d m1 => (Out.ok [] m1).bind fun ds m2 => Out.ok (d :: ds) m2)).bind fun ds m1 => lenO ds m1) = _
  rw [ha]
  show lenO [x] m1 = _
  unfold lenO
  dsimp only
  rw [hx]
  dsimp only
  rw [hl]; rfl
theorem v_set {k : Nat} (h : evE cf mt e ρ m = .ok d m1) : evS cf mt (.set k e) ρ m = .ok (.nx (ρ.set k (some d))) m1 := by
  show ((evE cf mt e ρ m).bind fun d m1 => Out.ok (Fl.nx (ρ.set k (some d))) m1) = _
  rw [h]; rfl
theorem v_ret (h : evE cf mt e ρ m = .ok d m1) : evS cf mt (.ret e) ρ m = .ok (.rt d) m1 := by
  show ((evE cf mt e ρ m).bind fun d m1 => Out.ok (Fl.rt d) m1) = _
  rw [h]; rfl
theorem v_ift {t : Bool} {p q : CSs} (h : evE cf mt c ρ m = .ok d m1) (ht : truth d m1 = some t) : evS cf mt (.ift c p q) ρ m = if t then evSs cf mt p ρ m1 else evSs cf mt q ρ m1 := by
  show (((evE cf mt c ρ m).bind truthO).bind fun t m1 => if t then evSs cf mt p ρ m1 else evSs cf mt q ρ m1) = _
  rw [h, Out.bind_ok]
  unfold truthO
  rw [ht]; rfl
theorem ss_nx {s : CS} {ss : CSs} (h : evS cf mt s ρ m = .ok (.nx ρ1) m1) : evSs cf mt (.cons s ss) ρ m = evSs cf mt ss ρ1 m1 := by
  show ((evS cf mt s ρ m).bind fun fl m1 => match fl with
    | .nx ρ1 => evSs cf mt ss ρ1 m1
    | fl => Out.ok fl m1) = _
  rw [h]; rfl
theorem ss_rt {s : CS} {ss : CSs} (h : evS cf mt s ρ m = .ok (.rt d) m1) : evSs cf mt (.cons s ss) ρ m = .ok (.rt d) m1 := by
  show ((evS cf mt s ρ m).bind fun fl m1 => match fl with
    | .nx ρ1 => evSs cf mt ss ρ1 m1
    | fl => Out.ok fl m1) = _
  rw [h]; rfl
theorem ss_nil : evSs cf mt .nil ρ m = .ok (.nx ρ) m := rfl
theorem e_call1 {f : Nat} {o : Out D} (ha : evE cf mt a ρ m = .ok x m1) (h : cf f [x] m1 = o) : evE cf mt (.call f (.cons a .nil)) ρ m = o := by
  show ((evE cf mt a ρ m).bind fun d m1 => (Out.ok [] m1).bind fun ds m2 => Out.ok (d :: ds) m2).bind (fun ds m1 => cf f ds m1) = _
  rw [ha]; exact h
theorem e_call2 {f : Nat} {o : Out D} (ha : evE cf mt a ρ m = .ok x m1) (hb : evE cf mt b ρ m1 = .ok y m2) (h : cf f [x, y] m2 = o) : evE cf mt (.call f (.cons a (.cons b .nil))) ρ m = o := by
  show ((evE cf mt a ρ m).bind fun d m1 => ((evE cf mt b ρ m1).bind fun d m1 => (Out.ok [] m1).bind fun ds m2 => Out.ok (d :: ds) m2).bind fun ds m2 => Out.ok (d :: ds) m2).bind (fun ds m1 => cf f ds m1) = _
  rw [ha, Out.bind_ok, hb]; exact h
theorem v_setix {d k v : D} {m3 m4 : Mem} (he : evE cf mt e ρ m = .ok v m1) (ho : evE cf mt o ρ m1 = .ok d m2) (hi : evE cf mt i ρ m2 = .ok k m3) (h : setixO d k v m3 = .ok () m4) : evS cf mt (.setix o i e) ρ m = .ok (.nx ρ) m4 := by
  show ((evE cf mt e ρ m).bind fun v m1 => (evE cf mt o ρ m1).bind fun d m2 => (evE cf mt i ρ m2).bind fun k m3 => (setixO d k v m3).bind fun _ m4 => Out.ok (Fl.nx ρ) m4) = _
  rw [he, Out.bind_ok, ho, Out.bind_ok, hi, Out.bind_ok, h]; rfl
end
/-- a call whose body ends with data -/
theorem call_p {g : Pg} {d f : Nat} {q : Fn} {ds : List D} {m m1 : Mem} {x : P} (hf : g.fns[f]? = some q) (hl : ds.length = q.np) (h : evSs (g.call d) g.mt q.body (ds.map some ++ List.replicate (q.names.length - q.np) none) m = .ok (.rt (.p x)) m1) : g.call (d + 1) f ds m = .ok (.p x) (m1.take m.length) := by
  show (match g.fns[f]? with
    | some q => if ds.length = q.np then settle m.length (evSs (g.call d) g.mt q.body (ds.map some ++ List.replicate (q.names.length - q.np) none) m) else .bad
    | none => .bad) = _
  rw [hf]
  dsimp only
  rw [if_pos hl, h]
  rfl
theorem v_par2 {cf : Nat → List D → Mem → Out D} {mt : Nat → Nat → Option Nat} {ρ : Env} {m m1 m2 : Mem} {a b : CE} {x y : D} {i j : Nat} (ha : evE cf mt a ρ m = .ok x m1) (hb : evE cf mt b ρ m1 = .ok y m2) : evS cf mt (.par [i, j] (.cons a (.cons b .nil))) ρ m = .ok (.nx ((ρ.set i (some x)).set j (some y))) m2 := by
  show (((evE cf mt a ρ m).bind fun d m1 => ((evE cf mt b ρ m1).bind fun d m1 => (Out.ok [] m1).bind fun ds m2 => Out.ok (d :: ds) m2).bind fun ds m2 => Out.ok (d :: ds) m2).bind fun ds m1 => if [i, j].length = ds.length ∧ ds.length ≤ 1000 then Out.ok (Fl.nx (setAllD ρ [i, j] ds)) m1 else .bad) = _
  rw [ha, Out.bind_ok, hb]
  rfl
def dropS : Nat → CSs → CSs
  | 0, s => s
  | n + 1, .cons _ s => dropS n s
  | _, .nil => .nil
def getS : Nat → CSs → CS
  | 0, .cons s _ => s
  | n + 1, .cons _ s => getS n s
  | _, .nil => .pass
/-! ### a list in the memory -/
theorem cell_set {m : Mem} {n : Nat} {x : P} (h : n < m.length) : cell (m.set n (.val x)) n 0 = some x := by
  unfold cell getM
  rw [List.getElem?_set_self h]
  rfl
theorem setCell_set {m : Mem} {n : Nat} {x y : P} (h : n < m.length) : setCell (m.set n (.val x)) n 0 y = m.set n (.val y) := by
  unfold setCell getM
  rw [List.getElem?_set_self h]
  show (m.set n (.val x)).set n (.val y) = _
  rw [List.set_set]
theorem setix_l {m : Mem} {n : Nat} {l : List P} {i : Int} {q : Nat} {v : P} (h : n < m.length) (hi : ixN l.length i = some q) : setixO (.ref n 0) (.p (.int i)) (.p v) (m.set n (.val (.lst l))) = .ok () (m.set n (.val (.lst (l.set q v)))) := by
  unfold setixO
  dsimp only
  rw [cell_set h]
  dsimp only
  rw [hi]
  dsimp only
  rw [setCell_set h]
theorem ixD_m {m : Mem} {n : Nat} {l : List P} {y : D} {k : Int} {r : P} (h : n < m.length) (hy : rd y (m.set n (.val (.lst l))) = some (.int k)) (hr : atI l k = some r) : ixD (.ref n 0) y (m.set n (.val (.lst l))) = some r := ixD_l (cell_set h) hy hr
end Lot
namespace Lot
namespace K08
open PySem PySem.Spec PyProof.Rows L2

/-! the text: its core terms -/
def top (i : Nat) : Stmt := PySem.Challenge.pw_codelots_k08_refusals_made_by_hand.main.body.getD i (.Pass ⟨0, 0, 0, 0⟩)
def sub (i j : Nat) : Stmt := match top i with
  | .ClassDef (body := b) .. => b.getD j (.Pass ⟨0, 0, 0, 0⟩)
  | _ => .Pass ⟨0, 0, 0, 0⟩
def f_law_open : Fn := ⟨"_law_open", "_law_open", none, ["script", "cells", "k", "cell"], 1, (.cons (.set 1 (.alloc (.prim .list (.cons (.slice (.var 0) .nob (.lit (.int 12))) .nil)))) (.cons (.for (.tp [2, 3]) (.enum (.slice (.var 0) (.lit (.int 12)) (.lit (.int 63)))) (.cons (.setix (.var 1) (.bin .mod (.var 2) (.lit (.int 12))) (.bin .add (.ix (.var 1) (.bin .mod (.var 2) (.lit (.int 12)))) (.var 3))) .nil)) (.cons (.ret (.alloc (.lst (.cons (.frz (.var 1)) (.cons (.lit (.int 0)) (.cons (.lit (.int 0)) .nil)))))) .nil)))⟩
def f_law_spread : Fn := ⟨"_law_spread", "_law_spread", none, ["cell", "at", "primes", "one", "two", "three"], 2, (.cons (.ift (.cmp .ge (.var 0) (.bin .pow (.lit (.int 10)) (.lit (.int 18)))) (.cons (.ret (.var 0)) .nil) .nil) (.cons (.set 2 (.lst (.cons (.lit (.int 2147483629)) (.cons (.lit (.int 2147483587)) (.cons (.lit (.int 2147483579)) (.cons (.lit (.int 2147483563)) (.cons (.lit (.int 2147483549)) (.cons (.lit (.int 2147483543)) (.cons (.lit (.int 2147483497)) (.cons (.lit (.int 2147483489)) .nil)))))))))) (.cons (.set 2 (.bin .add (.var 2) (.lst (.cons (.lit (.int 2147483477)) (.cons (.lit (.int 2147483423)) (.cons (.lit (.int 2147483399)) (.cons (.lit (.int 2147483353)) (.cons (.lit (.int 2147483323)) .nil)))))))) (.cons (.set 3 (.bin .mod (.bin .pow (.bin .add (.bin .add (.bin .mul (.bin .mod (.var 0) (.lit (.int 1000000007))) (.bin .add (.bin .mul (.lit (.int 2)) (.var 1)) (.lit (.int 69069)))) (.bin .mul (.var 1) (.lit (.int 40503)))) (.lit (.int 977))) (.lit (.int 3))) (.ix (.var 2) (.bin .mod (.var 1) (.lit (.int 13)))))) (.cons (.set 4 (.bin .mod (.bin .pow (.bin .add (.bin .add (.bin .mul (.var 3) (.bin .add (.var 1) (.lit (.int 3)))) (.bin .mod (.var 0) (.lit (.int 65537)))) (.lit (.int 5))) (.lit (.int 5))) (.ix (.var 2) (.bin .mod (.bin .add (.var 1) (.lit (.int 5))) (.lit (.int 13)))))) (.cons (.set 5 (.bin .mod (.bin .pow (.bin .add (.bin .add (.var 4) (.bin .mod (.var 3) (.lit (.int 1009)))) (.var 1)) (.lit (.int 3))) (.ix (.var 2) (.bin .mod (.bin .add (.var 1) (.lit (.int 7))) (.lit (.int 13)))))) (.cons (.ret (.bin .add (.bin .mul (.bin .add (.bin .mul (.var 3) (.lit (.int 2147483647))) (.var 4)) (.lit (.int 2147483647))) (.var 5))) .nil)))))))⟩
def f_law_take : Fn := ⟨"_law_take", "_law_take", none, ["pen", "amount", "at", "cell", "found"], 2, (.cons (.ift (.cmp .lt (.ix (.var 0) (.lit (.int 2))) (.var 1)) (.cons (.set 2 (.ix (.var 0) (.lit (.int 1)))) (.cons (.set 3 (.lit (.int 0))) (.cons (.ift (.cmp .lt (.var 2) (.prim .len (.cons (.ix (.var 0) (.lit (.int 0))) .nil))) (.cons (.set 3 (.ix (.ix (.var 0) (.lit (.int 0))) (.var 2))) .nil) (.cons (.ift (.cmp .gt (.prim .len (.cons (.ix (.var 0) (.lit (.int 0))) .nil)) (.lit (.int 0))) (.cons (.set 3 (.bin .mod (.ix (.ix (.var 0) (.lit (.int 0))) (.bin .mod (.bin .add (.bin .mul (.var 2) (.lit (.int 5))) (.lit (.int 3))) (.prim .len (.cons (.ix (.var 0) (.lit (.int 0))) .nil)))) (.bin .add (.bin .pow (.lit (.int 10)) (.lit (.int 17))) (.var 2)))) .nil) .nil) .nil)) (.cons (.setix (.var 0) (.lit (.int 1)) (.bin .add (.var 2) (.lit (.int 1)))) (.cons (.setix (.var 0) (.lit (.int 2)) (.call 1 (.cons (.var 3) (.cons (.var 2) .nil)))) .nil))))) .nil) (.cons (.set 4 (.bin .mod (.ix (.var 0) (.lit (.int 2))) (.var 1))) (.cons (.setix (.var 0) (.lit (.int 2)) (.bin .fdiv (.ix (.var 0) (.lit (.int 2))) (.var 1))) (.cons (.ret (.var 4)) .nil))))⟩
def f_law_same : Fn := ⟨"_law_same", "_law_same", none, ["found", "due", "one", "other"], 2, (.cons (.ift (.or (.cons (.cmp .is (.var 1) (.lit .non)) (.cons (.cmp .is (.var 0) (.lit .non)) .nil))) (.cons (.ret (.and (.cons (.cmp .is (.var 1) (.lit .non)) (.cons (.cmp .is (.var 0) (.lit .non)) .nil)))) .nil) .nil) (.cons (.ift (.or (.cons (.prim (.isi [.tBool]) (.cons (.var 1) .nil)) (.cons (.prim (.isi [.tBool]) (.cons (.var 0) .nil)) .nil))) (.cons (.ret (.and (.cons (.prim (.isi [.tBool]) (.cons (.var 1) .nil)) (.cons (.prim (.isi [.tBool]) (.cons (.var 0) .nil)) (.cons (.cmp .eq (.var 0) (.var 1)) .nil))))) .nil) .nil) (.cons (.ift (.prim (.isi [.tInt, .tStr]) (.cons (.var 1) .nil)) (.cons (.ift (.cmp .ne (.prim (.isi [.tInt]) (.cons (.var 0) .nil)) (.prim (.isi [.tInt]) (.cons (.var 1) .nil))) (.cons (.ret (.lit (.bl false))) .nil) .nil) (.cons (.ret (.and (.cons (.prim (.isi [.tInt, .tStr]) (.cons (.var 0) .nil)) (.cons (.cmp .eq (.var 0) (.var 1)) .nil)))) .nil)) .nil) (.cons (.ift (.or (.cons (.cmp .ne (.prim (.isi [.tTup]) (.cons (.var 1) .nil)) (.prim (.isi [.tTup]) (.cons (.var 0) .nil))) (.cons (.cmp .ne (.prim (.isi [.tLst]) (.cons (.var 1) .nil)) (.prim (.isi [.tLst]) (.cons (.var 0) .nil))) .nil))) (.cons (.ret (.lit (.bl false))) .nil) .nil) (.cons (.ift (.cmp .ne (.prim .len (.cons (.var 0) .nil)) (.prim .len (.cons (.var 1) .nil))) (.cons (.ret (.lit (.bl false))) .nil) .nil) (.cons (.ret (.cmp .notin (.lit (.bl false)) (.comp (.call 3 (.cons (.var 2) (.cons (.var 3) .nil))) (.tp [2, 3]) (.zip (.var 0) (.var 1) false) .nil))) .nil))))))⟩
def f_law_kinds : Fn := ⟨"_law_kinds", "_law_kinds", none, ["one", "found"], 1, (.cons (.set 1 (.lst (.cons (.isx 13 [1] (.var 0)) (.cons (.isx 13 [2] (.var 0)) (.cons (.isx 13 [3] (.var 0)) (.cons (.isx 13 [4] (.var 0)) .nil)))))) (.cons (.set 1 (.bin .add (.var 1) (.lst (.cons (.isx 13 [5] (.var 0)) (.cons (.isx 13 [6] (.var 0)) (.cons (.isx 13 [7] (.var 0)) (.cons (.isx 13 [8] (.var 0)) .nil))))))) (.cons (.set 1 (.bin .add (.var 1) (.lst (.cons (.isx 13 [9] (.var 0)) (.cons (.isx 13 [10] (.var 0)) (.cons (.isx 13 [11] (.var 0)) .nil)))))) (.cons (.ret (.bin .add (.var 1) (.lst (.cons (.isx 13 [12] (.var 0)) .nil)))) .nil))))⟩
def f_law : Fn := ⟨"law", "law", none, ["script", "pen", "turn", "word", "some", "fields", "due", "first", "second", "name", "thing", "k", "one", "j"], 1, (.cons (.set 1 (.call 0 (.cons (.var 0) .nil))) (.cons (.for (.nm 2) (.rng1 (.lit (.int 3))) (.cons (.set 3 (.ix (.lst (.cons (.lit (.str "")) (.cons (.lit (.str "a word")) (.cons (.lit (.str "none")) .nil)))) (.call 2 (.cons (.var 1) (.cons (.lit (.int 3)) .nil))))) (.cons (.par [7, 8] (.cons (.call 2 (.cons (.var 1) (.cons (.lit (.int 6)) .nil))) (.cons (.call 2 (.cons (.var 1) (.cons (.lit (.int 15)) .nil))) .nil))) (.cons (.par [9, 10] (.cons (.ix (.lst (.cons (.lit (.str "a")) (.cons (.lit (.str "zzzzzzzz")) .nil))) (.call 2 (.cons (.var 1) (.cons (.lit (.int 2)) .nil)))) (.cons (.ix (.lst (.cons (.lit .non) (.cons (.lit (.str "")) (.cons (.lst (.cons (.lit (.str "a")) .nil)) (.cons (.tup (.cons (.lit (.str "a")) (.cons (.lit (.int 1)) .nil))) (.cons (.lit (.int 7)) (.cons (.lit (.bl true)) .nil))))))) (.call 2 (.cons (.var 1) (.cons (.lit (.int 6)) .nil)))) .nil))) (.cons (.set 4 (.lst (.cons (.mkx 1 (some 2) (.cons (.var 7) (.cons (.var 8) .nil))) (.cons (.mkx 2 (some 2) (.cons (.var 8) (.cons (.var 7) .nil))) (.cons (.mkx 3 none (.cons (.var 3) .nil)) (.cons (.mkx 4 (some 1) (.cons (.bin .add (.bin .pow (.lit (.int 10)) (.lit (.int 30))) (.var 7)) .nil)) (.cons (.mkx 5 none (.cons (.var 3) .nil)) .nil))))))) (.cons (.set 4 (.bin .add (.var 4) (.lst (.cons (.mkx 6 (some 1) (.cons (.bin .sub (.var 8) (.lit (.int 1))) .nil)) (.cons (.mkx 7 (some 1) (.cons (.var 9) .nil)) (.cons (.mkx 8 (some 1) (.cons (.var 8) .nil)) (.cons (.mkx 9 (some 1) (.cons (.var 10) .nil)) (.cons (.mkx 10 (some 1) (.cons (.var 10) .nil)) .nil)))))))) (.cons (.set 4 (.bin .add (.var 4) (.lst (.cons (.mkx 11 none (.cons (.var 3) .nil)) (.cons (.mkx 12 none (.cons (.var 3) .nil)) .nil))))) (.cons (.for (.tp [11, 12]) (.enum (.var 4)) (.cons (.ift (.or (.cons (.not (.isx 13 [0, 1, 2, 3, 4, 5, 6, 7, 8, 9, 10, 11, 12] (.var 12))) (.cons (.not (.isx 13 [0, 1, 2, 3, 4, 5, 6, 7, 8, 9, 10, 11, 12] (.var 12))) .nil))) (.cons (.ret (.lit (.bl false))) .nil) .nil) (.cons (.ift (.not (.call 3 (.cons (.call 4 (.cons (.var 12) .nil)) (.cons (.comp (.cmp .eq (.var 13) (.var 11)) (.nm 13) (.rng1 (.lit (.int 12))) .nil) .nil)))) (.cons (.ret (.lit (.bl false))) .nil) .nil) .nil))) (.cons (.set 5 (.lst (.cons (.fldx "block" [(1, 0), (2, 0)] (.ix (.var 4) (.lit (.int 0)))) (.cons (.fldx "row" [(1, 1), (2, 1)] (.ix (.var 4) (.lit (.int 0)))) (.cons (.fldx "block" [(1, 0), (2, 0)] (.ix (.var 4) (.lit (.int 1)))) (.cons (.fldx "row" [(1, 1), (2, 1)] (.ix (.var 4) (.lit (.int 1)))) (.cons (.fldx "count" [(4, 0)] (.ix (.var 4) (.lit (.int 3)))) (.cons (.fldx "room" [(6, 0)] (.ix (.var 4) (.lit (.int 5)))) (.cons (.fldx "name" [(7, 0), (9, 0)] (.ix (.var 4) (.lit (.int 6)))) .nil))))))))) (.cons (.set 5 (.bin .add (.var 5) (.lst (.cons (.fldx "most" [(8, 0)] (.ix (.var 4) (.lit (.int 7)))) (.cons (.fldx "name" [(7, 0), (9, 0)] (.ix (.var 4) (.lit (.int 8)))) (.cons (.fldx "holder" [(10, 0)] (.ix (.var 4) (.lit (.int 9)))) .nil)))))) (.cons (.set 6 (.lst (.cons (.var 7) (.cons (.var 8) (.cons (.var 8) (.cons (.var 7) (.cons (.bin .add (.bin .pow (.lit (.int 10)) (.lit (.int 30))) (.var 7)) (.cons (.bin .sub (.var 8) (.lit (.int 1))) (.cons (.var 9) (.cons (.var 8) (.cons (.var 10) (.cons (.var 10) .nil)))))))))))) (.cons (.ift (.not (.call 3 (.cons (.var 5) (.cons (.var 6) .nil)))) (.cons (.ret (.lit (.bl false))) .nil) .nil) .nil)))))))))))) (.cons (.ret (.lit (.bl true))) .nil)))⟩
def xcs : List Xc := [⟨"LotError", false, [], [0]⟩, ⟨"Empty", true, ["block", "row"], [0, 1]⟩, ⟨"Twin", true, ["block", "row"], [0, 2]⟩, ⟨"NoSet", false, [], [0, 3]⟩, ⟨"NoNumber", true, ["count"], [0, 4]⟩, ⟨"NoCode", false, [], [0, 5]⟩, ⟨"NoRoom", true, ["room"], [0, 6]⟩, ⟨"Standing", true, ["name"], [0, 7]⟩, ⟨"Full", true, ["most"], [0, 8]⟩, ⟨"NoName", true, ["name"], [0, 9]⟩, ⟨"NoHolder", true, ["holder"], [0, 10]⟩, ⟨"NoBlock", false, [], [0, 11]⟩, ⟨"NoText", false, [], [0, 12]⟩]
def prog : Pg := ⟨[f_law_open, f_law_spread, f_law_take, f_law_same, f_law_kinds, f_law], []⟩
def sg : Sg := ⟨prog, [("list", .blt), ("enumerate", .blt), ("len", .blt), ("_law_spread", .fn 1), ("isinstance", .blt), ("bool", .blt), ("int", .blt), ("str", .blt), ("tuple", .blt), ("_law_same", .fn 3), ("zip", .blt), ("Empty", .xc 1), ("Twin", .xc 2), ("NoSet", .xc 3), ("NoNumber", .xc 4), ("NoCode", .xc 5), ("NoRoom", .xc 6), ("Standing", .xc 7), ("Full", .xc 8), ("NoName", .xc 9), ("NoHolder", .xc 10), ("NoBlock", .xc 11), ("NoText", .xc 12), ("_law_open", .fn 0), ("range", .blt), ("_law_take", .fn 2), ("LotError", .xc 0), ("ValueError", .blt), ("_law_kinds", .fn 4)], xcs⟩
def sts : List Stmt := [top 15, top 16, top 17, top 18, top 19, top 20]

theorem ok0 : fnB sg f_law_open (top 15) = true := by decide +kernel
theorem bd0 : BindP "_law_open" "_law_open" (f_law_open.names.take 1) (top 15) := fun _ _ _ _ _ _ us hl => match us, hl with | [_], _ => rfl
theorem ok1 : fnB sg f_law_spread (top 16) = true := by decide +kernel
theorem bd1 : BindP "_law_spread" "_law_spread" (f_law_spread.names.take 2) (top 16) := fun _ _ _ _ _ _ us hl => match us, hl with | [_, _], _ => rfl
theorem ok2 : fnB sg f_law_take (top 17) = true := by decide +kernel
theorem bd2 : BindP "_law_take" "_law_take" (f_law_take.names.take 2) (top 17) := fun _ _ _ _ _ _ us hl => match us, hl with | [_, _], _ => rfl
theorem ok3 : fnB sg f_law_same (top 18) = true := by decide +kernel
theorem bd3 : BindP "_law_same" "_law_same" (f_law_same.names.take 2) (top 18) := fun _ _ _ _ _ _ us hl => match us, hl with | [_, _], _ => rfl
theorem ok4 : fnB sg f_law_kinds (top 19) = true := by decide +kernel
theorem bd4 : BindP "_law_kinds" "_law_kinds" (f_law_kinds.names.take 1) (top 19) := fun _ _ _ _ _ _ us hl => match us, hl with | [_], _ => rfl
theorem ok5 : fnB sg f_law (top 20) = true := by decide +kernel
theorem bd5 : BindP "law" "law" (f_law.names.take 1) (top 20) := fun _ _ _ _ _ _ us hl => match us, hl with | [_], _ => rfl
theorem ii0 : (fscB ["self", "block", "row"] ["self", "block", "row"] (defScope (sub 2 0)) && initB ⟨["self", "block", "row"], defScope (sub 2 0), []⟩ "LotError" ["block", "row"] (defBody (sub 2 0))) = true := by decide +kernel
theorem ib0 : BindP "__init__" "Empty.__init__" ["self", "block", "row"] (sub 2 0) := fun _ _ _ _ _ _ us hl => match us, hl with | [_, _, _], _ => rfl
theorem ii1 : (fscB ["self", "block", "row"] ["self", "block", "row"] (defScope (sub 3 0)) && initB ⟨["self", "block", "row"], defScope (sub 3 0), []⟩ "LotError" ["block", "row"] (defBody (sub 3 0))) = true := by decide +kernel
theorem ib1 : BindP "__init__" "Twin.__init__" ["self", "block", "row"] (sub 3 0) := fun _ _ _ _ _ _ us hl => match us, hl with | [_, _, _], _ => rfl
theorem ii2 : (fscB ["self", "count"] ["self", "count"] (defScope (sub 5 0)) && initB ⟨["self", "count"], defScope (sub 5 0), []⟩ "LotError" ["count"] (defBody (sub 5 0))) = true := by decide +kernel
theorem ib2 : BindP "__init__" "NoNumber.__init__" ["self", "count"] (sub 5 0) := fun _ _ _ _ _ _ us hl => match us, hl with | [_, _], _ => rfl
theorem ii3 : (fscB ["self", "room"] ["self", "room"] (defScope (sub 7 0)) && initB ⟨["self", "room"], defScope (sub 7 0), []⟩ "LotError" ["room"] (defBody (sub 7 0))) = true := by decide +kernel
theorem ib3 : BindP "__init__" "NoRoom.__init__" ["self", "room"] (sub 7 0) := fun _ _ _ _ _ _ us hl => match us, hl with | [_, _], _ => rfl
theorem ii4 : (fscB ["self", "name"] ["self", "name"] (defScope (sub 8 0)) && initB ⟨["self", "name"], defScope (sub 8 0), []⟩ "LotError" ["name"] (defBody (sub 8 0))) = true := by decide +kernel
theorem ib4 : BindP "__init__" "Standing.__init__" ["self", "name"] (sub 8 0) := fun _ _ _ _ _ _ us hl => match us, hl with | [_, _], _ => rfl
theorem ii5 : (fscB ["self", "most"] ["self", "most"] (defScope (sub 9 0)) && initB ⟨["self", "most"], defScope (sub 9 0), []⟩ "LotError" ["most"] (defBody (sub 9 0))) = true := by decide +kernel
theorem ib5 : BindP "__init__" "Full.__init__" ["self", "most"] (sub 9 0) := fun _ _ _ _ _ _ us hl => match us, hl with | [_, _], _ => rfl
theorem ii6 : (fscB ["self", "name"] ["self", "name"] (defScope (sub 10 0)) && initB ⟨["self", "name"], defScope (sub 10 0), []⟩ "LotError" ["name"] (defBody (sub 10 0))) = true := by decide +kernel
theorem ib6 : BindP "__init__" "NoName.__init__" ["self", "name"] (sub 10 0) := fun _ _ _ _ _ _ us hl => match us, hl with | [_, _], _ => rfl
theorem ii7 : (fscB ["self", "holder"] ["self", "holder"] (defScope (sub 11 0)) && initB ⟨["self", "holder"], defScope (sub 11 0), []⟩ "LotError" ["holder"] (defBody (sub 11 0))) = true := by decide +kernel
theorem ib7 : BindP "__init__" "NoHolder.__init__" ["self", "holder"] (sub 11 0) := fun _ _ _ _ _ _ us hl => match us, hl with | [_, _], _ => rfl
def fal : List He.Fa := .glo "law" :: sg.G.map faOf
def fnl : List He.DefD := [defOf f_law_open (top 15), defOf f_law_spread (top 16), defOf f_law_take (top 17), defOf f_law_same (top 18), defOf f_law_kinds (top 19), defOf f_law (top 20), iniOf ((xcs[1]?).getD ⟨"", false, [], []⟩) "Empty.__init__" (sub 2 0), iniOf ((xcs[2]?).getD ⟨"", false, [], []⟩) "Twin.__init__" (sub 3 0), iniOf ((xcs[4]?).getD ⟨"", false, [], []⟩) "NoNumber.__init__" (sub 5 0), iniOf ((xcs[6]?).getD ⟨"", false, [], []⟩) "NoRoom.__init__" (sub 7 0), iniOf ((xcs[7]?).getD ⟨"", false, [], []⟩) "Standing.__init__" (sub 8 0), iniOf ((xcs[8]?).getD ⟨"", false, [], []⟩) "Full.__init__" (sub 9 0), iniOf ((xcs[9]?).getD ⟨"", false, [], []⟩) "NoName.__init__" (sub 10 0), iniOf ((xcs[10]?).getD ⟨"", false, [], []⟩) "NoHolder.__init__" (sub 11 0)]
abbrev R : PySem.W.OpenRow := PySem.W.OpenLaw.row PySem.Challenge.rw_codelots_k08_refusals_made_by_hand
abbrev hk : PySem.W.Hook := hookY 6 fal fnl (exB xcs (some "LotError"))
def ob (s : PySem.W.SharedT) : He.AlD × Bool := obsY 6 fal fnl (exB xcs (some "LotError")) (HandSHeadRun.getT s)
theorem ob_eq (s : PySem.W.SharedT) : ob s = hk.obs s.abs := obsY_eq (HandSHeadRun.getT_eq s)
def loose : List PySem.Str := ["LotError", "Empty", "Twin", "NoSet", "NoNumber", "NoCode", "NoRoom", "Standing", "Full", "NoName", "NoHolder", "NoBlock", "NoText", "_law_open", "_law_spread", "_law_take", "_law_same", "_law_kinds"]
theorem run (w : World) : HandSHeadRun.RunEq R (PySem.W.view R.prog [20]) hk ob 4000 loose w := by
  intro os
  kernel_rfl
end K08
end Lot
namespace Lot
namespace K08
section
variable {cf : Nat → List D → Mem → Out D} {mt : Nat → Nat → Option Nat}
def primes : List P := [2147483629, 2147483587, 2147483579, 2147483563, 2147483549, 2147483543, 2147483497, 2147483489, 2147483477, 2147483423, 2147483399, 2147483353, 2147483323].map P.int
theorem prime_at (k : Int) (h0 : 0 ≤ k) (h1 : k < 13) : ∃ p : Int, atI primes k = some (.int p) ∧ 0 < p ∧ p < 2147483648 := by
  have : k = 0 ∨ k = 1 ∨ k = 2 ∨ k = 3 ∨ k = 4 ∨ k = 5 ∨ k = 6 ∨ k = 7 ∨ k = 8 ∨ k = 9 ∨ k = 10 ∨ k = 11 ∨ k = 12 := by omega
  rcases this with rfl | rfl | rfl | rfl | rfl | rfl | rfl | rfl | rfl | rfl | rfl | rfl | rfl <;> exact ⟨_, rfl, by decide, by decide⟩
theorem spread_body (cell at_ : Int) (m : Mem) (h0 : 0 ≤ at_) (h1 : at_ < 1073741824) : ∃ r, evSs cf mt f_law_spread.body [some (.p (.int cell)), some (.p (.int at_)), none, none, none, none] m = .ok (.rt (.p (.int r))) m := by
  unfold f_law_spread
  dsimp only
  have hc := v_ift (cf := cf) (mt := mt) (ρ := [some (.p (.int cell)), some (.p (.int at_)), none, none, none, none]) (m := m) (t := decide (10 ^ 18 ≤ cell)) (p := .cons (.ret (.var 0)) .nil) (q := .nil) (c := (.cmp .ge (.var 0) (.bin .pow (.lit (.int 10)) (.lit (.int 18)))))
    (e_cmp (op := .ge) (e_var rfl) (e_pow (e_lit _) (e_lit _) (by decide)) rfl) rfl
  by_cases h : (10 ^ 18 : Int) ≤ cell
  · rw [decide_eq_true h, if_pos rfl] at hc
    exact ⟨cell, ss_rt (hc.trans (ss_rt (v_ret (e_var rfl))))⟩
  · rw [decide_eq_false h, if_neg Bool.false_ne_true] at hc
    rw [ss_nx (hc.trans rfl)]
    rw [ss_nx (v_set (m1 := m) (d := .p (.lst _)) rfl)]
    rw [ss_nx (v_set (m1 := m) (d := .p (.lst primes)) rfl)]
    have m13 : ∀ z : Int, 0 ≤ z % 13 ∧ z % 13 < 13 := fun z => ⟨Int.emod_nonneg _ (by decide), Int.emod_lt_of_pos _ (by decide)⟩
    obtain ⟨p1, q1, q1a, q1b⟩ := prime_at (at_ % 13) (m13 _).1 (m13 _).2
    obtain ⟨p2, q2, q2a, q2b⟩ := prime_at ((at_ + 5) % 13) (m13 _).1 (m13 _).2
    obtain ⟨p3, q3, q3a, q3b⟩ := prime_at ((at_ + 7) % 13) (m13 _).1 (m13 _).2
    have hcm : 0 ≤ cell % 1000000007 ∧ cell % 1000000007 < 1000000007 := mod_b (by decide)
    have hc6 : 0 ≤ cell % 65537 ∧ cell % 65537 < 65537 := mod_b (by decide)
    have hA1 : cell % 1000000007 * (2 * at_ + 69069) ≤ 1000000007 * 2147552717 := mul_le2 (by omega) (by omega) (by omega) (by omega)
    have hA0 : 0 ≤ cell % 1000000007 * (2 * at_ + 69069) := Int.mul_nonneg (by omega) (by omega)
    generalize hA : cell % 1000000007 * (2 * at_ + 69069) + at_ * 40503 + 977 = A at *
    have ho : 0 ≤ A ^ 3 % p1 ∧ A ^ 3 % p1 < p1 := mod_b q1a
    generalize hone : A ^ 3 % p1 = one at *
    have hB1 : one * (at_ + 3) ≤ 2147483648 * 1073741827 := mul_le2 (by omega) (by omega) (by omega) (by omega)
    have hB0 : 0 ≤ one * (at_ + 3) := Int.mul_nonneg (by omega) (by omega)
    generalize hB : one * (at_ + 3) + cell % 65537 + 5 = B at *
    have ht : 0 ≤ B ^ 5 % p2 ∧ B ^ 5 % p2 < p2 := mod_b q2a
    generalize htwo : B ^ 5 % p2 = two at *
    have h9 : 0 ≤ one % 1009 ∧ one % 1009 < 1009 := mod_b (by decide)
    refine ⟨(one * 2147483647 + two) * 2147483647 + (two + one % 1009 + at_) ^ 3 % p3, ?_⟩
    have E1 : A ^ (3 : Int).toNat % p1 = one := hone
    refine Eq.trans (ss_nx (v_set (d := .p (.int one)) (m1 := m) ?_)) ?_
    · rw [← E1, ← hA]
      exact e_mod (e_pow (e_add (e_add (e_mul (e_mod (e_var rfl) (e_lit _) (by decide)) (e_add (e_mul (e_lit _) (e_var rfl) (sm_l (by decide))) (e_lit _)) (sm_l (small_of (by omega) (by omega)))) (e_mul (e_var rfl) (e_lit _) (sm_r (by decide)))) (e_lit _)) (e_lit _) (pow_ok (by decide) (by omega) (by omega))) (e_ix (e_var rfl) (e_mod (e_var rfl) (e_lit _) (by decide)) (ixD_l rfl rfl q1)) q1a
    have E2 : B ^ (5 : Int).toNat % p2 = two := htwo
    refine Eq.trans (ss_nx (v_set (d := .p (.int two)) (m1 := m) ?_)) ?_
    · rw [← E2, ← hB]
      exact e_mod (e_pow (e_add (e_add (e_mul (e_var rfl) (e_add (e_var rfl) (e_lit _)) (sm_l (small_of (by omega) (by omega)))) (e_mod (e_var rfl) (e_lit _) (by decide))) (e_lit _)) (e_lit _) (pow_ok (by decide) (by omega) (by omega))) (e_ix (e_var rfl) (e_mod (e_add (e_var rfl) (e_lit _)) (e_lit _) (by decide)) (ixD_l rfl rfl q2)) q2a
    refine Eq.trans (ss_nx (v_set (d := .p (.int ((two + one % 1009 + at_) ^ 3 % p3))) (m1 := m) ?_)) ?_
    · exact e_mod (e_pow (e_add (e_add (e_var rfl) (e_mod (e_var rfl) (e_lit _) (by decide))) (e_var rfl)) (e_lit _) (pow_ok (by decide) (by omega) (by omega))) (e_ix (e_var rfl) (e_mod (e_add (e_var rfl) (e_lit _)) (e_lit _) (by decide)) (ixD_l rfl rfl q3)) q3a
    exact ss_rt (v_ret (e_add (e_mul (e_add (e_mul (e_var rfl) (e_lit _) (sm_r (by decide))) (e_var rfl)) (e_lit _) (sm_r (by decide))) (e_var rfl)))
/-- a pen's list -/
def pv (cs : List Int) (at_ rest : Int) : P := .lst [.lst (cs.map P.int), .int at_, .int rest]
abbrev pm (m : Mem) (n : Nat) (cs : List Int) (at_ rest : Int) : Mem := m.set n (.val (pv cs at_ rest))
theorem take_tail {ρ : Env} {m : Mem} {n : Nat} {cs : List Int} {at_ rest a : Int} (hn : n < m.length) (h0 : (ρ[0]?).bind id = some (.ref n 0)) (h1 : (ρ[1]?).bind id = some (.p (.int a))) (hl : 4 < ρ.length) (ha : 0 < a ∧ a < 1073741824) :
    evSs cf mt (.cons (.set 4 (.bin .mod (.ix (.var 0) (.lit (.int 2))) (.var 1))) (.cons (.setix (.var 0) (.lit (.int 2)) (.bin .fdiv (.ix (.var 0) (.lit (.int 2))) (.var 1))) (.cons (.ret (.var 4)) .nil))) ρ (pm m n cs at_ rest) = .ok (.rt (.p (.int (rest % a)))) (pm m n cs at_ (rest / a)) := by
  have i2 : evE cf mt (.ix (.var 0) (.lit (.int 2))) ρ (pm m n cs at_ rest) = .ok (.p (.int rest)) (pm m n cs at_ rest) := e_ix (e_var h0) (e_lit _) (ixD_m hn rfl rfl)
  have g0 : ((ρ.set 4 (some (.p (.int (rest % a)))))[0]?).bind id = some (.ref n 0) := by rw [List.getElem?_set_ne (by decide)]; exact h0
  have g1 : ((ρ.set 4 (some (.p (.int (rest % a)))))[1]?).bind id = some (.p (.int a)) := by rw [List.getElem?_set_ne (by decide)]; exact h1
  refine Eq.trans (ss_nx (v_set (e_mod i2 (e_var h1) ha.1))) ?_
  have i3 : evE cf mt (.ix (.var 0) (.lit (.int 2))) (ρ.set 4 (some (.p (.int (rest % a))))) (pm m n cs at_ rest) = .ok (.p (.int rest)) (pm m n cs at_ rest) := e_ix (e_var g0) (e_lit _) (ixD_m hn rfl rfl)
  refine Eq.trans (ss_nx (v_setix (e_fdiv i3 (e_var g1) ha) (e_var g0) (e_lit _) (setix_l hn rfl))) ?_
  exact ss_rt (v_ret (e_var (by rw [List.getElem?_set_self hl]; rfl)))
theorem lenP_l (cs : List Int) : lenP (.lst (cs.map P.int)) = some (cs.length : Int) := by
  show some (((cs.map P.int).length : Nat) : Int) = _
  rw [List.length_map]
theorem at_int {cs : List Int} {k : Int} (h0 : 0 ≤ k) (h1 : k < cs.length) : ∃ c : Int, atI (cs.map P.int) k = some (.int c) := by
  obtain ⟨x, e, hm, _⟩ := atI_of (l := cs.map P.int) h0 (by rw [List.length_map]; exact h1)
  obtain ⟨c, _, rfl⟩ := List.mem_map.mp hm
  exact ⟨c, e⟩
theorem take_body (hs : ∀ (c a : Int) (m : Mem), 0 ≤ a → a < 1073741824 → ∃ r, cf 1 [.p (.int c), .p (.int a)] m = .ok (.p (.int r)) m) {m : Mem} {n : Nat} {cs : List Int} {at_ rest a : Int} (hn : n < m.length) (h0 : 0 ≤ at_) (h1 : at_ < 1073741824) (hc : cs.length ≤ 1000) (ha : 0 < a ∧ a < 1073741824) :
    ∃ r at' rest', evSs cf mt f_law_take.body [some (.ref n 0), some (.p (.int a)), none, none, none] (pm m n cs at_ rest) = .ok (.rt (.p (.int r))) (pm m n cs at' rest') ∧ 0 ≤ r ∧ r < a ∧ at_ ≤ at' ∧ at' ≤ at_ + 1 := by
  unfold f_law_take
  dsimp only
  have i2 : ∀ (ρ : Env) (r : Int), (ρ[0]?).bind id = some (.ref n 0) → evE cf mt (.ix (.var 0) (.lit (.int 2))) ρ (pm m n cs at_ r) = .ok (.p (.int r)) (pm m n cs at_ r) := fun ρ r h => e_ix (e_var h) (e_lit _) (ixD_m hn rfl rfl)
  have i1 : ∀ (ρ : Env) (r : Int), (ρ[0]?).bind id = some (.ref n 0) → evE cf mt (.ix (.var 0) (.lit (.int 1))) ρ (pm m n cs at_ r) = .ok (.p (.int at_)) (pm m n cs at_ r) := fun ρ r h => e_ix (e_var h) (e_lit _) (ixD_m hn rfl rfl)
  have i0 : ∀ (ρ : Env) (r : Int), (ρ[0]?).bind id = some (.ref n 0) → evE cf mt (.ix (.var 0) (.lit (.int 0))) ρ (pm m n cs at_ r) = .ok (.p (.lst (cs.map P.int))) (pm m n cs at_ r) := fun ρ r h => e_ix (e_var h) (e_lit _) (ixD_m hn rfl rfl)
  by_cases hb : rest < a
  · have lenE : ∀ (ρ : Env) (r : Int), (ρ[0]?).bind id = some (.ref n 0) → evE cf mt (.prim .len (.cons (.ix (.var 0) (.lit (.int 0))) .nil)) ρ (pm m n cs at_ r) = .ok (.p (.int cs.length)) (pm m n cs at_ r) := fun ρ r h => e_len (i0 ρ r h) rfl (lenP_l cs)
    have key : ∃ c : Int, evS cf mt (.ift (.cmp .lt (.var 2) (.prim .len (.cons (.ix (.var 0) (.lit (.int 0))) .nil))) (.cons (.set 3 (.ix (.ix (.var 0) (.lit (.int 0))) (.var 2))) .nil) (.cons (.ift (.cmp .gt (.prim .len (.cons (.ix (.var 0) (.lit (.int 0))) .nil)) (.lit (.int 0))) (.cons (.set 3 (.bin .mod (.ix (.ix (.var 0) (.lit (.int 0))) (.bin .mod (.bin .add (.bin .mul (.var 2) (.lit (.int 5))) (.lit (.int 3))) (.prim .len (.cons (.ix (.var 0) (.lit (.int 0))) .nil)))) (.bin .add (.bin .pow (.lit (.int 10)) (.lit (.int 17))) (.var 2)))) .nil) .nil) .nil))
        [some (.ref n 0), some (.p (.int a)), some (.p (.int at_)), some (.p (.int 0)), none] (pm m n cs at_ rest) = .ok (.nx [some (.ref n 0), some (.p (.int a)), some (.p (.int at_)), some (.p (.int c)), none]) (pm m n cs at_ rest) := by
      by_cases h2 : at_ < (cs.length : Int)
      · obtain ⟨c, hc'⟩ := at_int h0 h2
        refine ⟨c, ?_⟩
        refine (v_ift (t := decide (at_ < (cs.length : Int))) (e_cmp (op := .lt) (e_var rfl) (lenE _ rest rfl) rfl) rfl).trans ?_
        rw [decide_eq_true h2, if_pos rfl]
        exact (ss_nx (v_set (e_ix (i0 _ rest rfl) (e_var rfl) (ixD_l rfl rfl hc')))).trans ss_nil
      · by_cases h3 : (0 : Int) < cs.length
        · have hm := mod_b (a := at_ * 5 + 3) h3
          obtain ⟨c, hc'⟩ := at_int hm.1 hm.2
          refine ⟨c % (10 ^ (17 : Int).toNat + at_), ?_⟩
          refine (v_ift (t := decide (at_ < (cs.length : Int))) (e_cmp (op := .lt) (e_var rfl) (lenE _ rest rfl) rfl) rfl).trans ?_
          rw [decide_eq_false h2, if_neg Bool.false_ne_true]
          refine (ss_nx ((v_ift (t := decide ((0 : Int) < cs.length)) (e_cmp (op := .gt) (lenE _ rest rfl) (e_lit _) rfl) rfl).trans ?_)).trans ss_nil
          rw [decide_eq_true h3, if_pos rfl]
          refine (ss_nx (v_set (e_mod (e_ix (i0 _ rest rfl) (e_mod (e_add (e_mul (e_var rfl) (e_lit _) (sm_r (by decide))) (e_lit _)) (lenE _ rest rfl) h3) (ixD_l rfl rfl hc')) (e_add (e_pow (e_lit _) (e_lit _) (by decide)) (e_var rfl)) ?_))).trans ss_nil
          have : (0 : Int) < 10 ^ (17 : Int).toNat := by decide
          omega
        · refine ⟨0, ?_⟩
          refine (v_ift (t := decide (at_ < (cs.length : Int))) (e_cmp (op := .lt) (e_var rfl) (lenE _ rest rfl) rfl) rfl).trans ?_
          rw [decide_eq_false h2, if_neg Bool.false_ne_true]
          refine (ss_nx ((v_ift (t := decide ((0 : Int) < cs.length)) (e_cmp (op := .gt) (lenE _ rest rfl) (e_lit _) rfl) rfl).trans ?_)).trans ss_nil
          rw [decide_eq_false h3, if_neg Bool.false_ne_true]
          rfl
    obtain ⟨c, hk⟩ := key
    obtain ⟨r', hr⟩ := hs c at_ (pm m n cs (at_ + 1) rest) h0 h1
    refine ⟨r' % a, at_ + 1, r' / a, Eq.trans (ss_nx (ρ1 := [some (.ref n 0), some (.p (.int a)), some (.p (.int at_)), some (.p (.int c)), none]) (m1 := pm m n cs (at_ + 1) r') ?_) (take_tail hn rfl rfl (by show 4 < 5; decide) ha), (mod_b ha.1).1, (mod_b ha.1).2, by omega, Int.le_refl _⟩
    refine (v_ift (t := decide (rest < a)) (e_cmp (op := .lt) (i2 _ rest rfl) (e_var rfl) rfl) rfl).trans ?_
    rw [decide_eq_true hb, if_pos rfl]
    refine (ss_nx (v_set (i1 _ rest rfl))).trans ?_
    refine (ss_nx (v_set (e_lit _))).trans ?_
    refine (ss_nx hk).trans ?_
    refine (ss_nx (v_setix (e_add (e_var rfl) (e_lit _)) (e_var rfl) (e_lit _) (setix_l hn rfl))).trans ?_
    exact (ss_nx (v_setix (e_call2 (e_var rfl) (e_var rfl) hr) (e_var rfl) (e_lit _) (setix_l hn rfl))).trans ss_nil
  · refine ⟨rest % a, at_, rest / a, Eq.trans (ss_nx (ρ1 := [some (.ref n 0), some (.p (.int a)), none, none, none]) (m1 := pm m n cs at_ rest) ?_) (take_tail hn rfl rfl (by show 4 < 5; decide) ha), (mod_b ha.1).1, (mod_b ha.1).2, Int.le_refl _, by omega⟩
    refine (v_ift (t := decide (rest < a)) (e_cmp (op := .lt) (i2 _ rest rfl) (e_var rfl) rfl) rfl).trans ?_
    rw [decide_eq_false hb, if_neg Bool.false_ne_true]
    rfl
end
/-- the drawn number -/
theorem take_ok {d : Nat} {m : Mem} {n : Nat} {cs : List Int} {at_ rest a : Int} (hn : n < m.length) (h0 : 0 ≤ at_) (h1 : at_ < 1073741824) (hc : cs.length ≤ 1000) (ha : 0 < a ∧ a < 1073741824) :
    ∃ r at' rest', prog.call (d + 2) 2 [.ref n 0, .p (.int a)] (pm m n cs at_ rest) = .ok (.p (.int r)) (pm m n cs at' rest') ∧ 0 ≤ r ∧ r < a ∧ at_ ≤ at' ∧ at' ≤ at_ + 1 := by
  obtain ⟨r, at', rest', h, h2, h3, h4, h5⟩ := take_body (cf := prog.call (d + 1)) (mt := prog.mt) (fun c a m g0 g1 => by
    obtain ⟨r, hr⟩ := spread_body (cf := prog.call d) (mt := prog.mt) c a m g0 g1
    refine ⟨r, (call_p (q := f_law_spread) rfl rfl hr).trans ?_⟩
    rw [List.take_length]) (rest := rest) hn h0 h1 hc ha
  refine ⟨r, at', rest', (call_p (q := f_law_take) rfl rfl h).trans ?_, h2, h3, h4, h5⟩
  have : (pm m n cs at_ rest).length = (pm m n cs at' rest').length := by simp [pm]
  rw [this, List.take_length]
end K08
end Lot
namespace Lot
namespace K08
section
variable {cf : Nat → List D → Mem → Out D} {mt : Nat → Nat → Option Nat}
theorem same_non (M : Mem) : evSs cf mt f_law_same.body [some (.p .non), some (.p .non), none, none] M = .ok (.rt (.p (.bl true))) M := rfl
theorem same_int (x : Int) (M : Mem) : evSs cf mt f_law_same.body [some (.p (.int x)), some (.p (.int x)), none, none] M = .ok (.rt (.p (.bl true))) M := by
  have : evSs cf mt f_law_same.body [some (.p (.int x)), some (.p (.int x)), none, none] M = .ok (.rt (.p (.bl (x == x)))) M := rfl
  rw [this, beq_self_eq_true]
theorem same_str (x : PySem.Str) (M : Mem) : evSs cf mt f_law_same.body [some (.p (.str x)), some (.p (.str x)), none, none] M = .ok (.rt (.p (.bl true))) M := by
  have : evSs cf mt f_law_same.body [some (.p (.str x)), some (.p (.str x)), none, none] M = .ok (.rt (.p (.bl (x == x)))) M := rfl
  rw [this, beq_self_eq_true]
theorem same_bl (x : Bool) (M : Mem) : evSs cf mt f_law_same.body [some (.p (.bl x)), some (.p (.bl x)), none, none] M = .ok (.rt (.p (.bl true))) M := by
  cases x <;> rfl
theorem comp_same {l : List P} {M : Mem} (g : Mem → Bool) (hg : ∀ m, g m = true) (h : ∀ x ∈ l, cf 3 [.p x, .p x] M = .ok (.p (.bl true)) M) (ρ : Env) (hr : ρ.length = 4) : ∀ acc, compL g (stepO [2, 3] (bindTg (.tp [2, 3])) (fun ρ m => evIfs cf mt .nil ρ m) (fun ρ m => evE cf mt (.call 3 (.cons (.var 2) (.cons (.var 3) .nil))) ρ m) ρ) (zipL l l) acc M = .ok (acc ++ List.replicate l.length (.bl true)) M := by
  induction l with
  | nil =>
    intro acc
    show (if g M then Out.ok acc M else .bad) = _
    rw [hg, if_pos rfl]
    simp
  | cons x l ih =>
    intro acc
    show (if g M then (stepO _ _ _ _ ρ (.tup [x, x]) M).bind fun o m1 => compL g _ (zipL l l) (acc ++ o) m1 else .bad) = _
    rw [hg, if_pos rfl]
    have hx := h x List.mem_cons_self
    have e : evE cf mt (.call 3 (.cons (.var 2) (.cons (.var 3) .nil))) (setAll (wipe ρ [2, 3]) [2, 3] [x, x]) M = .ok (.p (.bl true)) M := by
      match ρ, hr with
      | [a, b, c, d], _ => exact e_call2 (e_var rfl) (e_var rfl) hx
    have st : stepO [2, 3] (bindTg (.tp [2, 3])) (fun ρ m => evIfs cf mt .nil ρ m) (fun ρ m => evE cf mt (.call 3 (.cons (.var 2) (.cons (.var 3) .nil))) ρ m) ρ (.tup [x, x]) M = .ok [.bl true] M := by
      show ((evE cf mt (.call 3 (.cons (.var 2) (.cons (.var 3) .nil))) (setAll (wipe ρ [2, 3]) [2, 3] [x, x]) M).bind fun d m3 => (asP d m3).bind fun y m3 => Out.ok [y] m3) = _
      rw [e]; rfl
    rw [st, Out.bind_ok, ih (fun y hy => h y (List.mem_cons_of_mem _ hy))]
    simp [List.replicate_succ]
theorem trues (n : Nat) : ((List.replicate n (P.bl true)).any fun z => eqP z (.bl false)) = false := by
  induction n with
  | zero => rfl
  | succ n ih => rw [List.replicate_succ, List.any_cons, ih]; rfl
theorem trues_sc (n : Nat) : ((List.replicate n (P.bl true)).all sc) = true := by
  induction n with
  | zero => rfl
  | succ n ih => rw [List.replicate_succ, List.all_cons, ih]; rfl
theorem same_lst {x : P} {l : List P} {M : Mem} (hx : x = .lst l ∨ x = .tup l) (hl : l.length ≤ 1000) (h : ∀ x ∈ l, cf 3 [.p x, .p x] M = .ok (.p (.bl true)) M) : evSs cf mt f_law_same.body [some (.p x), some (.p x), none, none] M = .ok (.rt (.p (.bl true))) M := by
  have hc : evE cf mt (.comp (.call 3 (.cons (.var 2) (.cons (.var 3) .nil))) (.tp [2, 3]) (.zip (.var 0) (.var 1) false) .nil) [some (.p x), some (.p x), none, none] M = .ok (.p (.lst (List.replicate l.length (.bl true)))) M := by
    have hz : ∃ g : Mem → Bool, (∀ m, g m = true) ∧ evI cf mt (.zip (.var 0) (.var 1) false) [some (.p x), some (.p x), none, none] M = .ok (zipL l l, g) M := by
      rcases hx with rfl | rfl
      · exact ⟨_, fun m => rfl, rfl⟩
      · exact ⟨_, fun m => rfl, rfl⟩
    obtain ⟨g, hg, hz⟩ := hz
    show lcO [2, 3] (bindTg (.tp [2, 3])) (fun ρ m => evI cf mt (.zip (.var 0) (.var 1) false) ρ m) (fun ρ m => evIfs cf mt .nil ρ m) (fun ρ m => evE cf mt (.call 3 (.cons (.var 2) (.cons (.var 3) .nil))) ρ m) _ M = _
    unfold lcO
    dsimp only
    rw [hz, Out.bind_ok]
    dsimp only
    rw [comp_same g hg h _ rfl, Out.bind_ok, List.nil_append, if_pos (by rw [List.length_replicate]; exact Nat.le_trans hl (by decide))]
  have hn : cmpD .notin (.p (.bl false)) (.p (.lst (List.replicate l.length (.bl true)))) M = some true := by
    show (inP (.bl false) (.lst (List.replicate l.length (.bl true)))).map not = _
    unfold inP
    dsimp only
    rw [if_pos (by rw [trues_sc]; rfl), trues]
    rfl
  have hlen : cmpD .ne (.p (.int (l.length : Int))) (.p (.int (l.length : Int))) M = some false := by
    show (if okEq (.int (l.length : Int)) (.int (l.length : Int)) then some (!((l.length : Int) == (l.length : Int))) else none) = _
    rw [if_pos (show okEq (.int (l.length : Int)) (.int (l.length : Int)) = true from rfl), beq_self_eq_true]; rfl
  unfold f_law_same
  dsimp only
  rcases hx with rfl | rfl
  · refine (ss_nx (ρ1 := [some (.p (.lst l)), some (.p (.lst l)), none, none]) (m1 := M) rfl).trans ?_
    refine (ss_nx (ρ1 := [some (.p (.lst l)), some (.p (.lst l)), none, none]) (m1 := M) rfl).trans ?_
    refine (ss_nx (ρ1 := [some (.p (.lst l)), some (.p (.lst l)), none, none]) (m1 := M) rfl).trans ?_
    refine (ss_nx (ρ1 := [some (.p (.lst l)), some (.p (.lst l)), none, none]) (m1 := M) rfl).trans ?_
    refine (ss_nx ((v_ift (t := false) (e_cmp (e_len (e_var rfl) rfl rfl) (e_len (e_var rfl) rfl rfl) hlen) rfl).trans rfl)).trans ?_
    exact ss_rt (v_ret (e_cmp (e_lit _) hc hn))
  · refine (ss_nx (ρ1 := [some (.p (.tup l)), some (.p (.tup l)), none, none]) (m1 := M) rfl).trans ?_
    refine (ss_nx (ρ1 := [some (.p (.tup l)), some (.p (.tup l)), none, none]) (m1 := M) rfl).trans ?_
    refine (ss_nx (ρ1 := [some (.p (.tup l)), some (.p (.tup l)), none, none]) (m1 := M) rfl).trans ?_
    refine (ss_nx (ρ1 := [some (.p (.tup l)), some (.p (.tup l)), none, none]) (m1 := M) rfl).trans ?_
    refine (ss_nx ((v_ift (t := false) (e_cmp (e_len (e_var rfl) rfl rfl) (e_len (e_var rfl) rfl rfl) hlen) rfl).trans rfl)).trans ?_
    exact ss_rt (v_ret (e_cmp (e_lit _) hc hn))
end
/-- _law_same of a thing and itself -/
theorem call_same {d : Nat} {x : P} {M : Mem} (h : evSs (prog.call d) prog.mt f_law_same.body [some (.p x), some (.p x), none, none] M = .ok (.rt (.p (.bl true))) M) : prog.call (d + 1) 3 [.p x, .p x] M = .ok (.p (.bl true)) M := by
  refine (call_p (q := f_law_same) rfl rfl h).trans ?_
  rw [List.take_length]
/-- simple things -/
def simple : P → Bool
  | .non => true
  | .bl _ => true
  | .int _ => true
  | .str _ => true
  | _ => false
theorem same_s {d : Nat} {x : P} {M : Mem} (h : simple x = true) : prog.call (d + 1) 3 [.p x, .p x] M = .ok (.p (.bl true)) M := by
  cases x with
  | non => exact call_same (same_non M)
  | bl b => exact call_same (same_bl b M)
  | int i => exact call_same (same_int i M)
  | str s => exact call_same (same_str s M)
  | _ => cases h
theorem same_1 {d : Nat} {x : P} {l : List P} {M : Mem} (hx : x = .lst l ∨ x = .tup l) (hl : l.length ≤ 1000) (h : l.all simple = true) : prog.call (d + 2) 3 [.p x, .p x] M = .ok (.p (.bl true)) M := by
  rw [List.all_eq_true] at h
  exact call_same (same_lst hx hl fun y hy => same_s (h y hy))
theorem same_2 {d : Nat} {l : List P} {M : Mem} (hl : l.length ≤ 1000) (h : ∀ x ∈ l, simple x = true ∨ ∃ k, (x = .lst k ∨ x = .tup k) ∧ k.length ≤ 1000 ∧ k.all simple = true) : prog.call (d + 3) 3 [.p (.lst l), .p (.lst l)] M = .ok (.p (.bl true)) M :=
  call_same (same_lst (.inl rfl) hl fun y hy => by
    rcases h y hy with h | ⟨k, h1, h2, h3⟩
    · exact same_s h
    · exact same_1 h1 h2 h3)
end K08
end Lot
namespace Lot
namespace K08
/-- the turn's body -/
def turnB : CSs := match f_law.body with
  | .cons _ (.cons (.for _ _ b) _) => b
  | _ => .nil
abbrev m0 : Mem := [.dead, .dead]
def excs (f s : Int) (nm th : P) : List P := [.exc 1 [.int f, .int s], .exc 2 [.int s, .int f], .exc 3 [], .exc 4 [.int (10 ^ (30 : Int).toNat + f)], .exc 5 [], .exc 6 [.int (s - 1)], .exc 7 [nm], .exc 8 [.int s], .exc 9 [th], .exc 10 [th], .exc 11 [], .exc 12 []]
def flds (f s : Int) (nm th : P) : List P := [.int f, .int s, .int s, .int f, .int (10 ^ (30 : Int).toNat + f), .int (s - 1), nm, .int s, th, th]
section
variable (r0 r2 r4 r5 r6 r11 r12 r13 : Option D) (w nm th : P) (f s : Int) (cs : List Int) (a r : Int)
theorem st3 : evS (prog.call 7) prog.mt (getS 3 turnB) [r0, some (.ref 1 0), r2, some (.p w), r4, r5, r6, some (.p (.int f)), some (.p (.int s)), some (.p nm), some (.p th), r11, r12, r13] (pm m0 1 cs a r) = .ok (.nx [r0, some (.ref 1 0), r2, some (.p w), some (.p (.lst ((excs f s nm th).take 5))), r5, r6, some (.p (.int f)), some (.p (.int s)), some (.p nm), some (.p th), r11, r12, r13]) (pm m0 1 cs a r) := by kernel_rfl
theorem st4 : evS (prog.call 7) prog.mt (getS 4 turnB) [r0, some (.ref 1 0), r2, some (.p w), some (.p (.lst ((excs f s nm th).take 5))), r5, r6, some (.p (.int f)), some (.p (.int s)), some (.p nm), some (.p th), r11, r12, r13] (pm m0 1 cs a r) = .ok (.nx [r0, some (.ref 1 0), r2, some (.p w), some (.p (.lst ((excs f s nm th).take 10))), r5, r6, some (.p (.int f)), some (.p (.int s)), some (.p nm), some (.p th), r11, r12, r13]) (pm m0 1 cs a r) := by kernel_rfl
theorem st5 : evS (prog.call 7) prog.mt (getS 5 turnB) [r0, some (.ref 1 0), r2, some (.p w), some (.p (.lst ((excs f s nm th).take 10))), r5, r6, some (.p (.int f)), some (.p (.int s)), some (.p nm), some (.p th), r11, r12, r13] (pm m0 1 cs a r) = .ok (.nx [r0, some (.ref 1 0), r2, some (.p w), some (.p (.lst (excs f s nm th))), r5, r6, some (.p (.int f)), some (.p (.int s)), some (.p nm), some (.p th), r11, r12, r13]) (pm m0 1 cs a r) := by kernel_rfl
theorem st6 : evS (prog.call 7) prog.mt (getS 6 turnB) [r0, some (.ref 1 0), r2, some (.p w), some (.p (.lst (excs f s nm th))), r5, r6, some (.p (.int f)), some (.p (.int s)), some (.p nm), some (.p th), r11, r12, r13] (pm m0 1 cs a r) = .ok (.nx [r0, some (.ref 1 0), r2, some (.p w), some (.p (.lst (excs f s nm th))), r5, r6, some (.p (.int f)), some (.p (.int s)), some (.p nm), some (.p th), some (.p (.int 11)), some (.p (.exc 12 [])), r13]) (pm m0 1 cs a r) := by kernel_rfl
theorem st7 : evS (prog.call 7) prog.mt (getS 7 turnB) [r0, some (.ref 1 0), r2, some (.p w), some (.p (.lst (excs f s nm th))), r5, r6, some (.p (.int f)), some (.p (.int s)), some (.p nm), some (.p th), r11, r12, r13] (pm m0 1 cs a r) = .ok (.nx [r0, some (.ref 1 0), r2, some (.p w), some (.p (.lst (excs f s nm th))), some (.p (.lst ((flds f s nm th).take 7))), r6, some (.p (.int f)), some (.p (.int s)), some (.p nm), some (.p th), r11, r12, r13]) (pm m0 1 cs a r) := by kernel_rfl
theorem st8 : evS (prog.call 7) prog.mt (getS 8 turnB) [r0, some (.ref 1 0), r2, some (.p w), some (.p (.lst (excs f s nm th))), some (.p (.lst ((flds f s nm th).take 7))), r6, some (.p (.int f)), some (.p (.int s)), some (.p nm), some (.p th), r11, r12, r13] (pm m0 1 cs a r) = .ok (.nx [r0, some (.ref 1 0), r2, some (.p w), some (.p (.lst (excs f s nm th))), some (.p (.lst (flds f s nm th))), r6, some (.p (.int f)), some (.p (.int s)), some (.p nm), some (.p th), r11, r12, r13]) (pm m0 1 cs a r) := by kernel_rfl
theorem st9 : evS (prog.call 7) prog.mt (getS 9 turnB) [r0, some (.ref 1 0), r2, some (.p w), some (.p (.lst (excs f s nm th))), some (.p (.lst (flds f s nm th))), r6, some (.p (.int f)), some (.p (.int s)), some (.p nm), some (.p th), r11, r12, r13] (pm m0 1 cs a r) = .ok (.nx [r0, some (.ref 1 0), r2, some (.p w), some (.p (.lst (excs f s nm th))), some (.p (.lst (flds f s nm th))), some (.p (.lst (flds f s nm th))), some (.p (.int f)), some (.p (.int s)), some (.p nm), some (.p th), r11, r12, r13]) (pm m0 1 cs a r) := by kernel_rfl
end
end K08
end Lot
namespace Lot
namespace K08
theorem e_not {cf : Nat → List D → Mem → Out D} {mt : Nat → Nat → Option Nat} {ρ : Env} {m m1 : Mem} {a : CE} {x : D} {t : Bool} (ha : evE cf mt a ρ m = .ok x m1) (ht : truth x m1 = some t) : evE cf mt (.not a) ρ m = .ok (.p (.bl (!t))) m1 := by
  show (((evE cf mt a ρ m).bind truthO).bind fun b m1 => Out.ok (D.p (P.bl (!b))) m1) = _
  rw [ha, Out.bind_ok]
  unfold truthO
  rw [ht]; rfl
def things : List P := [.non, .str "", .lst [.str "a"], .tup [.str "a", .int 1], .int 7, .bl true]
def names : List P := [.str "a", .str "zzzzzzzz"]
theorem flds_ok (f s : Int) {nm th : P} (hn : nm ∈ names) (ht : th ∈ things) : ∀ x ∈ flds f s nm th, simple x = true ∨ ∃ k, (x = .lst k ∨ x = .tup k) ∧ k.length ≤ 1000 ∧ k.all simple = true := by
  have h1 : simple nm = true := by
    simp only [names, List.mem_cons, List.not_mem_nil, or_false] at hn
    rcases hn with rfl | rfl <;> rfl
  have h2 : simple th = true ∨ ∃ k, (th = .lst k ∨ th = .tup k) ∧ k.length ≤ 1000 ∧ k.all simple = true := by
    simp only [things, List.mem_cons, List.not_mem_nil, or_false] at ht
    rcases ht with rfl | rfl | rfl | rfl | rfl | rfl
    · exact .inl rfl
    · exact .inl rfl
    · exact .inr ⟨_, .inl rfl, by decide, rfl⟩
    · exact .inr ⟨_, .inr rfl, by decide, rfl⟩
    · exact .inl rfl
    · exact .inl rfl
  intro x hx
  simp only [flds, List.mem_cons, List.not_mem_nil, or_false] at hx
  rcases hx with rfl | rfl | rfl | rfl | rfl | rfl | rfl | rfl | rfl | rfl
  · exact .inl rfl
  · exact .inl rfl
  · exact .inl rfl
  · exact .inl rfl
  · exact .inl rfl
  · exact .inl rfl
  · exact .inl h1
  · exact .inl rfl
  · exact h2
  · exact h2
theorem turn_ok (ρ : Env) (hl : ρ.length = 14) (h1 : (ρ[1]?).bind id = some (.ref 1 0)) {cs : List Int} (hc : cs.length ≤ 1000) {a r : Int} (h0 : 0 ≤ a) (ha : a < 1000) :
    ∃ ρ' a' r', evSs (prog.call 7) prog.mt turnB ρ (pm m0 1 cs a r) = .ok (.nx ρ') (pm m0 1 cs a' r') ∧ ρ'.length = 14 ∧ (ρ'[1]?).bind id = some (.ref 1 0) ∧ a ≤ a' ∧ a' ≤ a + 5 := by
  match ρ, hl with
  | [r0, r1, r2, r3, r4, r5, r6, r7, r8, r9, r10, r11, r12, r13], _ =>
    have e1 : r1 = some (.ref 1 0) := h1
    subst e1
    obtain ⟨k1, a1, q1, t1, b1, c1, d1, g1⟩ := take_ok (d := 5) (m := m0) (n := 1) (cs := cs) (at_ := a) (rest := r) (a := 3) (by decide) h0 (by omega) hc (by decide)
    obtain ⟨k2, a2, q2, t2, b2, c2, d2, g2⟩ := take_ok (d := 5) (m := m0) (n := 1) (cs := cs) (at_ := a1) (rest := q1) (a := 6) (by decide) (by omega) (by omega) hc (by decide)
    obtain ⟨k3, a3, q3, t3, b3, c3, d3, g3⟩ := take_ok (d := 5) (m := m0) (n := 1) (cs := cs) (at_ := a2) (rest := q2) (a := 15) (by decide) (by omega) (by omega) hc (by decide)
    obtain ⟨k4, a4, q4, t4, b4, c4, d4, g4⟩ := take_ok (d := 5) (m := m0) (n := 1) (cs := cs) (at_ := a3) (rest := q3) (a := 2) (by decide) (by omega) (by omega) hc (by decide)
    obtain ⟨k5, a5, q5, t5, b5, c5, d5, g5⟩ := take_ok (d := 5) (m := m0) (n := 1) (cs := cs) (at_ := a4) (rest := q4) (a := 6) (by decide) (by omega) (by omega) hc (by decide)
    obtain ⟨w, hw, _, _⟩ := atI_of (l := [P.str "", .str "a word", .str "none"]) b1 c1
    obtain ⟨nm, hnm, mnm, _⟩ := atI_of (l := names) b4 c4
    obtain ⟨th, hth, mth, _⟩ := atI_of (l := things) b5 c5
    have z0 : evS (prog.call 7) prog.mt (getS 0 turnB) [r0, some (.ref 1 0), r2, r3, r4, r5, r6, r7, r8, r9, r10, r11, r12, r13] (pm m0 1 cs a r) = .ok (.nx [r0, some (.ref 1 0), r2, some (.p w), r4, r5, r6, r7, r8, r9, r10, r11, r12, r13]) (pm m0 1 cs a1 q1) :=
      v_set (e_ix (x := .p (.lst [P.str "", .str "a word", .str "none"])) rfl (e_call2 (e_var rfl) (e_lit _) t1) (ixD_l rfl rfl hw))
    have z1 : evS (prog.call 7) prog.mt (getS 1 turnB) [r0, some (.ref 1 0), r2, some (.p w), r4, r5, r6, r7, r8, r9, r10, r11, r12, r13] (pm m0 1 cs a1 q1) = .ok (.nx [r0, some (.ref 1 0), r2, some (.p w), r4, r5, r6, some (.p (.int k2)), some (.p (.int k3)), r9, r10, r11, r12, r13]) (pm m0 1 cs a3 q3) :=
      v_par2 (e_call2 (e_var rfl) (e_lit _) t2) (e_call2 (e_var rfl) (e_lit _) t3)
    have z2 : evS (prog.call 7) prog.mt (getS 2 turnB) [r0, some (.ref 1 0), r2, some (.p w), r4, r5, r6, some (.p (.int k2)), some (.p (.int k3)), r9, r10, r11, r12, r13] (pm m0 1 cs a3 q3) = .ok (.nx [r0, some (.ref 1 0), r2, some (.p w), r4, r5, r6, some (.p (.int k2)), some (.p (.int k3)), some (.p nm), some (.p th), r11, r12, r13]) (pm m0 1 cs a5 q5) :=
      v_par2 (e_ix (x := .p (.lst names)) rfl (e_call2 (e_var rfl) (e_lit _) t4) (ixD_l rfl rfl hnm)) (e_ix (x := .p (.lst things)) rfl (e_call2 (e_var rfl) (e_lit _) t5) (ixD_l rfl rfl hth))
    have hs : prog.call 7 3 [.p (.lst (flds k2 k3 nm th)), .p (.lst (flds k2 k3 nm th))] (pm m0 1 cs a5 q5) = .ok (.p (.bl true)) (pm m0 1 cs a5 q5) := same_2 (d := 4) (by show 10 ≤ 1000; decide) (flds_ok k2 k3 mnm mth)
    refine ⟨[r0, some (.ref 1 0), r2, some (.p w), some (.p (.lst (excs k2 k3 nm th))), some (.p (.lst (flds k2 k3 nm th))), some (.p (.lst (flds k2 k3 nm th))), some (.p (.int k2)), some (.p (.int k3)), some (.p nm), some (.p th), some (.p (.int 11)), some (.p (.exc 12 [])), r13], a5, q5, ?_, ?_, ?_, by omega, by omega⟩
    case refine_1 =>
      refine Eq.trans (ss_nx z0) ?_
      refine Eq.trans (ss_nx z1) ?_
      refine Eq.trans (ss_nx z2) ?_
      refine Eq.trans (ss_nx (st3 r0 r2 r4 r5 r6 r11 r12 r13 w nm th k2 k3 cs a5 q5)) ?_
      refine Eq.trans (ss_nx (st4 r0 r2 r5 r6 r11 r12 r13 w nm th k2 k3 cs a5 q5)) ?_
      refine Eq.trans (ss_nx (st5 r0 r2 r5 r6 r11 r12 r13 w nm th k2 k3 cs a5 q5)) ?_
      refine Eq.trans (ss_nx (st6 r0 r2 r5 r6 r11 r12 r13 w nm th k2 k3 cs a5 q5)) ?_
      refine Eq.trans (ss_nx (st7 r0 r2 r5 r6 _ _ r13 w nm th k2 k3 cs a5 q5)) ?_
      refine Eq.trans (ss_nx (st8 r0 r2 r6 _ _ r13 w nm th k2 k3 cs a5 q5)) ?_
      refine Eq.trans (ss_nx (st9 r0 r2 r6 _ _ r13 w nm th k2 k3 cs a5 q5)) ?_
      exact Eq.trans (ss_nx ((v_ift (t := false) (e_not (e_call2 (e_var rfl) (e_var rfl) hs) rfl) rfl).trans rfl)) rfl
    case refine_2 => rfl
    case refine_3 => rfl
end K08
end Lot
namespace Lot
namespace K08
theorem call_r {g : Pg} {d f : Nat} {q : Fn} {ds : List D} {m m1 : Mem} {n k : Nat} (hf : g.fns[f]? = some q) (hl : ds.length = q.np) (h : evSs (g.call d) g.mt q.body (ds.map some ++ List.replicate (q.names.length - q.np) none) m = .ok (.rt (.ref n k)) m1) : g.call (d + 1) f ds m = .ok (.ref n k) m1 := by
  show (match g.fns[f]? with
    | some q => if ds.length = q.np then settle m.length (evSs (g.call d) g.mt q.body (ds.map some ++ List.replicate (q.names.length - q.np) none) m) else .bad
    | none => .bad) = _
  rw [hf]
  dsimp only
  rw [if_pos hl, h]
  rfl
theorem cut_map (ns : List Int) (lo hi : Option Int) : cut (ns.map P.int) lo hi = (cut ns lo hi).map P.int := by
  unfold cut
  rw [List.length_map, ← List.map_drop, ← List.map_take]
theorem six12 (n d : Nat) : sIx n d (some 12) = min 12 n := by
  unfold sIx
  dsimp only
  rw [if_neg (show ¬ (12 : Int) < 0 by decide)]
  rfl
theorem cut_12 (ns : List Int) : (cut ns none (some 12)).length ≤ 12 := by
  unfold cut
  rw [List.length_take, six12]
  have : sIx ns.length 0 none = 0 := rfl
  omega
theorem cut_63 (ns : List Int) (h : cut ns (some 12) (some 63) ≠ []) : (cut ns none (some 12)).length = 12 := by
  have hn : 12 < ns.length := by
    rcases Nat.lt_or_ge 12 ns.length with z | z
    · exact z
    · exfalso
      apply h
      unfold cut
      have e : sIx ns.length 0 (some 12) = ns.length := by rw [six12]; omega
      rw [e, List.drop_length, List.take_nil]
  unfold cut
  rw [List.length_take, List.length_drop, six12]
  have : sIx ns.length 0 none = 0 := rfl
  omega
/-- the body of the opening's loop -/
def openB : CSs := match f_law_open.body with
  | .cons _ (.cons (.for _ _ b) _) => b
  | _ => .nil
section
variable {cf : Nat → List D → Mem → Out D} {mt : Nat → Nat → Option Nat}
theorem open_step {r0 r2 r3 : Option D} {k : Nat} {c : Int} {cs : List Int} (h : cs.length = 12) : ∃ cs' : List Int, cs'.length = 12 ∧ evSs cf mt openB [r0, some (.ref 0 0), some (.p (.int k)), some (.p (.int c))] [.val (.lst (cs.map P.int))] = .ok (.nx [r0, some (.ref 0 0), some (.p (.int k)), some (.p (.int c))]) [.val (.lst (cs'.map P.int))] := by
  have hm := mod_b (a := (k : Int)) (p := 12) (by decide)
  obtain ⟨x, e, hx, hq⟩ := atI_of (l := cs.map P.int) hm.1 (by rw [List.length_map, h]; exact hm.2)
  obtain ⟨y, _, rfl⟩ := List.mem_map.mp hx
  refine ⟨cs.set ((k : Int) % 12).toNat (y + c), by rw [List.length_set]; exact h, ?_⟩
  have hi : ixN (cs.map P.int).length ((k : Int) % 12) = some ((k : Int) % 12).toNat := by
    unfold ixN
    rw [if_pos hm.1, if_pos (by rw [List.length_map, h]; exact hm.2)]
  have i0 : evE cf mt (.bin .mod (.var 2) (.lit (.int 12))) [r0, some (.ref 0 0), some (.p (.int k)), some (.p (.int c))] [.val (.lst (cs.map P.int))] = .ok (.p (.int ((k : Int) % 12))) [.val (.lst (cs.map P.int))] := e_mod (e_var rfl) (e_lit _) (by decide)
  have w := setix_l (m := [Obj.dead]) (n := 0) (l := cs.map P.int) (v := P.int (y + c)) (by decide) hi
  rw [List.map_set] at *
  refine Eq.trans (ss_nx (v_setix (e_add (e_ix (e_var rfl) i0 (ixD_l rfl rfl e)) (e_var rfl)) (e_var rfl) i0 w)) ?_
  exact ss_nil
theorem open_loop {g : Mem → Bool} (hg : ∀ m, g m = true) : ∀ (L : List Int) (k : Nat) (cs : List Int) (r0 r2 r3 : Option D), (L ≠ [] → cs.length = 12) → ∃ (r2' r3' : Option D) (cs' : List Int), forL g (fun x ρ m => match bindTg (.tp [2, 3]) x ρ with
    | some ρ1 => evSs cf mt openB ρ1 m
    | none => .bad) (enumL k (L.map P.int)) [r0, some (.ref 0 0), r2, r3] [.val (.lst (cs.map P.int))] = .ok (.nx [r0, some (.ref 0 0), r2', r3']) [.val (.lst (cs'.map P.int))] ∧ cs'.length = cs.length
  | [], k, cs, r0, r2, r3, _ => ⟨r2, r3, cs, by
    show (if g _ then _ else _) = _
    rw [hg, if_pos rfl], rfl⟩
  | c :: L, k, cs, r0, r2, r3, h => by
    have h12 := h (by simp)
    obtain ⟨cs1, l1, e1⟩ := open_step (cf := cf) (mt := mt) (r0 := r0) (r2 := r2) (r3 := r3) (k := k) (c := c) h12
    obtain ⟨r2', r3', cs2, e2, l2⟩ := open_loop hg L (k + 1) cs1 r0 (some (.p (.int k))) (some (.p (.int c))) fun _ => l1
    refine ⟨r2', r3', cs2, ?_, by rw [l2, l1, h12]⟩
    show (if g _ then (evSs cf mt openB [r0, some (.ref 0 0), some (.p (.int k)), some (.p (.int c))] [.val (.lst (cs.map P.int))]).bind _ else _) = _
    rw [hg, if_pos rfl, e1]
    exact e2
theorem open_body (ns : List Int) : ∃ cs : List Int, cs.length ≤ 12 ∧ evSs cf mt f_law_open.body [some (.scr ns), none, none, none] [] = .ok (.rt (.ref 1 0)) (pm m0 1 cs 0 0) := by
  have z0 : evS cf mt (getS 0 f_law_open.body) [some (.scr ns), none, none, none] [] = .ok (.nx [some (.scr ns), some (.ref 0 0), none, none]) [.val (.lst (cut (ns.map P.int) none (some 12)))] := rfl
  rw [cut_map] at z0
  have hz : ∃ g : Mem → Bool, (∀ m, g m = true) ∧ evI cf mt (.enum (.slice (.var 0) (.lit (.int 12)) (.lit (.int 63)))) [some (.scr ns), some (.ref 0 0), none, none] [.val (.lst ((cut ns none (some 12)).map P.int))] = .ok (enumL 0 (cut (ns.map P.int) (some 12) (some 63)), g) [.val (.lst ((cut ns none (some 12)).map P.int))] := ⟨_, fun _ => rfl, rfl⟩
  obtain ⟨g, hg, hz⟩ := hz
  rw [cut_map] at hz
  obtain ⟨r2, r3, cs, e, l⟩ := open_loop (cf := cf) (mt := mt) hg (cut ns (some 12) (some 63)) 0 (cut ns none (some 12)) (some (.scr ns)) none none (cut_63 ns)
  have z1 : evS cf mt (getS 1 f_law_open.body) [some (.scr ns), some (.ref 0 0), none, none] [.val (.lst ((cut ns none (some 12)).map P.int))] = .ok (.nx [some (.scr ns), some (.ref 0 0), r2, r3]) [.val (.lst (cs.map P.int))] := by
    show (evI cf mt (.enum (.slice (.var 0) (.lit (.int 12)) (.lit (.int 63)))) [some (.scr ns), some (.ref 0 0), none, none] [.val (.lst ((cut ns none (some 12)).map P.int))]).bind (fun w m1 => forL w.2 (fun x ρ m => match bindTg (.tp [2, 3]) x ρ with
      | some ρ1 => evSs cf mt openB ρ1 m
      | none => .bad) w.1 [some (.scr ns), some (.ref 0 0), none, none] m1) = _
    rw [hz]
    exact e
  refine ⟨cs, by rw [l]; exact cut_12 ns, ?_⟩
  refine Eq.trans (ss_nx z0) ?_
  refine Eq.trans (ss_nx z1) ?_
  exact ss_rt rfl
end
theorem ev : ∀ ns : List Int, ns.length ≤ 63 → ∃ m, sg.g.call 8 5 [.scr ns] [] = .ok (.p (.bl true)) m := fun ns _ => by
  obtain ⟨cs, hc, ho⟩ := open_body (cf := prog.call 6) (mt := prog.mt) ns
  have ho := call_r (g := prog) (f := 0) (q := f_law_open) (ds := [.scr ns]) rfl rfl ho
  have hc' : cs.length ≤ 1000 := by omega
  obtain ⟨ρ1, a1, q1, t1, l1, p1, b1, c1⟩ := turn_ok [some (.scr ns), some (.ref 1 0), some (.p (.int 0)), none, none, none, none, none, none, none, none, none, none, none] rfl rfl hc' (a := 0) (r := 0) (by decide) (by decide)
  obtain ⟨ρ2, a2, q2, t2, l2, p2, b2, c2⟩ := turn_ok (ρ1.set 2 (some (.p (.int 1)))) (by rw [List.length_set]; exact l1) (by rw [List.getElem?_set_ne (by decide)]; exact p1) hc' (a := a1) (r := q1) (by omega) (by omega)
  obtain ⟨ρ3, a3, q3, t3, l3, p3, b3, c3⟩ := turn_ok (ρ2.set 2 (some (.p (.int 2)))) (by rw [List.length_set]; exact l2) (by rw [List.getElem?_set_ne (by decide)]; exact p2) hc' (a := a2) (r := q2) (by omega) (by omega)
  have z1 : evS (prog.call 7) prog.mt (getS 1 f_law.body) [some (.scr ns), some (.ref 1 0), none, none, none, none, none, none, none, none, none, none, none, none] (pm m0 1 cs 0 0) = .ok (.nx ρ3) (pm m0 1 cs a3 q3) := by
    show (evSs (prog.call 7) prog.mt turnB [some (.scr ns), some (.ref 1 0), some (.p (.int 0)), none, none, none, none, none, none, none, none, none, none, none] (pm m0 1 cs 0 0)).bind _ = _
    rw [t1]
    show (evSs (prog.call 7) prog.mt turnB (ρ1.set 2 (some (.p (.int 1)))) (pm m0 1 cs a1 q1)).bind _ = _
    rw [t2]
    show (evSs (prog.call 7) prog.mt turnB (ρ2.set 2 (some (.p (.int 2)))) (pm m0 1 cs a2 q2)).bind _ = _
    rw [t3]
    rfl
  have hb : evSs (prog.call 7) prog.mt f_law.body [some (.scr ns), none, none, none, none, none, none, none, none, none, none, none, none, none] [] = .ok (.rt (.p (.bl true))) (pm m0 1 cs a3 q3) := by
    refine Eq.trans (ss_nx (v_set (e_call1 (e_var rfl) ho))) ?_
    refine Eq.trans (ss_nx z1) ?_
    exact ss_rt rfl
  exact ⟨_, call_p (g := prog) (q := f_law) rfl rfl hb⟩
end K08
end Lot
namespace Lot
namespace K08
open PySem PySem.Spec PyProof.Rows L2

theorem hd : ∀ (f : Nat) q, sg.g.fns[f]? = some q → ∃ st, sts[f]? = some st ∧ defOf q st ∈ fnl ∧ fnB sg q st = true ∧ BindP q.name q.qual (q.names.take q.np) st
  | 0, q, h => by cases h; exact ⟨top 15, rfl, List.mem_of_getElem? (i := 0) rfl, ok0, bd0⟩
  | 1, q, h => by cases h; exact ⟨top 16, rfl, List.mem_of_getElem? (i := 1) rfl, ok1, bd1⟩
  | 2, q, h => by cases h; exact ⟨top 17, rfl, List.mem_of_getElem? (i := 2) rfl, ok2, bd2⟩
  | 3, q, h => by cases h; exact ⟨top 18, rfl, List.mem_of_getElem? (i := 3) rfl, ok3, bd3⟩
  | 4, q, h => by cases h; exact ⟨top 19, rfl, List.mem_of_getElem? (i := 4) rfl, ok4, bd4⟩
  | 5, q, h => by cases h; exact ⟨top 20, rfl, List.mem_of_getElem? (i := 5) rfl, ok5, bd5⟩
  | n + 6, q, h => by cases (show (none : Option Fn) = some q from h)
theorem hn : ∀ (j : Nat) q, sg.xs[j]? = some q → sg.G.lookup q.name = some (.xc j)
  | 0, q, h => by cases h; kernel_rfl
  | 1, q, h => by cases h; kernel_rfl
  | 2, q, h => by cases h; kernel_rfl
  | 3, q, h => by cases h; kernel_rfl
  | 4, q, h => by cases h; kernel_rfl
  | 5, q, h => by cases h; kernel_rfl
  | 6, q, h => by cases h; kernel_rfl
  | 7, q, h => by cases h; kernel_rfl
  | 8, q, h => by cases h; kernel_rfl
  | 9, q, h => by cases h; kernel_rfl
  | 10, q, h => by cases h; kernel_rfl
  | 11, q, h => by cases h; kernel_rfl
  | 12, q, h => by cases h; kernel_rfl
  | n + 13, q, h => by cases (show (none : Option Xc) = some q from h)
theorem hi : ∀ (j : Nat) q, sg.xs[j]? = some q → q.own = true → ∃ st qual, ∃ (b : PySem.Str), ∃ N ps, some ("LotError" : PySem.Str) = some b ∧ He.Fa.glo b ∈ fal ∧ iniOf q qual st ∈ fnl ∧ fscB N ps (defScope st) = true ∧ ps.length = q.flds.length + 1 ∧ N.length = q.flds.length + 1 ∧ initB ⟨N, defScope st, []⟩ b q.flds (defBody st) = true ∧ BindP "__init__" qual ps st
  | 0, q, h, ho => by cases h; cases ho
  | 1, q, h, _ => by cases h; exact ⟨sub 2 0, "Empty.__init__", "LotError", ["self", "block", "row"], ["self", "block", "row"], rfl, List.mem_of_getElem? (i := 27) rfl, List.mem_of_getElem? (i := 6) rfl, (Bool.and_eq_true_iff.mp ii0).1, rfl, rfl, (Bool.and_eq_true_iff.mp ii0).2, ib0⟩
  | 2, q, h, _ => by cases h; exact ⟨sub 3 0, "Twin.__init__", "LotError", ["self", "block", "row"], ["self", "block", "row"], rfl, List.mem_of_getElem? (i := 27) rfl, List.mem_of_getElem? (i := 7) rfl, (Bool.and_eq_true_iff.mp ii1).1, rfl, rfl, (Bool.and_eq_true_iff.mp ii1).2, ib1⟩
  | 3, q, h, ho => by cases h; cases ho
  | 4, q, h, _ => by cases h; exact ⟨sub 5 0, "NoNumber.__init__", "LotError", ["self", "count"], ["self", "count"], rfl, List.mem_of_getElem? (i := 27) rfl, List.mem_of_getElem? (i := 8) rfl, (Bool.and_eq_true_iff.mp ii2).1, rfl, rfl, (Bool.and_eq_true_iff.mp ii2).2, ib2⟩
  | 5, q, h, ho => by cases h; cases ho
  | 6, q, h, _ => by cases h; exact ⟨sub 7 0, "NoRoom.__init__", "LotError", ["self", "room"], ["self", "room"], rfl, List.mem_of_getElem? (i := 27) rfl, List.mem_of_getElem? (i := 9) rfl, (Bool.and_eq_true_iff.mp ii3).1, rfl, rfl, (Bool.and_eq_true_iff.mp ii3).2, ib3⟩
  | 7, q, h, _ => by cases h; exact ⟨sub 8 0, "Standing.__init__", "LotError", ["self", "name"], ["self", "name"], rfl, List.mem_of_getElem? (i := 27) rfl, List.mem_of_getElem? (i := 10) rfl, (Bool.and_eq_true_iff.mp ii4).1, rfl, rfl, (Bool.and_eq_true_iff.mp ii4).2, ib4⟩
  | 8, q, h, _ => by cases h; exact ⟨sub 9 0, "Full.__init__", "LotError", ["self", "most"], ["self", "most"], rfl, List.mem_of_getElem? (i := 27) rfl, List.mem_of_getElem? (i := 11) rfl, (Bool.and_eq_true_iff.mp ii5).1, rfl, rfl, (Bool.and_eq_true_iff.mp ii5).2, ib5⟩
  | 9, q, h, _ => by cases h; exact ⟨sub 10 0, "NoName.__init__", "LotError", ["self", "name"], ["self", "name"], rfl, List.mem_of_getElem? (i := 27) rfl, List.mem_of_getElem? (i := 12) rfl, (Bool.and_eq_true_iff.mp ii6).1, rfl, rfl, (Bool.and_eq_true_iff.mp ii6).2, ib6⟩
  | 10, q, h, _ => by cases h; exact ⟨sub 11 0, "NoHolder.__init__", "LotError", ["self", "holder"], ["self", "holder"], rfl, List.mem_of_getElem? (i := 27) rfl, List.mem_of_getElem? (i := 13) rfl, (Bool.and_eq_true_iff.mp ii7).1, rfl, rfl, (Bool.and_eq_true_iff.mp ii7).2, ib7⟩
  | 11, q, h, ho => by cases h; cases ho
  | 12, q, h, ho => by cases h; cases ho
  | n + 13, q, h, _ => by cases (show (none : Option Xc) = some q from h)
theorem hfa : ∀ p ∈ sg.G, faOf p ∈ fal := fun p hp => List.mem_cons_of_mem _ (List.mem_map_of_mem hp)
theorem hg : gB sg = true := by decide +kernel
theorem fin_ {P : Program} {w : World} {K : PySem.W.Frag} {h : Heap} {mg : Str → Option Value} {fa' : Addr} (X : K.In h) (G : h.Ns mainGlobals mg) (c : He.SaysD fal fnl K) (cx : exB xcs (some "LotError") K = true) (hmg : mg "law" = some (.ref fa')) :
    ∃ (K : PySem.W.Frag) (fd : FuncData) (sp : Sp), K.In h ∧ (∀ (s : Shared) (u : Value), BindsTo s fd ⟨[u], []⟩ [("script", u)]) ∧
      (∀ (H : Hp) (a : Addr) (ns : List Int), ns.length ≤ 63 → Only H → SqL K H a (ns.map V.int) → sp [.ref a] H (fun v _ => v = .bl true) fun _ _ _ => False) ∧
      ∀ base : Heap, K.In base → base.Ns mainGlobals mg → FnOk P w K mg base CX0 11 fa' fd ["script"] sp := by
  have hl := He.glo_ok X G (c.fact 0 (f := .glo "law") rfl)
  rw [hl] at hmg
  cases hmg
  obtain ⟨fd, F⟩ := c.def_ 5 (d := defOf f_law (top 20)) rfl
  exact law_end (S := sg) (P := P) (w := w) (mg := mg) (d := 7) (li := 5) (q := f_law) (st := top 20) X (tops_of (sts := sts) X G c hfa hg hd) (fun base => xcs_of X G c hfa hg cx base hn hi) (Nat.le_refl _) rfl rfl (by decide) rfl F ok5 bd5 rfl ev
end K08
end Lot
open PySem PySem.W PySem.Calls PyProof.Rows
theorem PySem.Challenge.cw_codelots_k08_refusals_made_by_hand_holds : PySem.Challenge.rw_codelots_k08_refusals_made_by_hand.Holds := by
  w_on; o_law
  refine HandSHeadRun.head_any (r := OpenLaw.row PySem.Challenge.rw_codelots_k08_refusals_made_by_hand) (q := view (OpenLaw.row PySem.Challenge.rw_codelots_k08_refusals_made_by_hand).prog [20]) (H := Lot.K08.hk) (ob := Lot.K08.ob) (M := 4000) (loose := Lot.K08.loose) (d := HandSHeadRun.topDef (OpenLaw.row PySem.Challenge.rw_codelots_k08_refusals_made_by_hand).prog 20) (kwd := []) Lot.K08.ob_eq
    (by kernel_rfl) (fun s => by kernel_rfl) Lot.K08.run (by kernel_rfl) (by kernel_rfl) (by kernel_rfl) (by rfl) (by first | assumption | decide +kernel) (by decide +kernel) ⟨rfl, rfl, rfl, rfl, rfl, by decide +kernel⟩ ?hw ?hc
  case hw => w_witness2
  case hc =>
    refine L2.walk_ofE (l := PySem.Challenge.rw_codelots_k08_refusals_made_by_hand) (n := 63) (k := 11) (x := "script") (CX := L2.CX0) rfl (by decide) (by kernel_rfl) ⟨rfl, by decide, by decide⟩ ?F (fun _ _ _ _ z => z)
    intro w mg fa h Y G hmg0
    obtain ⟨K, KX, c, cx⟩ := Y
    have hmg : mg ("law" : PySem.Str) = some (.ref fa) := by
      have e : (HandSHeadRun.topDef (OpenLaw.row PySem.Challenge.rw_codelots_k08_refusals_made_by_hand).prog 20).name = ("law" : PySem.Str) := by kernel_rfl
      rw [← e]
      exact hmg0
    exact Lot.K08.fin_ KX G c cx hmg
