import PyProof.Rows.All
import Wide.All
import OpenK.AllK
import Wide.FinOn
import HandS.ForMost
import HandS.ForExc
import KE.DataEq
import KE.KBits
import KE.KStateDown
import HandS.IsInst
import HandS.CallSlots
import HandS.Defaults
import HandS.Sort
import HandS.HeadEnd
import HandS.HeadHook2
import HandS.HeadHook3
import HandS.Head2
import HandS.TupAny
import HandS.Style
import HandS.CallRecv
import HandS.Walk
import HandS.Strs
import HandS.Zip
import HandS.ExcIs
import HandS.TryOnly
import HandS.Flow
import HandS.Conv
import HandS.Dict
import HandS.Small
import HandS.HotCalls
import PyProof.ExcBaseAll.ValueError
import PySem.Challenge.RW_rowmill_k47_near_refused
set_option Elab.async false
set_option linter.all false
set_option maxRecDepth 100000
set_option maxHeartbeats 4000000
/-! A small language for what the laws' Python says, and what it means: plain Lean, no model in sight. -/
namespace Rw
open PySem L2

/-- values that never change, as trees -/
inductive T where
  | non | bl (b : Bool) | int (i : Int) | str (x : Str)
  | tup (xs : List T) | lst (xs : List T)
  | ins (c : Nat) (fs : List (Nat × T))
  | dct (kvs : List (Key × T))
  | fn (g : Nat)
  | scr (ns : List Int)
  | exn (c : Nat) (fs : List (Nat × T))
/-- a tree, or a cell of the store -/
inductive Val where
  | t (x : T) | r (n : Nat)
inductive Cell where
  | dead | lst (xs : List Val) | ins (c : Nat) (fs : List (Nat × Val)) | dct (kvs : List (Key × Val))
abbrev Store := List Cell
structure Exn where
  c : Nat
  fs : List (Nat × T)
inductive R (α : Type) where
  | ok (a : α) (S : Store) | ex (x : Exn) (S : Store) | bad
def R.bind {α β : Type} (m : R α) (k : α → Store → R β) : R β := match m with
  | .ok a S => k a S
  | .ex x S => .ex x S
  | .bad => .bad
/-- .. where nothing is raised -/
def R.nob {α β : Type} (m : R α) (k : α → Store → R β) : R β := match m with
  | .ok a S => k a S
  | _ => .bad
@[simp] theorem R.nob_ok {α β : Type} (a : α) (S : Store) (k : α → Store → R β) : (R.ok a S).nob k = k a S := rfl
@[simp] theorem R.bind_ok {α β : Type} (a : α) (S : Store) (k : α → Store → R β) : (R.ok a S).bind k = k a S := rfl
@[simp] theorem R.bind_ex {α β : Type} (x : Exn) (S : Store) (k : α → Store → R β) : (R.ex x S : R α).bind k = .ex x S := rfl
@[simp] theorem R.bind_bad {α β : Type} (k : α → Store → R β) : (R.bad : R α).bind k = .bad := rfl

inductive Blt where
  | len | int | str | min2 | max2 | abs | list | tuple | all | any | sum | minl | maxl | divmod | sorted | bool
  deriving DecidableEq
inductive Ty where
  | int | bool | str | list | tuple | dict | cls (c : Nat)
  deriving DecidableEq
inductive BM where
  | append | pop | popi | insert | extend | index | count
  deriving DecidableEq
inductive ItK where
  | seq | range | enum | zip
  deriving DecidableEq

mutual
inductive IE where
  | var (i : Nat) | con (t : T) | glob (g : Nat)
  | bin (op : Operator) (a b : IE) | binM (op : Operator) (a b : IE) | neg (a : IE)
  | cmp (op : CmpOp) (a b : IE) | cmp2 (o p : CmpOp) (a b c : IE)
  | not (a : IE) | ands (es : IEs) | ors (es : IEs) | ife (t : IC) (a b : IE)
  | tup (es : IEs) | lst (m : Bool) (es : IEs)
  | sub (a i : IE) | slc (m : Bool) (a lo hi : IE) | rev (m : Bool) (a : IE)
  | fld (o : IE) (f : Nat)
  | call (f : Nat) (es : IEs) | new (c : Nat) (es : IEs) | meth (o : IE) (f : Nat) (es : IEs)
  | blt (b : Blt) (m : Bool) (es : IEs)
  | isi (e : IE) (many : Bool) (ts : List Ty)
  | exIs (i : Nat) (many : Bool) (ts : List (Option Nat)) | hot (f i : Nat)
  | bm (b : BM) (m : Bool) (o : IE) (es : IEs)
  | cix (g : Nat) (e : IE) | lenSet (e : IE) | listRg (e : IE) | inRg (neg : Bool) (a b : IE) | dct0 | dct1 (k v : Int) | dctD (m : Bool) (ks : List Key) (es : IEs) | upd (o e : IE)
  | comp (m : Bool) (k : ItK) (src : IEs) (many : Bool) (tg : List Nat) (ifs : ICs) (elt : IE)
inductive IEs where
  | nil | cons (e : IE) (es : IEs)
/-- a test -/
inductive IC where
  | val (e : IE) | not (c : IC) | ands (cs : ICs) | ors (cs : ICs)
inductive ICs where
  | nil | cons (c : IC) (cs : ICs)
end
mutual
inductive IS where
  | pass | expr (e : IE) | set (i : Nat) (e : IE) | setT (is : List Nat) (e : IE) | setF (o : IE) (f : Nat) (e : IE) | setS (o i e : IE) | setL (o lo hi e : IE)
  | aug (i : Nat) (op : Operator) (e : IE) | augF (o : IE) (f : Nat) (op : Operator) (e : IE)
  | ife (t : IC) (a b : ISs)
  | for_ (k : ItK) (src : IEs) (many : Bool) (tg : List Nat) (body : ISs)
  | while_ (n : Nat) (t : IC) (body : ISs)
  | ret (e : IE) | retN | raise (c : Nat) (es : IEs) | try_ (body : ISs) (cs : List Nat) (nm : Option Nat) (suite : ISs)
  | cont | brk
inductive ISs where
  | nil | cons (s : IS) (ss : ISs)
end

structure Fn where
  pure : Bool
  np : Nat
  ns : Nat
  dfl : List T
  body : ISs
  hot : Bool := false
structure Cl where
  frozen : Bool
  init : Option Nat
  flds : List Nat
  meths : List (Nat × Nat)
  sup : List Nat
structure Tab where
  fn : Nat → Option Fn
  cl : Nat → Option Cl
  con : Nat → Option T
  exc : Nat → Option (List Nat)
  exr : Nat → Bool := fun _ => true

def arity (tab : Tab) (f m : Nat) : Bool := match tab.fn f with
  | some d => (decide (m ≤ d.np) && decide (d.np - m ≤ d.dfl.length)) && !d.hot
  | none => false
def IEs.len : IEs → Nat
  | .nil => 0
  | .cons _ es => es.len + 1
abbrev Env := List (Option Val)
abbrev Call := Nat → List Val → Store → R Val

/-! ### operations on trees -/
def szLine : Nat := 16777216
def bigI (i : Int) : Bool := decide (i.natAbs < 18446744073709551616)
def binI (op : Operator) (i j : Int) : Option Int := match op with
  | .Add => some (i + j)
  | .Sub => some (i - j)
  | .Mult => if bigI i || bigI j then some (i * j) else none
  | .FloorDiv => if 0 < j ∧ j.toNat < 1073741824 then some (i / j) else none
  | .Mod => if 0 < j then some (i % j) else none
  | .Pow => if (0 ≤ j ∧ j.toNat ≤ 1000000) ∧ i.natAbs < 18446744073709551616 then some (i ^ j.toNat) else none
  | .LShift => if (0 ≤ j ∧ j.toNat ≤ 1000000) ∧ i.natAbs < 18446744073709551616 then some (i * 2 ^ j.toNat) else none
  | .RShift => if 0 ≤ j then some (i / 2 ^ j.toNat) else none
  | .BitAnd => some (Builtin.bitAnd i j)
  | .BitOr => some (Builtin.bitOr i j)
  | .BitXor => some (Builtin.bitXor i j)
  | _ => none
def binT (op : Operator) : T → T → Option T
  | .int i, .int j => (binI op i j).map .int
  | .str x, .str y => if op = .Add ∧ x.length + y.length ≤ szLine then some (.str (x ++ y)) else none
  | _, _ => none

mutual
def T.py : T → Option PyData
  | .non => some .none
  | .bl b => some (.bool b)
  | .int i => some (.int i)
  | .str x => some (.str x)
  | .tup xs => (T.pys xs).map .tuple
  | .lst xs => (T.pys xs).map .list
  | .scr ns => some (.list (ns.map .int))
  | _ => none
def T.pys : List T → Option (List PyData)
  | [] => some []
  | x :: xs => match T.py x with
    | some d => (T.pys xs).map (d :: ·)
    | none => none
end
def eqT (a b : T) : Option Bool := match a.py, b.py with
  | some d, some e => if min d.depth e.depth ≤ 60 then some (PyData.eqv d e) else none
  | _, _ => none
def isNon : T → Bool
  | .non => true
  | _ => false
def isB : T → T → Option Bool
  | .bl a, .bl b => some (a == b)
  | _, _ => none
def ordT (op : CmpOp) (i j : Int) : Bool := match op with
  | .Lt => decide (i < j)
  | .LtE => decide (i ≤ j)
  | .Gt => decide (j < i)
  | .GtE => decide (j ≤ i)
  | _ => false
def ordO (op : CmpOp) : T → T → Option Bool
  | .int i, .int j => some (ordT op i j)
  | _, _ => none
def inT (a b : T) : Option Bool := match a.py, b with
  | some d, .lst xs => (T.pys xs).bind fun ds => if min (PyData.depthAll ds) d.depth ≤ 60 then some (ds.any fun y => PyData.eqv y d) else none
  | some d, .tup xs => (T.pys xs).bind fun ds => if min (PyData.depthAll ds) d.depth ≤ 60 then some (ds.any fun y => PyData.eqv y d) else none
  | some _, .str y => match a with
    | .str x => some (!(Builtin.Str.occurrences y x 0 y.length 1).isEmpty)
    | _ => none
  | _, _ => none
def cmpT (op : CmpOp) (a b : T) : Option Bool := match op with
  | .Eq => eqT a b
  | .NotEq => (eqT a b).map not
  | .In => inT a b
  | .NotIn => (inT a b).map not
  | .Is => if isNon b then some (isNon a) else isB a b
  | .IsNot => if isNon b then some (!isNon a) else none
  | _ => ordO op a b
def truT : T → Option Bool
  | .bl b => some b
  | .non => some false
  | .int i => some (i != 0)
  | .str x => if x.length ≤ szLine then some ((x.length : Int) != 0) else none
  | .tup xs => some (!xs.isEmpty)
  | .lst xs => some (!xs.isEmpty)
  | .scr ns => some (!ns.isEmpty)
  | _ => none

/-! ### the store -/
def allT : List Val → Option (List T)
  | [] => some []
  | .t x :: vs => (allT vs).map (x :: ·)
  | .r _ :: _ => none
def allF : List (Nat × Val) → Option (List (Nat × T))
  | [] => some []
  | (f, .t x) :: vs => (allF vs).map ((f, x) :: ·)
  | (_, .r _) :: _ => none
/-- what can be read of a value, as a tree -/
def peek (S : Store) : Val → Option T
  | .t x => some x
  | .r n => match S[n]? with
    | some (.lst vs) => (allT vs).map .lst
    | _ => none
/-- a value as a tree for good: a cell that is one is dead behind it -/
def toT (S : Store) : Val → Option (T × Store)
  | .t x => some (x, S)
  | .r n => match S[n]? with
    | some (.lst vs) => (allT vs).map fun xs => (.lst xs, S.set n .dead)
    | some (.ins c fs) => (allF fs).map fun xs => (.ins c xs, S.set n .dead)
    | _ => none
/-- several values as trees for good -/
def buryS : List Val → Store → Option (List T × Store)
  | [], S => some ([], S)
  | v :: vs, S => match toT S v with
    | some (x, S1) => (match buryS vs S1 with
      | some (xs, S2) => some (x :: xs, S2)
      | none => none)
    | none => none
/-! keys -/
def keyEq : Key → Key → Bool
  | .inl i, .inl j => i == j
  | .inr x, .inr y => x == y
  | _, _ => false
def lookK {α : Type} : List (Key × α) → Key → Option α
  | [], _ => none
  | p :: r, k => if keyEq p.1 k then some p.2 else lookK r k
def putKV {α : Type} (kvs : List (Key × α)) (k : Key) (v : α) : List (Key × α) :=
  if kvs.any (fun p => keyEq p.1 k) then kvs.map (fun p => if keyEq p.1 k then (p.1, v) else p) else kvs ++ [(k, v)]
def mergeKV {α : Type} (kvs more : List (Key × α)) : List (Key × α) := more.foldl (fun acc p => putKV acc p.1 p.2) kvs
def keyT : T → Option Key
  | .int i => some (.inl i)
  | .str x => some (.inr x)
  | _ => none
def nodupK : List Key → Bool
  | [] => true
  | k :: ks => !ks.any (fun j => keyEq j k) && nodupK ks
/-- a list's items, laid open -/
def listV (S : Store) : Val → Option (List Val)
  | .t (.lst xs) => some (xs.map .t)
  | .t (.scr ns) => some (ns.map fun n => .t (.int n))
  | .r n => match S[n]? with
    | some (.lst vs) => some vs
    | _ => none
  | _ => none
def alloc (m : Bool) (vs : List Val) (S : Store) : R Val :=
  if vs.length ≤ szLine then
    if m then .ok (.r S.length) (S ++ [.lst vs])
    else match allT vs with
      | some xs => .ok (.t (.lst xs)) S
      | none => .bad
  else .bad
def ofO {α : Type} (o : Option α) (S : Store) : R α := match o with
  | some x => .ok x S
  | none => .bad
@[simp] theorem ofO_some {α : Type} (x : α) (S : Store) : ofO (some x) S = .ok x S := rfl
@[simp] theorem ofO_none {α : Type} (S : Store) : ofO (none : Option α) S = .bad := rfl
def ofT (o : Option T) (S : Store) : R Val := match o with
  | some x => .ok (.t x) S
  | none => .bad
@[simp] theorem ofT_some (x : T) (S : Store) : ofT (some x) S = .ok (.t x) S := rfl
@[simp] theorem ofT_none (S : Store) : ofT none S = .bad := rfl
def lstT (S : Store) : Val → Option (List T)
  | .t (.lst xs) => some xs
  | .r n => match S[n]? with
    | some (.lst vs) => allT vs
    | _ => none
  | _ => none
/-- o[lo:hi] = a list that is a tree -/
def setLV (a lo hi v : Val) (S : Store) : Option Store := match a, lo, hi, v with
  | .r n, .t (.int i), .t (.int j), .t (.lst ys) => (match S[n]? with
    | some (.lst xs) => if 0 ≤ i ∧ i ≤ j ∧ j ≤ xs.length ∧ xs.length + ys.length ≤ szLine then some (S.set n (.lst (xs.take i.toNat ++ ys.map .t ++ xs.drop j.toNat))) else none
    | _ => none)
  | _, _, _, _ => none
def needCalm : Blt → Bool
  | .min2 => true
  | .max2 => true
  | .all => true
  | .any => true
  | .sum => true
  | _ => false
def isL : Val → Bool
  | .t (.lst _) => true
  | .r _ => true
  | _ => false
/-- a list's items, laid open, of what is no script -/
def lstV (S : Store) : Val → Option (List Val)
  | .t (.lst xs) => some (xs.map .t)
  | .r n => match S[n]? with
    | some (.lst vs) => some vs
    | _ => none
  | _ => none
def binL (m : Bool) (op : Operator) (a b : Val) (S : Store) : R Val := match lstV S a with
  | none => .bad
  | some xs => (match op with
    | .Add => (match lstV S b with
      | some ys => alloc m (xs ++ ys) S
      | none => .bad)
    | .Mult => (match b with
      | .t (.int k) => if k.natAbs < 9223372036854775808 then alloc m (List.replicate k.toNat xs).flatten S else .bad
      | _ => .bad)
    | _ => .bad)
/-- ints and texts -/
def binA (op : Operator) (a b : Val) (S : Store) : R Val := match a, b with
  | .t x, .t y => ofT (binT op x y) S
  | _, _ => .bad
def catT (op : Operator) (a b : Val) (S : Store) : R Val := match op, a, b with
  | .Add, .t (.tup xs), .t (.tup ys) => if xs.length + ys.length ≤ szLine then .ok (.t (.tup (xs ++ ys))) S else .bad
  | _, _, _ => .bad
def isTu : Val → Bool
  | .t (.tup _) => true
  | _ => false
def binV (op : Operator) (a b : Val) (S : Store) : R Val := if isL a then binL false op a b S else if isTu a then catT op a b S else binA op a b S
def cmpW (op : CmpOp) (a b : Val) (S : Store) : R Val := match peek S a, peek S b with
  | some x, some y => ofT ((cmpT op x y).map .bl) S
  | _, _ => .bad
def cmpV (op : CmpOp) (a b : Val) (S : Store) : R Val := match op, a, b with
  | .Is, .r _, .t .non => .ok (.t (.bl false)) S
  | .IsNot, .r _, .t .non => .ok (.t (.bl true)) S
  | op, a, b => cmpW op a b S
def ix (n : Nat) (i : Int) : Option Nat := if 0 ≤ i then (if i < n then some i.toNat else none) else if -(n : Int) ≤ i then some (i + n).toNat else none
def atL {α : Type} (xs : List α) (i : Int) : Option α := (ix xs.length i).bind fun j => xs[j]?
def subV (a i : Val) (S : Store) : R Val := match a, i with
  | .t (.lst xs), .t (.int k) => ofT (atL xs k) S
  | .t (.tup xs), .t (.int k) => ofT (atL xs k) S
  | .t (.scr ns), .t (.int k) => ofT ((atL ns k).map .int) S
  | .r n, .t (.int k) => (match S[n]? with
    | some (.lst vs) => ofO (atL vs k) S
    | some (.dct kvs) => ofO (lookK kvs (.inl k)) S
    | _ => .bad)
  | .r n, .t (.str x) => (match S[n]? with
    | some (.dct kvs) => ofO (lookK kvs (.inr x)) S
    | _ => .bad)
  | .t (.dct kvs), .t (.int k) => ofT (lookK kvs (.inl k)) S
  | .t (.dct kvs), .t (.str x) => ofT (lookK kvs (.inr x)) S
  | _, _ => .bad
/-- what a dict holds -/
def dctOf (S : Store) : Val → Option (List (Key × Val))
  | .t (.dct kvs) => some (kvs.map fun p => (p.1, .t p.2))
  | .r n => (match S[n]? with
    | some (.dct kvs) => some kvs
    | _ => none)
  | _ => none
def sameR : Val → Val → Bool
  | .r n, .r m => n == m
  | _, _ => false
def dctV (m : Bool) (ks : List Key) (vs : List Val) (S : Store) : R Val :=
  if m then .ok (.r S.length) (S ++ [.dct (ks.zip vs)])
  else match allT vs with
    | some xs => .ok (.t (.dct (ks.zip xs))) S
    | none => .bad
def dctB (a : Val) (S : Store) : Bool := match a with
  | .r n => (match S[n]? with
    | some (.dct _) => true
    | _ => false)
  | _ => false
def updV (a b : Val) (S : Store) : R Val := match a with
  | .r n => (match S[n]? with
    | some (.dct kvs) => if sameR a b then .bad else (match dctOf S b with
      | some more => if kvs.length + more.length < 1000 then .ok (.t .non) (S.set n (.dct (mergeKV kvs more))) else .bad
      | none => .bad)
    | _ => .bad)
  | _ => .bad
def clT (tab : Tab) (d : Nat) : T → Option Bool
  | .ins c _ => (tab.cl c).map fun k => k.sup.contains d
  | .fn _ => none
  | .exn _ _ => none
  | _ => some false
def tyT (tab : Tab) (t : Ty) (x : T) : Option Bool := match t with
  | .cls d => (match tab.cl d with
    | none => none
    | some _ => clT tab d x)
  | t => (match x with
    | .non => some false
    | .bl _ => some (t == .bool || t == .int)
    | .int _ => some (t == .int)
    | .str _ => some (t == .str)
    | .tup _ => some (t == .tuple)
    | .lst _ => some (t == .list)
    | .scr _ => some (t == .list)
    | .dct _ => some (t == .dict)
    | .ins c _ => (tab.cl c).map fun _ => false
    | .fn _ => none
    | .exn _ _ => none)
def anyTy (tab : Tab) (x : T) : List Ty → Option Bool
  | [] => some false
  | t :: ts => match tyT tab t x with
    | some true => some true
    | some false => anyTy tab x ts
    | none => none
/-- a value's outermost form -/
def shell (S : Store) : Val → Option T
  | .t x => some x
  | .r n => match S[n]? with
    | some (.lst _) => some (.lst [])
    | some (.ins c _) => some (.ins c [])
    | some (.dct _) => some (.dct [])
    | _ => none
def isiV (tab : Tab) (ts : List Ty) (a : Val) (S : Store) : R Val := match shell S a with
  | some x => ofT ((anyTy tab x ts).map .bl) S
  | none => .bad
def lenV (a : Val) (S : Store) : R Val := match a with
  | .t (.lst xs) => .ok (.t (.int xs.length)) S
  | .t (.tup xs) => .ok (.t (.int xs.length)) S
  | .t (.scr ns) => .ok (.t (.int ns.length)) S
  | .t (.str x) => if x.length ≤ szLine then .ok (.t (.int x.length)) S else .bad
  | .r n => (match S[n]? with
    | some (.lst vs) => .ok (.t (.int vs.length)) S
    | _ => .bad)
  | _ => .bad
def allB : List Val → Option (List Bool)
  | [] => some []
  | .t (.bl b) :: vs => (allB vs).map (b :: ·)
  | _ :: _ => none
def allI : List Val → Option (List Int)
  | [] => some []
  | .t (.int i) :: vs => (allI vs).map (i :: ·)
  | _ :: _ => none
def cutL {α : Type} (xs : List α) (lo hi : Option Int) : List α := (xs.drop (HT.sIx xs.length 0 lo)).take (HT.sIx xs.length xs.length hi - HT.sIx xs.length 0 lo)
def slcV (m : Bool) (a : Val) (lo hi : Option Int) (S : Store) : R Val := match a, listV S a with
  | .t (.tup xs), _ => .ok (.t (.tup (cutL xs lo hi))) S
  | _, some vs => alloc m (cutL vs lo hi) S
  | _, none => .bad
def revV (m : Bool) (a : Val) (S : Store) : R Val := match listV S a with
  | some vs => alloc m vs.reverse S
  | none => .bad
def isNo : IE → Bool
  | .con .non => true
  | _ => false
def putN (f : Nat) (v : Val) : List (Nat × Val) → List (Nat × Val)
  | [] => [(f, v)]
  | (g, w) :: r => if g = f then (g, v) :: r else (g, w) :: putN f v r
def cellB (a : Val) (S : Store) : Bool := match a with
  | .r n => (match S[n]? with
    | some (.lst _) => true
    | _ => false)
  | .t (.lst _) => true
  | _ => false
def flatT : T → Bool
  | .int _ => true
  | .str _ => true
  | _ => false
def flEq : T → T → Bool
  | .int a, .int b => a == b
  | .str a, .str b => a == b
  | _, _ => false
def flatU : T → Bool
  | .non => true
  | .bl _ => true
  | .int _ => true
  | .str _ => true
  | _ => false
def flU : T → T → Bool
  | .non, .non => true
  | .bl a, .bl b => a == b
  | .bl a, .int b => (if a then 1 else 0) == b
  | .int a, .bl b => a == (if b then 1 else 0)
  | .int a, .int b => a == b
  | .str a, .str b => a == b
  | _, _ => false
/-- the first place of one that is equal: flat things; how many there are -/
def idxT (xs : List T) (y : T) : Option Nat := if xs.all flatU && flatU y then xs.findIdx? fun x => flU x y else none
def cntT (xs : List T) (y : T) : Option Nat := if xs.all flatU && flatU y then some (xs.countP fun x => flU x y) else none
/-- i in range(n) -/
def inRgV (neg : Bool) (a b : Val) (S : Store) : R Val := match a, b with
  | .t (.int i), .t (.int n) => .ok (.t (.bl (if neg then !decide (0 ≤ i ∧ i < n) else decide (0 ≤ i ∧ i < n)))) S
  | _, _ => .bad
/-- a method of a list -/
def bmV (b : BM) (a : Val) (vs : List Val) (S : Store) : R Val := match a with
  | .r n => (match S[n]? with
    | some (.lst ws) => (match b, vs with
      | .append, [v] => if ws.length < szLine then .ok (.t .non) (S.set n (.lst (ws ++ [v]))) else .bad
      | .pop, [] => (match ws[ws.length - 1]? with
        | some v => .ok v (S.set n (.lst ws.dropLast))
        | none => .bad)
      | .popi, [.t (.int i)] => if ws.length ≤ szLine then (match ix ws.length i with
        | some k => (match ws[k]? with
          | some v => .ok v (S.set n (.lst (ws.eraseIdx k)))
          | none => .bad)
        | none => .bad) else .bad
      | _, _ => .bad)
    | _ => .bad)
  | .t (.lst xs) => (match b, vs with
    | .index, [.t y] => (match idxT xs y with
      | some j => .ok (.t (.int (j : Nat))) S
      | none => .bad)
    | .count, [.t y] => (match cntT xs y with
      | some j => .ok (.t (.int (j : Nat))) S
      | none => .bad)
    | _, _ => .bad)
  | _ => .bad
def setSV (a i v : Val) (S : Store) : Option Store := match a, i with
  | .r n, .t (.int k) => (match S[n]? with
    | some (.lst ws) => (ix ws.length k).map fun j => S.set n (.lst (ws.set j v))
    | some (.dct kvs) => if kvs.length < 1000 then some (S.set n (.dct (putKV kvs (.inl k) v))) else none
    | _ => none)
  | .r n, .t (.str x) => (match S[n]? with
    | some (.dct kvs) => if kvs.length < 1000 then some (S.set n (.dct (putKV kvs (.inr x) v))) else none
    | _ => none)
  | _, _ => none
/-- a class's field -/
def fldB (tab : Tab) (c f : Nat) : Bool := match tab.cl c with
  | some k => k.flds.contains f
  | none => false
def setFV (tab : Tab) (a : Val) (f : Nat) (v : Val) (S : Store) : Option Store := match a with
  | .r n => (match S[n]? with
    | some (.ins c fs) => if fldB tab c f && decide (fs.length < 1000) then some (S.set n (.ins c (putN f v fs))) else none
    | _ => none)
  | _ => none
def bltV (b : Blt) (m : Bool) (vs : List Val) (S : Store) : R Val := match b, vs with
  | .len, [a] => lenV a S
  | .int, [.t (.int i)] => .ok (.t (.int i)) S
  | .int, [.t (.bl k)] => .ok (.t (.int (if k then 1 else 0))) S
  | .min2, [.t (.int i), .t (.int j)] => .ok (.t (.int (if j < i then j else i))) S
  | .max2, [.t (.int i), .t (.int j)] => .ok (.t (.int (if j > i then j else i))) S
  | .abs, [.t (.int i)] => .ok (.t (.int (if i < 0 then -i else i))) S
  | .list, [a] => (match a, listV S a with
    | .t (.tup xs), _ => alloc m (xs.map .t) S
    | _, some vs => alloc m vs S
    | _, none => .bad)
  | .tuple, [a] => (match a, listV S a with
    | .t (.tup xs), _ => .ok (.t (.tup xs)) S
    | _, some vs => if vs.length ≤ szLine then ofT ((allT vs).map .tup) S else .bad
    | _, none => .bad)
  | .all, [a] => ofT (((listV S a).bind allB).map fun bs => .bl (bs.all id)) S
  | .any, [a] => ofT (((listV S a).bind allB).map fun bs => .bl (bs.any id)) S
  | .sum, [a] => ofT (((listV S a).bind allI).map fun ns => .int ns.sum) S
  | .sorted, [a] => (match (listV S a).bind allI with
    | some ns => if ns.length < 64 then alloc m ((ns.mergeSort (fun i j => decide (i ≤ j))).map fun i => .t (.int i)) S else .bad
    | none => .bad)
  | .divmod, [.t (.int i), .t (.int j)] => if 0 < j ∧ j.toNat < 1073741824 then .ok (.t (.tup [.int (i / j), .int (i % j)])) S else .bad
  | .bool, [.t (.int i)] => .ok (.t (.bl (i != 0))) S
  | .bool, [.t (.bl k)] => .ok (.t (.bl k)) S
  | _, _ => .bad
/-- the items of what is walked -/
def rng (lo hi : Int) : List Val := (List.range (hi - lo).toNat).map fun (i : Nat) => Val.t (T.int (lo + Int.ofNat i))
def rngOk (i : Int) : Bool := decide (i.natAbs < 4611686018427387904)
/-- a cell that is walked, and what it holds while it is -/
abbrev Wk : Type := Option (Nat × List Val)
def okW (w : Wk) (S : Store) : Prop := match w with
  | none => True
  | some (n, its) => S[n]? = some (.lst its)
noncomputable instance okW.dec (w : Wk) (S : Store) : Decidable (okW w S) := match w with
  | none => .isTrue trivial
  | some p => Classical.propDecidable _
def items (k : ItK) (vs : List Val) (S : Store) : R (List Val × Wk) := match k, vs with
  | .seq, [.t (.lst xs)] => .ok (xs.map .t, none) S
  | .seq, [.t (.tup xs)] => .ok (xs.map .t, none) S
  | .seq, [.t (.scr ns)] => .ok (ns.map fun n => .t (.int n), none) S
  | .seq, [.r n] => (match S[n]? with
    | some (.lst ws) => .ok (ws, some (n, ws)) S
    | _ => .bad)
  | .range, [.t (.int n)] => if rngOk n then .ok (rng 0 n, none) S else .bad
  | .range, [.t (.int a), .t (.int b)] => if rngOk a && rngOk b then .ok (rng a b, none) S else .bad
  | _, _ => .bad
def setMany (env : Env) : List Nat → List Val → Option Env
  | [], [] => some env
  | i :: is, x :: xs => setMany (env.set i (some x)) is xs
  | _, _ => none
/-- a target: one name, or several -/
def target (many : Bool) (tg : List Nat) (v : Val) (env : Env) (S : Store) : Option Env := match many, tg, v with
  | false, [i], v => some (env.set i (some v))
  | true, is, .t (.tup xs) => setMany env is (xs.map .t)
  | true, is, .t (.lst xs) => setMany env is (xs.map .t)
  | true, is, .r n => (match S[n]? with
    | some (.lst vs) => setMany env is vs
    | _ => none)
  | _, _, _ => none

/-- a tuple: cells in it are trees for good -/
@[simp] def tupV (vs : List Val) (S : Store) : R Val := if (allT vs).isSome then ofT ((allT vs).map .tup) S else (match buryS vs S with
  | some (xs, S1) => .ok (.t (.tup xs)) S1
  | none => .bad)
/-- a list that is displayed: a cell, or a tree; cells in it are trees for good -/
@[simp] def dispL (m : Bool) (vs : List Val) (S : Store) : R Val := if m || (allT vs).isSome then alloc m vs S else (if vs.length ≤ szLine then (match buryS vs S with
  | some (xs, S1) => .ok (.t (.lst xs)) S1
  | none => .bad) else .bad)
/-! ### expressions -/
section
variable (tab : Tab) (call : Call)
def wipeE (env : Env) : List Nat → Env
  | [] => env
  | v :: vs => (wipeE env vs).set v none
/-- a comprehension's loop -/
noncomputable def compL (w : Wk) (f : Val → Store → R (Option Val)) : List Val → List Val → Store → R (List Val)
  | [], acc, S => if okW w S then .ok acc S else .bad
  | v :: vs, acc, S => if okW w S then ((f v S).nob fun o S1 => match o with
    | some y => if acc.length < szLine then compL w f vs (acc ++ [y]) S1 else .bad
    | none => compL w f vs acc S1) else .bad
theorem compL_bad {w : Wk} {f : Val → Store → R (Option Val)} {l acc : List Val} {S : Store} (h : ¬ okW w S) : compL w f l acc S = .bad := by
  cases l <;> (unfold compL; exact if_neg h)
theorem compL_nil {w : Wk} {f : Val → Store → R (Option Val)} {acc : List Val} {S : Store} (h : okW w S) : compL w f [] acc S = .ok acc S := by
  unfold compL
  exact if_pos h
theorem compL_cons {w : Wk} {f : Val → Store → R (Option Val)} {v : Val} {vs acc : List Val} {S : Store} (h : okW w S) : compL w f (v :: vs) acc S = (f v S).nob fun o S1 => match o with
    | some y => if acc.length < szLine then compL w f vs (acc ++ [y]) S1 else .bad
    | none => compL w f vs acc S1 := by
  rw [compL]
  exact if_pos h
def fldV (a : Val) (f : Nat) (S : Store) : R Val := match a with
  | .t (.ins c fs) => if fldB tab c f then ofT (fs.lookup f) S else .bad
  | .r n => (match S[n]? with
    | some (.ins c fs) => if fldB tab c f then ofO (fs.lookup f) S else .bad
    | _ => .bad)
  | _ => .bad
/-- an instance's class -/
def insC (a : Val) (S : Store) : Option Nat := match a with
  | .t (.ins c _) => some c
  | .r n => (match S[n]? with
    | some (.ins c _) => some c
    | _ => none)
  | _ => none
/-- a tuple of texts -/
def strsT : List T → Option (List Str)
  | [] => some []
  | .str x :: xs => (strsT xs).map (x :: ·)
  | _ :: _ => none
/-- where a text stands first in a constant -/
def cixV (o : Option T) (a : Val) (S : Store) : R Val := match o, a with
  | some (.tup ts), .t (.str z) => (match strsT ts with
    | some ys => (match ys.findIdx? (fun y => y == z) with
      | some j => .ok (.t (.int (j : Nat))) S
      | none => .bad)
    | none => .bad)
  | _, _ => .bad
def nodupI : List Int → Bool
  | [] => true
  | i :: is => !is.contains i && nodupI is
/-- len(set(..)) of ints that are all other ones -/
def lenSetV (a : Val) (S : Store) : R Val := match listV S a with
  | some vs => (match allI vs with
    | some ns => if nodupI ns && decide (ns.length ≤ 4000) then .ok (.t (.int ns.length)) S else .bad
    | none => .bad)
  | none => .bad
def optI (a : Val) (S : Store) : R (Option Int) := match a with
  | .t (.int i) => .ok (some i) S
  | _ => .bad
def ariV (m : Nat) (g : Option Nat) (S : Store) : R Nat := match g with
  | some g => if arity tab g m then .ok g S else .bad
  | none => .bad
/-- a class's method that a value has -/
def methV (f m : Nat) (a : Val) (S : Store) : R Nat := match a with
  | .t (.ins c fs) => if (fs.lookup f).isNone then ariV tab m ((tab.cl c).bind fun k => k.meths.lookup f) S else .bad
  | .r n => (match S[n]? with
    | some (.ins c fs) => if (fs.lookup f).isNone then ariV tab m ((tab.cl c).bind fun k => k.meths.lookup f) S else .bad
    | _ => .bad)
  | _ => .bad
def finV (frozen : Bool) (n : Nat) (S : Store) : R Val := if frozen then (match toT S (.r n) with
    | some (x, S1) => .ok (.t x) S1
    | none => .bad)
  else .ok (.r n) S
/-- a new instance -/
def newV (c : Nat) (vs : List Val) (S : Store) : R Val := match tab.cl c with
  | none => .bad
  | some k => (match k.init with
    | none => if vs.isEmpty then finV k.frozen S.length (S ++ [.ins c []]) else .bad
    | some f => (call f (.r S.length :: vs) (S ++ [.ins c []])).bind fun v S1 => (match v with
      | .t .non => finV k.frozen S.length S1
      | _ => .bad))
def truV (a : Val) (S : Store) : R Bool := match a with
  | .t x => ofO (truT x) S
  | .r n => (match S[n]? with
    | some (.lst vs) => .ok (!vs.isEmpty) S
    | _ => .bad)
/-- is an exception of class c under one of these; none is ValueError -/
def exAny (c : Nat) : List (Option Nat) → Option Bool
  | [] => some false
  | none :: _ => some true
  | some d :: ts => (match tab.exc c with
    | some l => if (tab.exc d).isSome then (if l.contains d then some true else exAny c ts) else none
    | none => none)
def exIsV (ts : List (Option Nat)) (o : Option (Option Val)) (S : Store) : R Val := match o with
  | some (some (.t (.exn c [])) ) => ofT ((exAny tab c ts).map .bl) S
  | _ => .bad
/-- a def is handed the handled exception -/
def hotV (f : Nat) (o : Option (Option Val)) (S : Store) : R Val := match o with
  | some (some (.t (.exn c [])) ) => (call f [.t (.exn c [])] S).nob fun v S => .ok v S
  | _ => .bad
mutual
noncomputable def dE : IE → Env → Store → R Val
  | .var i, env, S => (match env[i]? with
    | some (some v) => .ok v S
    | _ => .bad)
  | .con t, _, S => .ok (.t t) S
  | .glob g, _, S => ofT (tab.con g) S
  | .bin op a b, env, S => (dE a env S).bind fun x S => (dE b env S).bind fun y S => binV op x y S
  | .binM op a b, env, S => (dE a env S).bind fun x S => (dE b env S).bind fun y S => binL true op x y S
  | .neg a, env, S => (dE a env S).bind fun x S => (match x with
    | .t (.int i) => .ok (.t (.int (-i))) S
    | _ => .bad)
  | .cmp op a b, env, S => (dE a env S).bind fun x S => (dE b env S).bind fun y S => cmpV op x y S
  | .cmp2 o p a b c, env, S => (dE a env S).bind fun x S => (dE b env S).bind fun y S => (cmpV o x y S).bind fun z S => (truV z S).bind fun k S =>
      if k then (dE c env S).bind fun w S => cmpV p y w S else .ok (.t (.bl false)) S
  | .not a, env, S => (dE a env S).bind fun x S => (truV x S).bind fun k S => .ok (.t (.bl (!k))) S
  | .ands es, env, S => dAndE es env S
  | .ors es, env, S => dOrE es env S
  | .ife t a b, env, S => (dB t env S).bind fun k S => if k then dE a env S else dE b env S
  | .tup es, env, S => (dEs es env S).bind fun vs S => if vs.length ≤ szLine then tupV vs S else .bad
  | .lst m es, env, S => (dEs es env S).bind fun vs S => dispL m vs S
  | .sub a i, env, S => (dE a env S).bind fun x S => (dE i env S).bind fun y S => subV x y S
  | .slc m a lo hi, env, S => (dE a env S).bind fun x S => (if isNo lo then .ok none S else (dE lo env S).bind fun y S => optI y S).bind fun l S => (if isNo hi then .ok none S else (dE hi env S).bind fun y S => optI y S).bind fun h S => slcV m x l h S
  | .rev m a, env, S => (dE a env S).bind fun x S => revV m x S
  | .fld o f, env, S => (dE o env S).bind fun x S => fldV tab x f S
  | .new c es, env, S => (dEs es env S).bind fun vs S => newV tab call c vs S
  | .meth o f es, env, S => (dE o env S).bind fun x S => (methV tab f (es.len + 1) x S).bind fun g S => (dEs es env S).bind fun vs S => call g (x :: vs) S
  | .bm b _ o es, env, S => (dE o env S).bind fun x S => if cellB x S then (dEs es env S).bind fun vs S => bmV b x vs S else .bad
  | .call f es, env, S => (dEs es env S).bind fun vs S => call f vs S
  | .cix g e, env, S => (dE e env S).bind fun x S => cixV (tab.con g) x S
  | .inRg neg a b, env, S => (dE a env S).bind fun x S => (dE b env S).bind fun y S => inRgV neg x y S
  | .lenSet e, env, S => (dE e env S).bind fun x S => lenSetV x S
  | .listRg e, env, S => (dE e env S).bind fun x S => (match x with
    | .t (.int n) => if 0 ≤ n ∧ n ≤ 16777216 then alloc false (rng 0 n) S else .bad
    | _ => .bad)
  | .dct0, _, S => .ok (.t (.dct [])) S
  | .dct1 k v, _, S => .ok (.t (.dct [(.inl k, .int v)])) S
  | .dctD m ks es, env, S => (dEs es env S).nob fun vs S => dctV m ks vs S
  | .upd o e, env, S => (dE o env S).bind fun x S => if dctB x S then (dE e env S).bind fun y S => updV x y S else .bad
  | .blt b m es, env, S => (dEs es env S).bind fun vs S => bltV b m vs S
  | .isi e _ ts, env, S => (dE e env S).bind fun x S => isiV tab ts x S
  | .exIs i _ ts, env, S => exIsV tab ts env[i]? S
  | .hot f i, env, S => hotV call f env[i]? S
  | .comp m k src many tg ifs elt, env, S => (dEs src env S).bind fun vs S => (items k vs S).bind fun its S =>
      (compL its.2 (fun v S => match target many tg v (wipeE env tg) S with
        | some env2 => (dAnd ifs env2 S).bind fun k S => if k then (dE elt env2 S).bind fun y S => .ok (some y) S else .ok none S
        | none => .bad) its.1 [] S).bind fun ys S => alloc m ys S
noncomputable def dEs : IEs → Env → Store → R (List Val)
  | .nil, _, S => .ok [] S
  | .cons e es, env, S => (dE e env S).bind fun v S => (dEs es env S).bind fun vs S => .ok (v :: vs) S
/-- and, or as values: truths -/
noncomputable def dAndE : IEs → Env → Store → R Val
  | .nil, _, _ => .bad
  | .cons e .nil, env, S => dE e env S
  | .cons e (.cons f fs), env, S => (dE e env S).bind fun v S => (truV v S).bind fun k S => if k then dAndE (.cons f fs) env S else .ok v S
noncomputable def dOrE : IEs → Env → Store → R Val
  | .nil, _, _ => .bad
  | .cons e .nil, env, S => dE e env S
  | .cons e (.cons f fs), env, S => (dE e env S).bind fun v S => (truV v S).bind fun k S => if k then .ok v S else dOrE (.cons f fs) env S
/-- a test -/
noncomputable def dB : IC → Env → Store → R Bool
  | .val e, env, S => (dE e env S).bind fun v S => truV v S
  | .not a, env, S => (dB a env S).bind fun k S => .ok (!k) S
  | .ands cs, env, S => dAnd cs env S
  | .ors cs, env, S => dOr cs env S
noncomputable def dAnd : ICs → Env → Store → R Bool
  | .nil, _, S => .ok true S
  | .cons c cs, env, S => (dB c env S).bind fun k S => if k then dAnd cs env S else .ok false S
noncomputable def dOr : ICs → Env → Store → R Bool
  | .nil, _, S => .ok false S
  | .cons c cs, env, S => (dB c env S).bind fun k S => if k then .ok true S else dOr cs env S
end

/-! ### statements -/
inductive RS where
  | nx (env : Env) (S : Store) | rt (v : Val) (S : Store) | bk (env : Env) (S : Store) | ct (env : Env) (S : Store)
  | ex (x : Exn) (env : Env) (S : Store) | bad
def R.st {α : Type} (m : R α) (env : Env) (k : α → Store → RS) : RS := match m with
  | .ok a S => k a S
  | .ex x S => .ex x env S
  | .bad => .bad
@[simp] theorem R.st_ok {α : Type} (a : α) (S : Store) (env : Env) (k : α → Store → RS) : (R.ok a S).st env k = k a S := rfl
@[simp] theorem R.st_ex {α : Type} (x : Exn) (S : Store) (env : Env) (k : α → Store → RS) : (R.ex x S : R α).st env k = .ex x env S := rfl
@[simp] theorem R.st_bad {α : Type} (env : Env) (k : α → Store → RS) : (R.bad : R α).st env k = .bad := rfl
def RS.seq (m : RS) (k : Env → Store → RS) : RS := match m with
  | .nx env S => k env S
  | m => m
/-- a for's turns -/
noncomputable def forL (w : Wk) (many : Bool) (tg : List Nat) (body : Env → Store → RS) : List Val → Env → Store → RS
  | [], env, S => if okW w S then .nx env S else .bad
  | v :: vs, env, S => if okW w S then (match target many tg v env S with
    | none => .bad
    | some env1 => match body env1 S with
      | .nx env2 S2 => forL w many tg body vs env2 S2
      | .ct env2 S2 => forL w many tg body vs env2 S2
      | .bk env2 S2 => .nx env2 S2
      | m => m) else .bad
theorem forL_bad {w : Wk} {many : Bool} {tg : List Nat} {body : Env → Store → RS} {l : List Val} {env : Env} {S : Store} (h : ¬ okW w S) : forL w many tg body l env S = .bad := by
  cases l <;> (unfold forL; exact if_neg h)
theorem forL_nil {w : Wk} {many : Bool} {tg : List Nat} {body : Env → Store → RS} {env : Env} {S : Store} (h : okW w S) : forL w many tg body [] env S = .nx env S := by
  unfold forL
  exact if_pos h
theorem forL_cons {w : Wk} {many : Bool} {tg : List Nat} {body : Env → Store → RS} {v : Val} {vs : List Val} {env : Env} {S : Store} (h : okW w S) : forL w many tg body (v :: vs) env S = (match target many tg v env S with
    | none => .bad
    | some env1 => match body env1 S with
      | .nx env2 S2 => forL w many tg body vs env2 S2
      | .ct env2 S2 => forL w many tg body vs env2 S2
      | .bk env2 S2 => .nx env2 S2
      | m => m) := by
  rw [forL]
  exact if_pos h
/-- does an except clause of these classes take it -/
def excIn (tab : Tab) (c : Nat) : List Nat → Option Bool
  | [] => some false
  | d :: ds => (match tab.exc c with
    | some l => if (tab.exc d).isSome then (excIn tab c ds).map fun b => l.contains d || b else none
    | none => none)
/-- behind an except suite with a name -/
def RS.gone (i : Nat) : RS → RS
  | .nx env S => .nx (env.set i none) S
  | .bk env S => .bk (env.set i none) S
  | .ct env S => .ct (env.set i none) S
  | .rt v S => .rt v S
  | .ex _ _ _ => .bad
  | .bad => .bad
def RS.noex : RS → RS
  | .ex _ _ _ => .bad
  | m => m
def whileL (t : Env → Store → R Bool) (body : Env → Store → RS) : Nat → Env → Store → RS
  | 0, _, _ => .bad
  | n + 1, env, S => (t env S).st env fun k S => if k then (match body env S with
      | .nx env2 S2 => whileL t body n env2 S2
      | .ct env2 S2 => whileL t body n env2 S2
      | .bk env2 S2 => .nx env2 S2
      | m => m) else .nx env S
mutual
noncomputable def dS : IS → Env → Store → RS
  | .pass, env, S => .nx env S
  | .expr e, env, S => (dE tab call e env S).st env fun _ S => .nx env S
  | .set i e, env, S => (dE tab call e env S).st env fun v S => .nx (env.set i (some v)) S
  | .setT is e, env, S => (dE tab call e env S).st env fun v S => (match target true is v env S with
    | some env2 => .nx env2 S
    | none => .bad)
  | .setF o f e, env, S => (dE tab call e env S).st env fun v S => (dE tab call o env S).st env fun x S => (match setFV tab x f v S with
    | some S1 => .nx env S1
    | none => .bad)
  | .setS o i e, env, S => (dE tab call e env S).st env fun v S => (dE tab call o env S).st env fun x S => (dE tab call i env S).st env fun y S => (match setSV x y v S with
    | some S1 => .nx env S1
    | none => .bad)
  | .setL o lo hi e, env, S => (dE tab call e env S).st env fun v S => (dE tab call o env S).st env fun x S => (dE tab call lo env S).st env fun y S => (dE tab call hi env S).st env fun z S => (match setLV x y z v S with
    | some S1 => .nx env S1
    | none => .bad)
  | .augF o f op e, env, S => (dE tab call o env S).st env fun x S => (fldV tab x f S).st env fun z S => (dE tab call e env S).st env fun y S3 => (binA op z y S3).st env fun v S3 => if insC x S == insC x S3 then (match setFV tab x f v S3 with
    | some S1 => .nx env S1
    | none => .bad) else .bad
  | .aug i op e, env, S => (match env[i]? with
    | some (some x) => (dE tab call e env S).st env fun y S => (binA op x y S).st env fun z S => .nx (env.set i (some z)) S
    | _ => .bad)
  | .ife t a b, env, S => (dB tab call t env S).st env fun k S => if k then dSs a env S else dSs b env S
  | .for_ k src many tg body, env, S => (dEs tab call src env S).st env fun vs S => (items k vs S).st env fun its S =>
      forL its.2 many tg (fun env S => dSs body env S) its.1 env S
  | .while_ n t body, env, S => whileL (fun env S => dB tab call t env S) (fun env S => dSs body env S) n env S
  | .ret e, env, S => (dE tab call e env S).st env fun v S => .rt v S
  | .retN, _, S => .rt (.t .non) S
  | .raise c _, env, S => if (tab.exc c).isSome && tab.exr c then .ex ⟨c, []⟩ env S else .bad
  | .cont, env, S => .ct env S
  | .brk, env, S => .bk env S
  | .try_ b cs nm su, env, S => (match dSs b env S with
    | .ex x env1 S1 => (match excIn tab x.c cs with
      | some true => if x.fs.isEmpty then (match nm with
        | some i => (dSs su (env1.set i (some (.t (.exn x.c [])))) S1).gone i
        | none => (dSs su env1 S1).noex) else .bad
      | some false => .ex x env1 S1
      | none => .bad)
    | m => m)
noncomputable def dSs : ISs → Env → Store → RS
  | .nil, env, S => .nx env S
  | .cons s ss, env, S => (dS s env S).seq fun env S => dSs ss env S
end

/-- a def's body, run at its arguments -/
noncomputable def runFn (d : Fn) (vs : List Val) (S : Store) : R Val :=
  if vs.length = d.np then
    if d.pure then
      match allT vs with
      | none => .bad
      | some _ => (match dSs tab call d.body (vs.map some ++ List.replicate (d.ns - d.np) none) [] with
        | .nx _ _ => .ok (.t .non) S
        | .rt v S1 => (match toT S1 v with
          | some (x, _) => .ok (.t x) S
          | none => .bad)
        | .ex x _ _ => .ex x S
        | _ => .bad)
    else
      match dSs tab call d.body (vs.map some ++ List.replicate (d.ns - d.np) none) S with
      | .nx _ S1 => .ok (.t .non) S1
      | .rt v S1 => .ok v S1
      | .ex x _ S1 => .ex x S1
      | _ => .bad
  else .bad
end
/-- a def by its number: n calls, one in another, at most -/
noncomputable def callF (tab : Tab) : Nat → Call
  | 0, _, _, _ => .bad
  | n + 1, f, vs, S => match tab.fn f with
    | none => .bad
    | some d => runFn tab (callF tab n) d (vs ++ (d.dfl.drop (d.dfl.length - (d.np - vs.length))).map .t) S
end Rw

/-! What the small language means is what the model does: once, for all defs. -/
namespace Rw
open PySem PySem.Spec PyProof.Rows L2

structure Nm where
  fnN : Nat → Str
  clN : Nat → Str
  coN : Nat → Str
  atN : Nat → Str
  exN : Nat → Str
/-- what stands fast -/
structure Gd where
  prog : Program
  w : World
  K : PySem.W.Frag
  mg : Str → Option Value
  fA : Nat → Addr
  cA : Nat → Addr
  eA : Nat → Addr
  nm : Nm
  tab : Tab
  nAt : Nat
  hs : Option (Nat × Addr × Nat) := none

/-! ### trees and values -/
mutual
inductive Rep (G : Gd) (F : Hp) : V → T → Prop
  | non : Rep G F .non .non
  | bl (b : Bool) : Rep G F (.bl b) (.bl b)
  | int (i : Int) : Rep G F (.int i) (.int i)
  | str (x : Str) : Rep G F (.str x) (.str x)
  | tup {a : Addr} {vs : List V} {xs : List T} (h : SqT G.K F a vs) (r : RepL G F vs xs) : Rep G F (.ref a) (.tup xs)
  | lst {a : Addr} {vs : List V} {xs : List T} (h : F a = some (.lst vs)) (r : RepL G F vs xs) : Rep G F (.ref a) (.lst xs)
  | ins {a dx : Addr} {c : Nat} {gs : List (Str × V)} {fs : List (Nat × T)} (h : F a = some (.ins (G.cA c) dx gs)) (r : RepF G F gs fs) : Rep G F (.ref a) (.ins c fs)
  | dct {a : Addr} {gs : List (Key × V)} {fs : List (Key × T)} (h : F a = some (.dK gs)) (r : RepD G F gs fs) : Rep G F (.ref a) (.dct fs)
  | fn (g : Nat) : Rep G F (.ref (G.fA g)) (.fn g)
  | scr {a : Addr} {ns : List Int} (h : SqL G.K F a (ns.map V.int)) : Rep G F (.ref a) (.scr ns)
inductive RepL (G : Gd) (F : Hp) : List V → List T → Prop
  | nil : RepL G F [] []
  | cons {v : V} {x : T} {vs : List V} {xs : List T} (h : Rep G F v x) (r : RepL G F vs xs) : RepL G F (v :: vs) (x :: xs)
inductive RepF (G : Gd) (F : Hp) : List (Str × V) → List (Nat × T) → Prop
  | nil : RepF G F [] []
  | cons {v : V} {f : Nat} {x : T} {vs : List (Str × V)} {xs : List (Nat × T)} (hf : f < G.nAt) (h : Rep G F v x) (r : RepF G F vs xs) : RepF G F ((G.nm.atN f, v) :: vs) ((f, x) :: xs)
inductive RepD (G : Gd) (F : Hp) : List (Key × V) → List (Key × T) → Prop
  | nil : RepD G F [] []
  | cons {v : V} {k : Key} {x : T} {vs : List (Key × V)} {xs : List (Key × T)} (h : Rep G F v x) (r : RepD G F vs xs) : RepD G F ((k, v) :: vs) ((k, x) :: xs)
end
theorem sameT {K : PySem.W.Frag} {F F' : Hp} {a : Addr} {vs : List V} (s : Same F F') (h : SqT K F a vs) : SqT K F' a vs := by
  rcases h with (h | ⟨o, h⟩) | h
  · exact .inl (.inl (s _ _ h))
  · exact .inl (.inr ⟨o, s _ _ h⟩)
  · exact .inr h
section
variable {G : Gd} {F F' : Hp}
mutual
theorem Rep.mono (s : Same F F') : ∀ (x : T) (v : V), Rep G F v x → Rep G F' v x
  | .non, _, h => by cases h; exact .non
  | .bl _, _, h => by cases h; exact .bl _
  | .int _, _, h => by cases h; exact .int _
  | .str _, _, h => by cases h; exact .str _
  | .tup xs, _, h => by
    cases h with
    | tup h r => exact .tup (sameT s h) (RepL.mono s xs _ r)
  | .lst xs, _, h => by
    cases h with
    | lst h r => exact .lst (s _ _ h) (RepL.mono s xs _ r)
  | .ins c fs, _, h => by
    cases h with
    | ins h r => exact .ins (s _ _ h) (RepF.mono s fs _ r)
  | .dct fs, _, h => by
    cases h with
    | dct h r => exact .dct (s _ _ h) (RepD.mono s fs _ r)
  | .fn g, _, h => by cases h; exact .fn g
  | .scr ns, _, h => by
    cases h with
    | scr h => exact .scr (s.seq h)
  | .exn _ _, _, h => by cases h
theorem RepL.mono (s : Same F F') : ∀ (xs : List T) (vs : List V), RepL G F vs xs → RepL G F' vs xs
  | [], _, h => by cases h; exact .nil
  | x :: xs, _, h => by
    cases h with
    | cons h r => exact .cons (Rep.mono s x _ h) (RepL.mono s xs _ r)
theorem RepF.mono (s : Same F F') : ∀ (xs : List (Nat × T)) (vs : List (Str × V)), RepF G F vs xs → RepF G F' vs xs
  | [], _, h => by cases h; exact .nil
  | (f, x) :: xs, _, h => by
    cases h with
    | cons hf h r => exact .cons hf (Rep.mono s x _ h) (RepF.mono s xs _ r)
theorem RepD.mono (s : Same F F') : ∀ (xs : List (Key × T)) (vs : List (Key × V)), RepD G F vs xs → RepD G F' vs xs
  | [], _, h => by cases h; exact .nil
  | (k, x) :: xs, _, h => by
    cases h with
    | cons h r => exact .cons (Rep.mono s x _ h) (RepD.mono s xs _ r)
end
/-- the ground, another exception handled -/
def Gd.hd (G : Gd) (h : Option (Nat × Addr × Nat)) : Gd := { G with hs := h }
mutual
theorem Rep.hd {h : Option (Nat × Addr × Nat)} : ∀ (x : T) (v : V), Rep G F v x → Rep (G.hd h) F v x
  | .non, _, h => by cases h; exact .non
  | .bl _, _, h => by cases h; exact .bl _
  | .int _, _, h => by cases h; exact .int _
  | .str _, _, h => by cases h; exact .str _
  | .tup xs, _, h => by
    cases h with
    | tup h r => exact .tup (G := G.hd _) h (RepL.hd xs _ r)
  | .lst xs, _, h => by
    cases h with
    | lst h r => exact .lst h (RepL.hd xs _ r)
  | .ins c fs, _, h => by
    cases h with
    | ins h r => exact .ins (G := G.hd _) h (RepF.hd fs _ r)
  | .dct fs, _, h => by
    cases h with
    | dct h r => exact .dct h (RepD.hd fs _ r)
  | .fn g, _, h => by cases h; exact .fn (G := G.hd _) g
  | .scr ns, _, h => by
    cases h with
    | scr h => exact .scr (G := G.hd _) h
  | .exn _ _, _, h => by cases h
theorem RepL.hd {h : Option (Nat × Addr × Nat)} : ∀ (xs : List T) (vs : List V), RepL G F vs xs → RepL (G.hd h) F vs xs
  | [], _, h => by cases h; exact .nil
  | x :: xs, _, h => by
    cases h with
    | cons h r => exact .cons (Rep.hd x _ h) (RepL.hd xs _ r)
theorem RepF.hd {h : Option (Nat × Addr × Nat)} : ∀ (xs : List (Nat × T)) (vs : List (Str × V)), RepF G F vs xs → RepF (G.hd h) F vs xs
  | [], _, h => by cases h; exact .nil
  | (f, x) :: xs, _, h => by
    cases h with
    | cons hf h r => exact .cons (G := G.hd _) hf (Rep.hd x _ h) (RepF.hd xs _ r)
theorem RepD.hd {h : Option (Nat × Addr × Nat)} : ∀ (xs : List (Key × T)) (vs : List (Key × V)), RepD G F vs xs → RepD (G.hd h) F vs xs
  | [], _, h => by cases h; exact .nil
  | (k, x) :: xs, _, h => by
    cases h with
    | cons h r => exact .cons (Rep.hd x _ h) (RepD.hd xs _ r)
end
theorem RepL.length : ∀ {xs : List T} {vs : List V}, RepL G F vs xs → vs.length = xs.length
  | [], _, h => by cases h; rfl
  | x :: xs, _, h => by
    cases h with
    | cons h r => exact congrArg Nat.succ r.length
theorem RepL.get : ∀ {xs : List T} {vs : List V} {i : Nat} {x : T}, RepL G F vs xs → xs[i]? = some x → ∃ v, vs[i]? = some v ∧ Rep G F v x
  | [], _, _, _, h, e => by simp at e
  | y :: xs, _, 0, x, h, e => by
    cases h with
    | cons h r =>
      simp at e
      subst e
      exact ⟨_, rfl, h⟩
  | y :: xs, _, i + 1, x, h, e => by
    cases h with
    | cons h r =>
      obtain ⟨v, h1, h2⟩ := RepL.get (i := i) r (by simpa using e)
      exact ⟨v, by simpa using h1, h2⟩
mutual
theorem Rep.dp : ∀ (x : T) (v : V) (d : PyData), Rep G F v x → x.py = some d → Dp G.K F v d
  | .non, _, _, h, e => by cases h; cases e; exact .non
  | .bl _, _, _, h, e => by cases h; cases e; exact .bl _
  | .int _, _, _, h, e => by cases h; cases e; exact .int _
  | .str _, _, _, h, e => by cases h; cases e; exact .str _
  | .tup xs, _, _, h, e => by
    cases h with
    | tup h r =>
      have e1 : (T.pys xs).map PyData.tuple = some _ := e
      obtain ⟨ds, e2, e3⟩ := Option.map_eq_some_iff.mp e1
      subst e3
      exact .tup h (RepL.dp xs _ ds r e2)
  | .lst xs, _, _, h, e => by
    cases h with
    | lst h r =>
      have e1 : (T.pys xs).map PyData.list = some _ := e
      obtain ⟨ds, e2, e3⟩ := Option.map_eq_some_iff.mp e1
      subst e3
      exact .lst (.inl (.inl h)) (RepL.dp xs _ ds r e2)
  | .ins c fs, _, _, h, e => by cases e
  | .dct fs, _, _, h, e => by cases e
  | .fn g, _, _, h, e => by cases e
  | .exn _ _, _, _, h, e => by cases e
  | .scr ns, _, _, h, e => by
    cases h with
    | scr h =>
      cases e
      refine .lst h ?_
      have all : ∀ ms : List Int, DpAll G.K F (ms.map V.int) (ms.map PyData.int) := fun ms => by
        induction ms with
        | nil => exact .nil
        | cons m ms ih => exact .cons (.int m) ih
      exact all ns
theorem RepL.dp : ∀ (xs : List T) (vs : List V) (ds : List PyData), RepL G F vs xs → T.pys xs = some ds → DpAll G.K F vs ds
  | [], _, _, h, e => by cases h; cases e; exact .nil
  | x :: xs, _, ds, h, e => by
    cases h with
    | cons h r =>
      have e1 : (match T.py x with
        | some d => (T.pys xs).map (d :: ·)
        | none => none) = some ds := e
      cases q : T.py x with
      | none => rw [q] at e1; cases e1
      | some d =>
        rw [q] at e1
        obtain ⟨es, e2, e3⟩ := Option.map_eq_some_iff.mp e1
        subst e3
        exact .cons (Rep.dp x _ d h q) (RepL.dp xs _ es r e2)
end
mutual
theorem py_plain : ∀ (x : T) (d : PyData), x.py = some d → d.plain = true
  | .non, _, e => by cases e; rfl
  | .bl _, _, e => by cases e; rfl
  | .int _, _, e => by cases e; rfl
  | .str _, _, e => by cases e; rfl
  | .tup xs, _, e => by
    have e1 : (T.pys xs).map PyData.tuple = some _ := e
    obtain ⟨ds, e2, e3⟩ := Option.map_eq_some_iff.mp e1
    subst e3
    exact pys_plain xs ds e2
  | .lst xs, _, e => by
    have e1 : (T.pys xs).map PyData.list = some _ := e
    obtain ⟨ds, e2, e3⟩ := Option.map_eq_some_iff.mp e1
    subst e3
    exact pys_plain xs ds e2
  | .ins c fs, _, e => by cases e
  | .dct fs, _, e => by cases e
  | .fn g, _, e => by cases e
  | .exn _ _, _, e => by cases e
  | .scr ns, _, e => by
    cases e
    show PyData.plainAll (ns.map PyData.int) = true
    induction ns with
    | nil => rfl
    | cons m ms ih =>
      show (PyData.plain (.int m) && PyData.plainAll (ms.map PyData.int)) = true
      rw [ih]
      rfl
theorem pys_plain : ∀ (xs : List T) (ds : List PyData), T.pys xs = some ds → PyData.plainAll ds = true
  | [], _, e => by cases e; rfl
  | x :: xs, ds, e => by
    have e1 : (match T.py x with
      | some d => (T.pys xs).map (d :: ·)
      | none => none) = some ds := e
    cases q : T.py x with
    | none => rw [q] at e1; cases e1
    | some d =>
      rw [q] at e1
      obtain ⟨es, e2, e3⟩ := Option.map_eq_some_iff.mp e1
      subst e3
      show (PyData.plain d && PyData.plainAll es) = true
      rw [py_plain x d q, pys_plain xs es e2]
      rfl
end
end

/-- a world: what never changes again (F), what must stay (B), where the cells stand -/
structure Wd where
  F : Hp
  B : Hp
  n : Nat
  at_ : Nat → Addr
structure Wd.le (W W' : Wd) : Prop where
  f : Same W.F W'.F
  new : ∀ a o, W'.F a = some o → W.F a = some o ∨ W.B a = none
  b : W'.B = W.B
  n : W.n ≤ W'.n
  at_ : ∀ k, k < W.n → W'.at_ k = W.at_ k
theorem Wd.le.refl (W : Wd) : W.le W := ⟨Same.refl _, fun _ _ h => .inl h, rfl, Nat.le_refl _, fun _ _ => rfl⟩
theorem Wd.le.trans {W W1 W2 : Wd} (a : W.le W1) (b : W1.le W2) : W.le W2 where
  f := a.f.trans b.f
  new := fun x o h => by
    rcases b.new x o h with q | q
    · exact a.new x o q
    · exact .inr (by rw [a.b] at q; exact q)
  b := b.b.trans a.b
  n := Nat.le_trans a.n b.n
  at_ := fun k hk => (b.at_ k (Nat.lt_of_lt_of_le hk a.n)).trans (a.at_ k hk)

def RepV (G : Gd) (W : Wd) (v : V) : Val → Prop
  | .t x => Rep G W.F v x
  | .r n => n < W.n ∧ v = .ref (W.at_ n)
inductive CellOk (G : Gd) (W : Wd) : HO → Cell → Prop
  | lst {vs : List V} {ws : List Val} (h : Paired (RepV G W) vs ws) : CellOk G W (.lst vs) (.lst ws)
  | ins {dx : Addr} {c : Nat} {gs : List (Str × V)} {fs : List (Nat × Val)} (h : Paired (fun p q => q.1 < G.nAt ∧ p.1 = G.nm.atN q.1 ∧ RepV G W p.2 q.2) gs fs) : CellOk G W (.ins (G.cA c) dx gs) (.ins c fs)
  | dct {gs : List (Key × V)} {fs : List (Key × Val)} (h : Paired (fun p q => p.1 = q.1 ∧ RepV G W p.2 q.2) gs fs) : CellOk G W (.dK gs) (.dct fs)
structure Sim (G : Gd) (W : Wd) (S : Store) (H : Hp) : Prop where
  fz : Same W.F H
  len : S.length = W.n
  live : ∀ (k : Nat) (c : Cell), S[k]? = some c → c ≠ .dead → W.F (W.at_ k) = none ∧ W.B (W.at_ k) = none ∧ ∃ o, H (W.at_ k) = some o ∧ CellOk G W o c
  inj : ∀ (j k : Nat) (c d : Cell), S[j]? = some c → S[k]? = some d → c ≠ .dead → d ≠ .dead → W.at_ j = W.at_ k → j = k
  fr : Same W.B H
/-- a name's value; the handled exception stands under its own name alone -/
def RepE (G : Gd) (W : Wd) (i : Nat) (x : V) (v : Val) : Prop := RepV G W x v ∨ ∃ a c, G.hs = some (i, a, c) ∧ v = .t (.exn c []) ∧ x = .ref a
def EnvRep (G : Gd) (W : Wd) (σ : L2.St) (env : Env) : Prop :=
  σ.length = env.length ∧ ∀ (i : Nat) (v : Val), env[i]? = some (some v) → ∃ x, σ[i]? = some (some x) ∧ RepE G W i x v
structure ExRep (G : Gd) (H : Hp) (cls : Value) (od : Option Addr) (x : Exn) : Prop where
  c : cls = .ref (G.eA x.c)
  f : (x.fs = [] ∧ od = none) ∨ (x.fs ≠ [] ∧ ∃ d gs, od = some d ∧ H d = some (.xd gs) ∧ RepF G H gs x.fs)
section
variable {G : Gd} {W W' : Wd} {S : Store} {H : Hp} {σ : L2.St} {env : Env}
theorem RepV.mono (l : W.le W') {v : V} : ∀ {a : Val}, RepV G W v a → RepV G W' v a
  | .t x, h => Rep.mono l.f x v h
  | .r n, h => ⟨Nat.lt_of_lt_of_le h.1 l.n, by rw [l.at_ n h.1]; exact h.2⟩
theorem RepVs.mono (l : W.le W') {vs : List V} {ws : List Val} (h : Paired (RepV G W) vs ws) : Paired (RepV G W') vs ws := Paired.mono (fun _ _ r => r.mono l) h
theorem CellOk.mono (l : W.le W') {o : HO} {c : Cell} (h : CellOk G W o c) : CellOk G W' o c := by
  cases h with
  | lst h => exact .lst (RepVs.mono l h)
  | ins h => exact .ins (Paired.mono (fun _ _ r => ⟨r.1, r.2.1, r.2.2.mono l⟩) h)
  | dct h => exact .dct (Paired.mono (fun _ _ r => ⟨r.1, r.2.mono l⟩) h)
theorem RepE.mono (l : W.le W') {i : Nat} {x : V} {v : Val} (h : RepE G W i x v) : RepE G W' i x v := h.imp (fun r => r.mono l) id
theorem EnvRep.mono (l : W.le W') (h : EnvRep G W σ env) : EnvRep G W' σ env := ⟨h.1, fun i v e => by
  obtain ⟨x, e1, r⟩ := h.2 i v e
  exact ⟨x, e1, r.mono l⟩⟩
theorem EnvRep.set (h : EnvRep G W σ env) {x : V} {v : Val} (r0 : RepV G W x v) (i : Nat) : EnvRep G W (σ.set i (some x)) (env.set i (some v)) := by
  have r : RepE G W i x v := .inl r0
  refine ⟨by rw [List.length_set, List.length_set]; exact h.1, fun j w e => ?_⟩
  by_cases q : i = j
  · subst q
    by_cases hl : i < env.length
    · rw [List.getElem?_set_self hl] at e
      cases e
      exact ⟨x, List.getElem?_set_self (by rw [h.1]; exact hl), r⟩
    · rw [List.getElem?_eq_none (by rw [List.length_set]; omega)] at e
      cases e
  · rw [List.getElem?_set_ne q] at e
    rw [List.getElem?_set_ne q]
    exact h.2 j w e
theorem RepV.hd {h : Option (Nat × Addr × Nat)} {x : V} : ∀ {a : Val}, RepV G W x a → RepV (G.hd h) W x a
  | .t t, r => Rep.hd t x r
  | .r _, r => r
theorem CellOk.hd {h : Option (Nat × Addr × Nat)} {o : HO} {c : Cell} (k : CellOk G W o c) : CellOk (G.hd h) W o c := by
  cases k with
  | lst k => exact .lst (Paired.mono (fun _ _ r => r.hd) k)
  | ins k => exact .ins (G := G.hd h) (Paired.mono (fun _ _ r => ⟨r.1, r.2.1, r.2.2.hd⟩) k)
  | dct k => exact .dct (Paired.mono (fun _ _ r => ⟨r.1, r.2.hd⟩) k)
theorem Sim.hd {h : Option (Nat × Addr × Nat)} (s : Sim G W S H) : Sim (G.hd h) W S H := ⟨s.fz, s.len, fun k c e d => by
  obtain ⟨h1, h2, o, h3, h4⟩ := s.live k c e d
  exact ⟨h1, h2, o, h3, h4.hd⟩, s.inj, s.fr⟩
/-- a name is the handled exception's -/
theorem EnvRep.held (h : EnvRep G W σ env) (hn : G.hs = none) (i : Nat) (a : Addr) (c : Nat) : EnvRep (G.hd (some (i, a, c))) W (σ.set i (some (.ref a))) (env.set i (some (.t (.exn c [])))) := by
  refine ⟨by rw [List.length_set, List.length_set]; exact h.1, fun j w e => ?_⟩
  by_cases q : i = j
  · subst q
    by_cases hl : i < env.length
    · rw [List.getElem?_set_self hl] at e
      cases e
      exact ⟨.ref a, List.getElem?_set_self (by rw [h.1]; exact hl), .inr ⟨a, c, rfl, rfl, rfl⟩⟩
    · rw [List.getElem?_eq_none (by rw [List.length_set]; omega)] at e
      cases e
  · rw [List.getElem?_set_ne q] at e
    rw [List.getElem?_set_ne q]
    obtain ⟨x, e1, r⟩ := h.2 j w e
    refine ⟨x, e1, ?_⟩
    rcases r with r | ⟨a', c', z, _⟩
    · exact .inl r.hd
    · rw [hn] at z; cases z
/-- .. and gone -/
theorem EnvRep.gone {i : Nat} {a : Addr} {c : Nat} (h : EnvRep (G.hd (some (i, a, c))) W σ env) : EnvRep (G.hd none) W (σ.set i none) (env.set i none) := by
  refine ⟨by rw [List.length_set, List.length_set]; exact h.1, fun j w e => ?_⟩
  by_cases q : i = j
  · subst q
    by_cases hl : i < env.length
    · rw [List.getElem?_set_self hl] at e
      cases e
    · rw [List.getElem?_eq_none (by rw [List.length_set]; omega)] at e
      cases e
  · rw [List.getElem?_set_ne q] at e
    rw [List.getElem?_set_ne q]
    obtain ⟨x, e1, r⟩ := h.2 j w e
    refine ⟨x, e1, ?_⟩
    rcases r with r | ⟨a', c', z, _⟩
    · exact .inl (RepV.hd (G := G.hd (some (i, a, c))) (h := none) r)
    · have z : some (i, a, c) = some (j, a', c') := z
      cases z
      exact absurd rfl q
theorem EnvRep.wipe (h : EnvRep G W σ env) : ∀ vs : List Nat, EnvRep G W (L2.wipe σ vs) (wipeE env vs)
  | [] => h
  | v :: vs => by
    have q := EnvRep.wipe h vs
    refine ⟨by rw [L2.wipe, wipeE, List.length_set, List.length_set]; exact q.1, fun j w e => ?_⟩
    rw [wipeE] at e
    rw [L2.wipe]
    by_cases z : v = j
    · subst z
      by_cases hl : v < (wipeE env vs).length
      · rw [List.getElem?_set_self hl] at e
        cases e
      · rw [List.getElem?_eq_none (by rw [List.length_set]; omega)] at e
        cases e
    · rw [List.getElem?_set_ne z] at e
      rw [List.getElem?_set_ne z]
      exact q.2 j w e
/-- a world with one tree node more -/
def Wd.addF (W : Wd) (p : Addr) (o : HO) : Wd := { W with F := upd W.F p o }
theorem same_upd {F : Hp} {p : Addr} {o : HO} (h : F p = none) : Same F (upd F p o) := fun a u e => by
  rw [upd_ne (ne_of_none e h)]
  exact e
theorem Sim.free (s : Sim G W S H) {p : Addr} (hp : H p = none) : W.F p = none ∧ W.B p = none := ⟨s.fz.free hp, s.fr.free hp⟩
theorem Wd.le_addF (s : Sim G W S H) {p : Addr} (hp : H p = none) (o : HO) : W.le (W.addF p o) where
  f := same_upd (s.free hp).1
  new := fun a u e => by
    by_cases q : a = p
    · exact .inr (by rw [q]; exact (s.free hp).2)
    · exact .inl (by have e' : upd W.F p o a = some u := e; rw [upd_ne q] at e'; exact e')
  b := rfl
  n := Nat.le_refl _
  at_ := fun _ _ => rfl
theorem Sim.addF (s : Sim G W S H) {p : Addr} (hp : H p = none) (o : HO) : Sim G (W.addF p o) S (upd H p o) where
  fz := fun a u e => by
    by_cases q : a = p
    · subst q
      have e' : upd W.F a o a = some u := e
      rw [upd_same] at e' ⊢
      exact e'
    · have e' : upd W.F p o a = some u := e
      rw [upd_ne q] at e'
      rw [upd_ne q]
      exact s.fz a u e'
  len := s.len
  live := fun k c e d => by
    obtain ⟨h1, h2, u, h3, h4⟩ := s.live k c e d
    have q : W.at_ k ≠ p := ne_of_none h3 hp
    refine ⟨by show upd W.F p o (W.at_ k) = none; rw [upd_ne q]; exact h1, h2, u, by rw [show (W.addF p o).at_ k = W.at_ k from rfl, upd_ne q]; exact h3, h4.mono (Wd.le_addF s hp o)⟩
  inj := s.inj
  fr := fun a u e => by
    rw [upd_ne (ne_of_none (s.fr a u e) hp)]
    exact s.fr a u e
/-- .. with one cell more -/
def Wd.addC (W : Wd) (p : Addr) : Wd := { W with n := W.n + 1, at_ := fun k => if k = W.n then p else W.at_ k }
theorem Wd.le_addC (W : Wd) (p : Addr) : W.le (W.addC p) where
  f := Same.refl _
  new := fun _ _ h => .inl h
  b := rfl
  n := Nat.le_succ _
  at_ := fun k hk => if_neg (Nat.ne_of_lt hk)
theorem Sim.addC (s : Sim G W S H) {p : Addr} {o : HO} {c : Cell} (hp : H p = none) (ok : CellOk G W o c) : Sim G (W.addC p) (S ++ [c]) (upd H p o) := by
  have old : ∀ k, k < S.length → (W.addC p).at_ k = W.at_ k := fun k hk => if_neg (by rw [← s.len]; omega)
  have new : (W.addC p).at_ S.length = p := if_pos s.len
  refine ⟨fun a u e => ?_, by rw [List.length_append, s.len]; rfl, fun k d e nd => ?_, fun j k d1 d2 e1 e2 n1 n2 q => ?_, fun a u e => ?_⟩
  · rw [upd_ne (ne_of_none (s.fz a u e) hp)]
    exact s.fz a u e
  · by_cases hk : k < S.length
    · rw [List.getElem?_append_left hk] at e
      obtain ⟨h1, h2, u, h3, h4⟩ := s.live k d e nd
      rw [old k hk]
      exact ⟨h1, h2, u, by rw [upd_ne (ne_of_none h3 hp)]; exact h3, h4.mono (Wd.le_addC W p)⟩
    · rw [List.getElem?_append_right (by omega)] at e
      have hk0 : k = S.length := by
        cases z : k - S.length with
        | zero => omega
        | succ m => rw [z] at e; simp at e
      subst hk0
      simp at e
      subst e
      rw [new]
      exact ⟨(s.free hp).1, (s.free hp).2, o, upd_same, ok.mono (Wd.le_addC W p)⟩
  · have lt : ∀ (j : Nat) (d : Cell), (S ++ [c])[j]? = some d → j < S.length ∨ j = S.length := fun j d e => by
      have := (List.getElem?_eq_some_iff.mp e).1
      rw [List.length_append] at this
      simp at this
      omega
    rcases lt j d1 e1 with hj | hj <;> rcases lt k d2 e2 with hk | hk
    · rw [old j hj, old k hk] at q
      rw [List.getElem?_append_left hj] at e1
      rw [List.getElem?_append_left hk] at e2
      exact s.inj j k d1 d2 e1 e2 n1 n2 q
    · rw [List.getElem?_append_left hj] at e1
      obtain ⟨_, _, u, h3, _⟩ := s.live j d1 e1 n1
      rw [hk, old j hj, new] at q
      rw [q, hp] at h3
      cases h3
    · rw [List.getElem?_append_left hk] at e2
      obtain ⟨_, _, u, h3, _⟩ := s.live k d2 e2 n2
      rw [hj, old k hk, new] at q
      rw [← q, hp] at h3
      cases h3
    · omega
  · rw [upd_ne (ne_of_none (s.fr a u e) hp)]
    exact s.fr a u e
/-- a cell is written -/
theorem Sim.setC (s : Sim G W S H) {n : Nat} {c c' : Cell} {o : HO} (hn : S[n]? = some c) (hd : c ≠ .dead) (ok : CellOk G W o c') : Sim G W (S.set n c') (upd H (W.at_ n) o) := by
  obtain ⟨l1, l2, _⟩ := s.live n c hn hd
  have hlt := (List.getElem?_eq_some_iff.mp hn).1
  have old : ∀ k d, (S.set n c')[k]? = some d → d ≠ Cell.dead → ∃ e, S[k]? = some e ∧ e ≠ Cell.dead := fun k d e nd => by
    by_cases z : n = k
    · subst z
      exact ⟨c, hn, hd⟩
    · rw [List.getElem?_set_ne z] at e
      exact ⟨d, e, nd⟩
  refine ⟨fun a u e => ?_, by rw [List.length_set]; exact s.len, fun k d e nd => ?_, fun j k d1 d2 e1 e2 n1 n2 q => ?_, fun a u e => ?_⟩
  · rw [upd_ne (ne_of_none e l1)]
    exact s.fz a u e
  · by_cases z : n = k
    · subst z
      rw [List.getElem?_set_self hlt] at e
      cases e
      exact ⟨l1, l2, o, upd_same, ok⟩
    · rw [List.getElem?_set_ne z] at e
      obtain ⟨h1, h2, u, h3, h4⟩ := s.live k d e nd
      exact ⟨h1, h2, u, by rw [upd_ne (fun q => z (s.inj k n d c e hn nd hd q).symm)]; exact h3, h4⟩
  · obtain ⟨x1, y1, z1⟩ := old j d1 e1 n1
    obtain ⟨x2, y2, z2⟩ := old k d2 e2 n2
    exact s.inj j k x1 x2 y1 y2 z1 z2 q
  · rw [upd_ne (ne_of_none e l2)]
    exact s.fr a u e
/-- something new that is nobody's -/
theorem Sim.upd_new (s : Sim G W S H) {p : Addr} (hp : H p = none) (o : HO) : Sim G W S (upd H p o) := by
  refine ⟨fun a u e => ?_, s.len, fun k d e nd => ?_, s.inj, fun a u e => ?_⟩
  · rw [upd_ne (ne_of_none (s.fz a u e) hp)]
    exact s.fz a u e
  · obtain ⟨h1, h2, u, h3, h4⟩ := s.live k d e nd
    exact ⟨h1, h2, u, by rw [upd_ne (ne_of_none h3 hp)]; exact h3, h4⟩
  · rw [upd_ne (ne_of_none (s.fr a u e) hp)]
    exact s.fr a u e
/-- a place that is nobody's -/
structure Out (W : Wd) (S : Store) (p : Addr) : Prop where
  f : W.F p = none
  b : W.B p = none
  c : ∀ k c, S[k]? = some c → c ≠ .dead → W.at_ k ≠ p
theorem Sim.out (s : Sim G W S H) {p : Addr} (hp : H p = none) : Out W S p := ⟨(s.free hp).1, (s.free hp).2, fun k c e d z => by
  obtain ⟨_, _, u, h3, _⟩ := s.live k c e d
  rw [z, hp] at h3
  cases h3⟩
theorem Sim.upd_out (s : Sim G W S H) {p : Addr} (hp : Out W S p) (o : HO) : Sim G W S (upd H p o) := by
  refine ⟨fun a u e => ?_, s.len, fun k d e nd => ?_, s.inj, fun a u e => ?_⟩
  · rw [upd_ne (ne_of_none e hp.f)]
    exact s.fz a u e
  · obtain ⟨h1, h2, u, h3, h4⟩ := s.live k d e nd
    exact ⟨h1, h2, u, by rw [upd_ne (hp.c k d e nd)]; exact h3, h4⟩
  · rw [upd_ne (ne_of_none e hp.b)]
    exact s.fr a u e
/-- .. that becomes a tree's node -/
theorem le_seizeF {p : Addr} (f : W.F p = none) (b : W.B p = none) (o : HO) : W.le (W.addF p o) where
  f := same_upd f
  new := fun a u e => by
    by_cases q : a = p
    · exact .inr (by rw [q]; exact b)
    · exact .inl (by have e' : upd W.F p o a = some u := e; rw [upd_ne q] at e'; exact e')
  b := rfl
  n := Nat.le_refl _
  at_ := fun _ _ => rfl
theorem Sim.seizeF (s : Sim G W S H) {p : Addr} {o : HO} (hp : Out W S p) (h : H p = some o) : Sim G (W.addF p o) S H where
  fz := fun a u e => by
    by_cases q : a = p
    · subst q
      have e' : upd W.F a o a = some u := e
      rw [upd_same] at e'
      rw [h, e']
    · have e' : upd W.F p o a = some u := e
      rw [upd_ne q] at e'
      exact s.fz a u e'
  len := s.len
  live := fun k c e d => by
    obtain ⟨h1, h2, u, h3, h4⟩ := s.live k c e d
    refine ⟨?_, h2, u, h3, h4.mono (le_seizeF hp.f hp.b o)⟩
    show upd W.F p o (W.at_ k) = none
    rw [upd_ne (hp.c k c e d)]
    exact h1
  inj := s.inj
  fr := s.fr
/-- .. that becomes a cell -/
theorem Sim.seizeC (s : Sim G W S H) {p : Addr} {o : HO} {c : Cell} (hp : Out W S p) (h : H p = some o) (ok : CellOk G W o c) : Sim G (W.addC p) (S ++ [c]) H := by
  have old : ∀ k, k < S.length → (W.addC p).at_ k = W.at_ k := fun k hk => if_neg (by rw [← s.len]; omega)
  have new : (W.addC p).at_ S.length = p := if_pos s.len
  have lt : ∀ (j : Nat) (d : Cell), (S ++ [c])[j]? = some d → j < S.length ∨ j = S.length := fun j d e => by
    have := (List.getElem?_eq_some_iff.mp e).1
    rw [List.length_append] at this
    simp at this
    omega
  refine ⟨s.fz, by rw [List.length_append, s.len]; rfl, fun k d e nd => ?_, fun j k d1 d2 e1 e2 n1 n2 q => ?_, s.fr⟩
  · rcases lt k d e with hk | hk
    · rw [List.getElem?_append_left hk] at e
      obtain ⟨h1, h2, u, h3, h4⟩ := s.live k d e nd
      rw [old k hk]
      exact ⟨h1, h2, u, h3, h4.mono (Wd.le_addC W p)⟩
    · subst hk
      simp at e
      subst e
      rw [new]
      exact ⟨hp.f, hp.b, o, h, ok.mono (Wd.le_addC W p)⟩
  · rcases lt j d1 e1 with hj | hj <;> rcases lt k d2 e2 with hk | hk
    · rw [old j hj, old k hk] at q
      rw [List.getElem?_append_left hj] at e1
      rw [List.getElem?_append_left hk] at e2
      exact s.inj j k d1 d2 e1 e2 n1 n2 q
    · rw [List.getElem?_append_left hj] at e1
      rw [hk, old j hj, new] at q
      exact absurd q (hp.c j d1 e1 n1)
    · rw [List.getElem?_append_left hk] at e2
      rw [hj, old k hk, new] at q
      exact absurd q.symm (hp.c k d2 e2 n2)
    · omega
/-- a world that keeps one place more -/
def Wd.pin (W : Wd) (p : Addr) (o : HO) : Wd := { W with B := upd W.B p o }
theorem Sim.pin (s : Sim G W S H) {p : Addr} {o : HO} (hp : Out W S p) (h : H p = some o) : Sim G (W.pin p o) S H where
  fz := s.fz
  len := s.len
  live := fun k c e d => by
    obtain ⟨h1, h2, u, h3, h4⟩ := s.live k c e d
    refine ⟨h1, ?_, u, h3, ?_⟩
    · show upd W.B p o (W.at_ k) = none
      rw [upd_ne (hp.c k c e d)]
      exact h2
    · cases h4 with
      | lst h => exact .lst h
      | ins h => exact .ins h
      | dct h => exact .dct h
  inj := s.inj
  fr := fun a u e => by
    by_cases q : a = p
    · subst q
      have e' : upd W.B a o a = some u := e
      rw [upd_same] at e'
      rw [h, e']
    · have e' : upd W.B p o a = some u := e
      rw [upd_ne q] at e'
      exact s.fr a u e'
theorem RepV.pinned {p : Addr} {o : HO} {x : V} : ∀ {a : Val}, RepV G W x a → RepV G (W.pin p o) x a
  | .t _, r => r
  | .r _, r => r
theorem EnvRep.pinned {p : Addr} {o : HO} (h : EnvRep G W σ env) : EnvRep G (W.pin p o) σ env := ⟨h.1, fun i v e => by
  obtain ⟨x, e1, r⟩ := h.2 i v e
  exact ⟨x, e1, r.imp (fun r => r.pinned) id⟩⟩
/-- .. and back -/
def Wd.unpin (W : Wd) (B : Hp) : Wd := { W with B := B }
theorem RepV.unpinned {B : Hp} {x : V} : ∀ {a : Val}, RepV G W x a → RepV G (W.unpin B) x a
  | .t _, r => r
  | .r _, r => r
theorem EnvRep.unpinned {B : Hp} (h : EnvRep G W σ env) : EnvRep G (W.unpin B) σ env := ⟨h.1, fun i v e => by
  obtain ⟨x, e1, r⟩ := h.2 i v e
  exact ⟨x, e1, r.imp (fun r => r.unpinned) id⟩⟩
theorem unpin_le {p : Addr} {o : HO} (hp : W.F p = none) (l : (W.pin p o).le W') : W.le (W'.unpin W.B) where
  f := l.f
  new := fun a u e => by
    rcases l.new a u e with h | h
    · exact .inl h
    · by_cases q : a = p
      · subst q
        have h : upd W.B a o a = none := h
        rw [upd_same] at h
        cases h
      · have h : upd W.B p o a = none := h
        rw [upd_ne q] at h
        exact .inr h
  b := rfl
  n := l.n
  at_ := l.at_
theorem unpin_sim {p : Addr} {o : HO} (hp : W.F p = none) (hb : W.B p = none) (l : (W.pin p o).le W') (s : Sim G W' S H) : Sim G (W'.unpin W.B) S H ∧ Out (W'.unpin W.B) S p ∧ H p = some o := by
  have eB : W'.B = upd W.B p o := l.b
  have hpB : W'.B p = some o := by rw [eB, upd_same]
  refine ⟨⟨s.fz, s.len, fun k c e d => ?_, s.inj, fun a u e => ?_⟩, ⟨?_, hb, fun k c e d z => ?_⟩, s.fr p o hpB⟩
  · obtain ⟨h1, h2, u, h3, h4⟩ := s.live k c e d
    refine ⟨h1, ?_, u, h3, ?_⟩
    · show W.B (W'.at_ k) = none
      cases q : W.B (W'.at_ k) with
      | none => rfl
      | some v =>
        have z : W'.at_ k ≠ p := fun z => by rw [z, hpB] at h2; cases h2
        rw [eB, upd_ne z, q] at h2
        cases h2
    · cases h4 with
      | lst h => exact .lst (Paired.mono (fun _ _ r => r.unpinned) h)
      | ins h => exact .ins (Paired.mono (fun _ _ r => ⟨r.1, r.2.1, r.2.2.unpinned⟩) h)
      | dct h => exact .dct (Paired.mono (fun _ _ r => ⟨r.1, r.2.unpinned⟩) h)
  · have z : a ≠ p := fun z => by
      have e : W.B a = some u := e
      rw [z, hb] at e
      cases e
    exact s.fr a u (by rw [eB, upd_ne z]; exact e)
  · show W'.F p = none
    cases q : W'.F p with
    | none => rfl
    | some u =>
      rcases l.new p u q with h | h
      · have h : W.F p = some u := h
        rw [hp] at h
        cases h
      · have h : upd W.B p o p = none := h
        rw [upd_same] at h
        cases h
  · obtain ⟨_, h2, _⟩ := s.live k c e d
    have z : W'.at_ k = p := z
    rw [z, hpB] at h2
    cases h2
/-- a cell that stays for good: it becomes a tree's node -/
theorem Sim.bury (s : Sim G W S H) {n : Nat} {c : Cell} (hn : S[n]? = some c) (hd : c ≠ .dead) : Sim G W (S.set n .dead) H ∧ Out W (S.set n .dead) (W.at_ n) := by
  obtain ⟨l1, l2, _⟩ := s.live n c hn hd
  have hlt := (List.getElem?_eq_some_iff.mp hn).1
  have old : ∀ k d, (S.set n Cell.dead)[k]? = some d → d ≠ .dead → S[k]? = some d ∧ n ≠ k := fun k d e nd => by
    by_cases z : n = k
    · subst z
      rw [List.getElem?_set_self hlt] at e
      cases e
      exact absurd rfl nd
    · rw [List.getElem?_set_ne z] at e
      exact ⟨e, z⟩
  refine ⟨⟨s.fz, by rw [List.length_set]; exact s.len, fun k d e nd => s.live k d (old k d e nd).1 nd, fun j k d1 d2 e1 e2 n1 n2 q => s.inj j k d1 d2 (old j d1 e1 n1).1 (old k d2 e2 n2).1 n1 n2 q, s.fr⟩, l1, l2, fun k d e nd z => ?_⟩
  obtain ⟨e1, e2⟩ := old k d e nd
  exact e2 (s.inj k n d c e1 hn nd hd z).symm
end

/-! ### what is wanted behind -/
section
variable {α β γ δ : Type}
def Post (G : Gd) (rep : Wd → β → α → Prop) (Wx : WX) (σ : L2.St) (W : Wd) (r : R α) (Q : β → Hp → Prop) : Prop := match r with
  | .ok a S => ∀ (W' : Wd) (b : β) (H' : Hp), W.le W' → Sim G W' S H' → rep W' b a → Q b H'
  | .ex x S => ∀ (W' : Wd) (cls : Value) (od : Option Addr) (H' : Hp), W.le W' → Sim G W' S H' → ExRep G H' cls od x → Wx cls od σ H'
  | .bad => False
def Den (G : Gd) (rep : Wd → β → α → Prop) (Wx : WX) (f : Env → Store → R α) : L2.St → Hp → (β → Hp → Prop) → Prop := fun σ H Q =>
  ∃ (W : Wd) (env : Env) (S : Store), Sim G W S H ∧ EnvRep G W σ env ∧ Post G rep Wx σ W (f env S) Q
variable {G : Gd} {rep : Wd → β → α → Prop} {rep2 : Wd → δ → γ → Prop} {Wx : WX} {σ : L2.St} {W W' : Wd} {S : Store} {H : Hp} {env : Env} {f : Env → Store → R α} {k : α → Store → R γ} {Q : δ → Hp → Prop} {Kt : β → Hp → Prop}
theorem Post.mono {r : R α} {Q : β → Hp → Prop} (h : Post G rep Wx σ W r Q) (l : W.le W') : Post G rep Wx σ W' r Q := by
  cases r with
  | ok a S => exact fun W2 b H' l2 s e => h W2 b H' (l.trans l2) s e
  | ex x S => exact fun W2 cls od H' l2 s e => h W2 cls od H' (l.trans l2) s e
  | bad => exact h
theorem Den.step (h : Post G rep2 Wx σ W ((f env S).bind k) Q) (s : Sim G W S H) (e : EnvRep G W σ env)
    (c : ∀ (a : α) (S1 : Store) (W1 : Wd) (b : β) (H1 : Hp), f env S = .ok a S1 → W.le W1 → Sim G W1 S1 H1 → EnvRep G W1 σ env → rep W1 b a → Post G rep2 Wx σ W1 (k a S1) Q → Kt b H1) :
    Den G rep Wx f σ H Kt := by
  refine ⟨W, env, S, s, e, ?_⟩
  cases q : f env S with
  | ok a S1 =>
    rw [q] at h
    exact fun W1 b H1 l s1 r => c a S1 W1 b H1 q l s1 (e.mono l) r (Post.mono (show Post G rep2 Wx σ W (k a S1) Q from h) l)
  | ex x S1 =>
    rw [q] at h
    exact h
  | bad =>
    rw [q] at h
    exact (show False from h).elim
/-- the last step -/
theorem Den.last (h : Post G rep Wx σ W (f env S) Kt) (s : Sim G W S H) (e : EnvRep G W σ env) : Den G rep Wx f σ H Kt := ⟨W, env, S, s, e, h⟩
theorem Post.step {r : R α} {β' : Type} {rep' : Wd → β' → α → Prop} {Q : δ → Hp → Prop} {Kt : β' → Hp → Prop} (h : Post G rep2 Wx σ W (r.bind k) Q)
    (c : ∀ (a : α) (S1 : Store) (W1 : Wd) (b : β') (H1 : Hp), r = .ok a S1 → W.le W1 → Sim G W1 S1 H1 → rep' W1 b a → Post G rep2 Wx σ W1 (k a S1) Q → Kt b H1) : Post G rep' Wx σ W r Kt := by
  cases r with
  | ok a S1 => exact fun W1 b H1 l s1 r => c a S1 W1 b H1 rfl l s1 r (Post.mono (show Post G rep2 Wx σ W (k a S1) Q from h) l)
  | ex x S1 => exact h
  | bad => exact h
theorem Post.ok {a : α} {b : β} {Q : β → Hp → Prop} (h : Post G rep Wx σ W (.ok a S) Q) (s : Sim G W S H) (r : rep W b a) : Q b H := h W b H (.refl W) s r
end
section
def PostS (G : Gd) (Wx : WX) (W : Wd) (m : RS) (D : Ends) : Prop := match m with
  | .nx env S => ∀ (W' : Wd) (σ : L2.St) (H : Hp), W.le W' → Sim G W' S H → EnvRep G W' σ env → D.nx σ H
  | .rt v S => ∀ (W' : Wd) (x : V) (H : Hp), W.le W' → Sim G W' S H → RepV G W' x v → D.rt x H
  | .bk env S => ∀ (W' : Wd) (σ : L2.St) (H : Hp), W.le W' → Sim G W' S H → EnvRep G W' σ env → D.bk σ H
  | .ct env S => ∀ (W' : Wd) (σ : L2.St) (H : Hp), W.le W' → Sim G W' S H → EnvRep G W' σ env → D.ct σ H
  | .ex x env S => ∀ (W' : Wd) (σ : L2.St) (cls : Value) (od : Option Addr) (H : Hp), W.le W' → Sim G W' S H → EnvRep G W' σ env → ExRep G H cls od x → Wx cls od σ H
  | .bad => False
def DenS (G : Gd) (Wx : WX) (f : Env → Store → RS) : TS := fun D σ H => ∃ (W : Wd) (env : Env) (S : Store), Sim G W S H ∧ EnvRep G W σ env ∧ PostS G Wx W (f env S) D
variable {α β : Type} {G : Gd} {rep : Wd → β → α → Prop} {Wx : WX} {σ : L2.St} {W W' : Wd} {S : Store} {H : Hp} {env : Env} {f : Env → Store → R α} {k : α → Store → RS} {D : Ends} {Kt : β → Hp → Prop}
theorem PostS.mono {m : RS} (h : PostS G Wx W m D) (l : W.le W') : PostS G Wx W' m D := by
  cases m with
  | nx env S => exact fun W2 σ H l2 s e => h W2 σ H (l.trans l2) s e
  | rt v S => exact fun W2 x H l2 s e => h W2 x H (l.trans l2) s e
  | bk env S => exact fun W2 σ H l2 s e => h W2 σ H (l.trans l2) s e
  | ct env S => exact fun W2 σ H l2 s e => h W2 σ H (l.trans l2) s e
  | ex x env S => exact fun W2 σ cls od H l2 s e => h W2 σ cls od H (l.trans l2) s e
  | bad => exact h
theorem Den.stepS (h : PostS G Wx W ((f env S).st env k) D) (s : Sim G W S H) (e : EnvRep G W σ env)
    (c : ∀ (a : α) (S1 : Store) (W1 : Wd) (b : β) (H1 : Hp), f env S = .ok a S1 → W.le W1 → Sim G W1 S1 H1 → EnvRep G W1 σ env → rep W1 b a → PostS G Wx W1 (k a S1) D → Kt b H1) :
    Den G rep Wx f σ H Kt := by
  refine ⟨W, env, S, s, e, ?_⟩
  cases q : f env S with
  | ok a S1 =>
    rw [q] at h
    exact fun W1 b H1 l s1 r => c a S1 W1 b H1 q l s1 (e.mono l) r (PostS.mono (show PostS G Wx W (k a S1) D from h) l)
  | ex x S1 =>
    rw [q] at h
    exact fun W1 cls od H1 l s1 r => h W1 σ cls od H1 l s1 (e.mono l) r
  | bad =>
    rw [q] at h
    exact (show False from h).elim
end
end Rw

namespace Rw
open PySem PySem.Spec PyProof.Rows L2

/-! ### the check: does the small language's term stand for this piece of syntax -/
structure Ck where
  N : List Str
  sc : Scope
  nm : Nm
  tab : Tab
  glF : Nat → Bool
  calm : Bool
  can : Str → Bool
  top : Bool := false
  hs : Option Nat := none
def visB (sc : Scope) (x : Str) : Bool := match sc.names.lookup x with
  | some .local => true
  | some .cell => true
  | some .free => true
  | _ => false
def glB (sc : Scope) (x : Str) : Bool := match sc.names.lookup x with
  | some .globalImplicit => true
  | _ => false
def okN (x : Str) : Bool := !(x == ("__debug__" : Str)) && (!(x == ("__classdict__" : Str)) && !decide (x = ("__name__" : Str)))
def conB : T → Const → Bool
  | .non, .none => true
  | .bl b, .bool c => b == c
  | .int i, .int j => decide (i = j)
  | .str x, .str y => decide (x = y)
  | _, _ => false
def isSet : Expr → Bool
  | .Set _ _ _ => true
  | _ => false
def isSlc : Expr → Bool
  | .Slice _ _ _ _ => true
  | _ => false
def isStar : Expr → Bool
  | .Starred _ _ => true
  | _ => false
def noStar : List Expr → Bool
  | [] => true
  | e :: es => !isStar e && noStar es
def plainT : Expr → Bool
  | .UnaryOp .Not _ _ => false
  | .BoolOp _ _ _ => false
  | .IfExp _ _ _ _ => false
  | .Compare _ _ _ _ => false
  | _ => true
def isCmpI : IE → Bool
  | .cmp _ _ _ => true
  | .cmp2 _ _ _ _ _ => true
  | .inRg _ _ _ => true
  | _ => false
def bltN : Blt → Str
  | .len => "len" | .int => "int" | .str => "str" | .min2 => "min" | .max2 => "max" | .abs => "abs" | .list => "list" | .tuple => "tuple"
  | .all => "all" | .any => "any" | .sum => "sum" | .minl => "min" | .maxl => "max" | .divmod => "divmod" | .sorted => "sorted" | .bool => "bool"
def tyN (nm : Nm) : Ty → Str
  | .int => "int" | .bool => "bool" | .str => "str" | .list => "list" | .tuple => "tuple" | .dict => "dict" | .cls c => nm.clN c
def isCl (tab : Tab) : Ty → Bool
  | .cls c => (tab.cl c).isSome
  | _ => true
def tysB (C : Ck) : List Ty → List Expr → Bool
  | [], [] => true
  | t :: ts, .Name x _ :: es => glB C.sc x && (okN x && (decide (x = tyN C.nm t) && (isCl C.tab t && tysB C ts es)))
  | _, _ => false
def locB (sc : Scope) (x : Str) : Bool := match sc.names.lookup x with
  | some .local => true
  | some .cell => true
  | _ => false
def isSup : Expr → Bool
  | .Call (.Name x _) [] [] _ => decide (x = ("super" : Str))
  | _ => false
def isTupE : Expr → Bool
  | .Tuple _ _ _ => true
  | _ => false
def chkTg (C : Ck) : List Nat → List Expr → Bool
  | [], [] => true
  | i :: is, .Name x _ :: es => decide (C.N[i]? = some x) && (C.can x && chkTg C is es)
  | _, _ => false
def chkT (C : Ck) (many : Bool) (tg : List Nat) (e : Expr) : Bool := match many, tg, e with
  | false, [i], .Name x _ => decide (C.N[i]? = some x) && C.can x
  | true, is, .Tuple es _ _ => chkTg C is es && C.calm
  | _, _, _ => false
def ownOf (N : List Str) (tg : List Nat) : List (Str × Nat) := tg.map fun i => ((N[i]?).getD Str.empty, i)
/-- a comprehension's own names behind the def's cells -/
def blkSc (sc scope : Scope) : Scope := { scope with names := scope.names.map fun (n, k) => if (k == NameKind.free && sc.kind == .function && sc.names.lookup n == some .cell) then (n, NameKind.cell) else (n, k) }
def Ck.blk (C : Ck) (scope : Scope) : Ck := { C with sc := blkSc C.sc scope, can := locB scope, top := false }
def newB (tab : Tab) (c m : Nat) : Bool := match tab.cl c with
  | some k => (match k.init with
    | some f => arity tab f (m + 1)
    | none => decide (m = 0))
  | none => false
def bmN : BM → Str
  | .append => "append" | .pop => "pop" | .popi => "pop" | .insert => "insert" | .extend => "extend" | .index => "index" | .count => "count"
def bmA : BM → Nat → Bool
  | .pop, n => decide (n = 0)
  | .append, n => decide (n = 1)
  | .popi, n => decide (n = 1)
  | .index, n => decide (n = 1)
  | .count, n => decide (n = 1)
  | _, _ => false
def isStrs : Option T → Bool
  | some (.tup ts) => (strsT ts).isSome
  | _ => false
theorem isStrs_ok {o : Option T} (h : isStrs o = true) : ∃ ts ys, o = some (.tup ts) ∧ strsT ts = some ys := by
  unfold isStrs at h
  split at h
  · obtain ⟨ys, e⟩ := Option.isSome_iff_exists.mp h
    exact ⟨_, ys, rfl, e⟩
  · cases h
/-- C.index(y) -/
def cixP : Expr → Option (Str × Expr)
  | .Call (.Attribute (.Name x _) n ap) [y] [] cp => if decide (n = ("index" : Str)) && (ap.endLine == cp.line) then some (x, y) else none
  | _ => none
theorem cixP_ok {e : Expr} {x : Str} {y : Expr} (h : cixP e = some (x, y)) : ∃ p ap cp, e = .Call (.Attribute (.Name x p) "index" ap) [y] [] cp ∧ (ap.endLine == cp.line) = true := by
  unfold cixP at h
  split at h
  · split at h
    · rename_i c
      obtain ⟨c1, c2⟩ := Bool.and_eq_true_iff.mp c
      have c1 := of_decide_eq_true c1
      subst c1
      cases h
      exact ⟨_, _, _, rfl, c2⟩
    · cases h
  · cases h
/-- len(set(y)) -/
def lsP : Expr → Option Expr
  | .Call (.Name x _) [.Call (.Name z _) [y] [] _] [] _ => if decide (x = ("len" : Str)) && decide (z = ("set" : Str)) then some y else none
  | _ => none
theorem lsP_ok {e y : Expr} (h : lsP e = some y) : ∃ p p2 q q2, e = .Call (.Name "len" p) [.Call (.Name "set" p2) [y] [] q] [] q2 := by
  unfold lsP at h
  split at h
  · split at h
    · rename_i c
      obtain ⟨c1, c2⟩ := Bool.and_eq_true_iff.mp c
      have c1 := of_decide_eq_true c1
      have c2 := of_decide_eq_true c2
      subst c1 c2
      cases h
      exact ⟨_, _, _, _, rfl⟩
    · cases h
  · cases h
/-- isinstance(x, C), isinstance(x, (C, ..)) -/
def exP : Expr → Option (Str × Bool × List Expr)
  | .Call (.Name f _) [.Name x _, .Name z zp] [] _ => if decide (f = ("isinstance" : Str)) then some (x, false, [.Name z zp]) else none
  | .Call (.Name f _) [.Name x _, .Tuple zs _ _] [] _ => if decide (f = ("isinstance" : Str)) then some (x, true, zs) else none
  | _ => none
theorem exP_ok {e : Expr} {x : Str} {m : Bool} {zs : List Expr} (h : exP e = some (x, m, zs)) : (m = false ∧ ∃ p p2 z zp q, e = .Call (.Name "isinstance" p) [.Name x p2, .Name z zp] [] q ∧ zs = [.Name z zp]) ∨
    (m = true ∧ ∃ p p2 k tp q, e = .Call (.Name "isinstance" p) [.Name x p2, .Tuple zs k tp] [] q) := by
  unfold exP at h
  split at h
  · split at h
    · rename_i c
      have c1 := of_decide_eq_true c
      subst c1
      cases h
      exact .inl ⟨rfl, _, _, _, _, _, rfl, rfl⟩
    · cases h
  · split at h
    · rename_i c
      have c1 := of_decide_eq_true c
      subst c1
      cases h
      exact .inr ⟨rfl, _, _, _, _, _, rfl⟩
    · cases h
  · cases h
/-- list(range(y)) -/
def lrP : Expr → Option Expr
  | .Call (.Name x _) [.Call (.Name z _) [y] [] _] [] _ => if decide (x = ("list" : Str)) && decide (z = ("range" : Str)) then some y else none
  | _ => none
theorem lrP_ok {e y : Expr} (h : lrP e = some y) : ∃ p p2 q q2, e = .Call (.Name "list" p) [.Call (.Name "range" p2) [y] [] q] [] q2 := by
  unfold lrP at h
  split at h
  · split at h
    · rename_i c
      obtain ⟨c1, c2⟩ := Bool.and_eq_true_iff.mp c
      have c1 := of_decide_eq_true c1
      have c2 := of_decide_eq_true c2
      subst c1 c2
      cases h
      exact ⟨_, _, _, _, rfl⟩
    · cases h
  · cases h
/-- l in range(y) -/
def irP : Expr → Option (Bool × Expr × Expr)
  | .Compare l [.In] [.Call (.Name z _) [y] [] _] _ => if decide (z = ("range" : Str)) then some (false, l, y) else none
  | .Compare l [.NotIn] [.Call (.Name z _) [y] [] _] _ => if decide (z = ("range" : Str)) then some (true, l, y) else none
  | _ => none
theorem irP_ok {e l y : Expr} {neg : Bool} (h : irP e = some (neg, l, y)) : ∃ p2 q p, e = .Compare l [if neg then .NotIn else .In] [.Call (.Name "range" p2) [y] [] q] p := by
  unfold irP at h
  split at h
  · split at h
    · rename_i c
      have c := of_decide_eq_true c
      subst c
      cases h
      exact ⟨_, _, _, rfl⟩
    · cases h
  · split at h
    · rename_i c
      have c := of_decide_eq_true c
      subst c
      cases h
      exact ⟨_, _, _, rfl⟩
    · cases h
  · cases h
def dct0P : Expr → Bool
  | .Dict [] [] _ => true
  | _ => false
theorem dct0P_ok {e : Expr} (h : dct0P e = true) : ∃ p, e = .Dict [] [] p := by
  unfold dct0P at h
  split at h
  · exact ⟨_, rfl⟩
  · cases h
def dct1P : Expr → Option (Int × Int)
  | .Dict [some (.Constant (.int k) _ _)] [.Constant (.int v) _ _] _ => some (k, v)
  | _ => none
theorem dct1P_ok {e : Expr} {k v : Int} (h : dct1P e = some (k, v)) : ∃ a b c d p, e = .Dict [some (.Constant (.int k) a b)] [.Constant (.int v) c d] p := by
  unfold dct1P at h
  split at h
  · cases h
    exact ⟨_, _, _, _, _, rfl⟩
  · cases h
/-- the classes of exceptions that isinstance names -/
def exsB (C : Ck) : List (Option Nat) → List Expr → Bool
  | [], [] => true
  | none :: ts, .Name x _ :: es => glB C.sc x && (okN x && (decide (x = ("ValueError" : Str)) && exsB C ts es))
  | some d :: ts, .Name x _ :: es => glB C.sc x && (okN x && (decide (x = C.nm.exN d) && ((C.tab.exc d).isSome && exsB C ts es)))
  | _, _ => false
def keysB : List Key → List (Option Expr) → Bool
  | [], [] => true
  | .inl i :: ks, some (.Constant (.int j) _ _) :: es => decide (i = j) && keysB ks es
  | .inr x :: ks, some (.Constant (.str y) _ _) :: es => decide (x = y) && keysB ks es
  | _, _ => false
/-- a def that takes the handled exception -/
def hotB (tab : Tab) (f : Nat) : Bool := match tab.fn f with
  | some d => d.hot && decide (d.np = 1)
  | none => false
mutual
def chkE (C : Ck) : IE → Expr → Bool
  | .var i, .Name x _ => decide (C.N[i]? = some x) && (visB C.sc x && (okN x && decide (C.hs ≠ some i)))
  | .listRg a, e => match lrP e with
    | some y => glB C.sc ("list" : Str) && (glB C.sc ("range" : Str) && (chkE C a y && (!isStar y && C.calm)))
    | none => false
  | .inRg neg a b, e => match irP e with
    | some (n2, l, y) => (n2 == neg) && (glB C.sc ("range" : Str) && (chkE C a l && (chkE C b y && !isStar y)))
    | none => false
  | .dct0, e => dct0P e
  | .dct1 k v, e => decide (dct1P e = some (k, v))
  | .dctD _ ks es, .Dict keys values _ => keysB ks keys && (chkEs C es values && (decide (keys.length = values.length) && (nodupK ks && (decide (ks.length ≤ 15) && !ks.isEmpty))))
  | .upd o e, .Call (.Attribute x nm ap) [y] [] cp => chkE C o x && (!isSup x && (decide (nm = ("update" : Str)) && (chkE C e y && (!isStar y && (ap.endLine == cp.line)))))
  | .exIs i many ts, e => match exP e with
    | some (x, m, zs) => decide (C.hs = some i) && (decide (C.N[i]? = some x) && (visB C.sc x && (okN x && (glB C.sc ("isinstance" : Str) && (m == many && (exsB C ts zs && (noStar zs && decide (ts.length ≤ 1000))))))))
    | none => false
  | .hot f i, .Call (.Name g _) [.Name x _] [] _ => decide (C.hs = some i) && (decide (C.N[i]? = some x) && (visB C.sc x && (okN x && (glB C.sc g && (okN g && (decide (g = C.nm.fnN f) && (hotB C.tab f && C.glF f)))))))
  | .con t, .Constant c _ _ => conB t c
  | .bin op a b, .BinOp l o r _ => decide (op = o) && (chkE C a l && chkE C b r)
  | .binM op a b, .BinOp l o r _ => decide (op = o) && (chkE C a l && chkE C b r)
  | .neg a, .UnaryOp .USub e _ => chkE C a e
  | .cmp op a b, .Compare l [o] [r] _ => decide (op = o) && (chkE C a l && (chkE C b r && !isSet r))
  | .cmp2 o p a b c, .Compare l [o2, p2] [m, r] _ => decide (o = o2) && (decide (p = p2) && (chkE C a l && (chkE C b m && (chkE C c r && (!isSet m && !isSet r)))))
  | .not a, .UnaryOp .Not e _ => chkE C a e
  | .ands es, .BoolOp .And vs _ => chkEs C es vs
  | .ors es, .BoolOp .Or vs _ => chkEs C es vs
  | .ife t a b, .IfExp c x y _ => chkC C t c && (chkE C a x && chkE C b y)
  | .tup es, .Tuple xs _ _ => chkEs C es xs && noStar xs
  | .lst _ es, .List xs _ => chkEs C es xs && noStar xs
  | .sub a i, .Subscript e x _ => chkE C a e && (chkE C i x && !isSlc x)
  | .call f es, .Call (.Name x _) xs [] _ => glB C.sc x && (okN x && (decide (x = C.nm.fnN f) && (chkEs C es xs && (noStar xs && (arity C.tab f xs.length && (C.glF f && C.calm))))))
  | .glob g, .Name x _ => glB C.sc x && (okN x && (decide (x = C.nm.coN g) && (C.tab.con g).isSome))
  | .slc _ a lo hi, .Subscript e (.Slice l h none _) _ => chkE C a e && ((match l with
    | none => isNo lo
    | some x => !isNo lo && chkE C lo x) && (match h with
    | none => isNo hi
    | some x => !isNo hi && chkE C hi x))
  | .rev _ a, .Subscript e (.Slice none none (some (.UnaryOp .USub (.Constant (.int i) _ _) _)) _) _ => decide (i = 1) && chkE C a e
  | .fld o f, .Attribute e x _ => chkE C o e && (decide (x = C.nm.atN f) && !isSup e)
  | .new c es, .Call (.Name x _) xs [] _ => glB C.sc x && (okN x && (decide (x = C.nm.clN c) && (chkEs C es xs && (noStar xs && (newB C.tab c xs.length && C.calm)))))
  | .meth o f es, .Call (.Attribute e x ap) xs [] cp => chkE C o e && (!isSup e && (decide (x = C.nm.atN f) && (chkEs C es xs && (noStar xs && (decide (xs.length < 20) && ((ap.endLine == cp.line) && C.calm))))))
  | .cix g i, e => match cixP e with
    | some (x, y) => glB C.sc x && (okN x && (decide (x = C.nm.coN g) && (chkE C i y && (!isStar y && isStrs (C.tab.con g)))))
    | none => false
  | .lenSet a, e => match lsP e with
    | some y => glB C.sc ("len" : Str) && (glB C.sc ("set" : Str) && (chkE C a y && (!isStar y && C.calm)))
    | none => false
  | .bm b _ o es, .Call (.Attribute e x ap) xs [] cp => chkE C o e && (!isSup e && (decide (x = bmN b) && (chkEs C es xs && (noStar xs && (bmA b xs.length && (ap.endLine == cp.line))))))
  | .comp _ k src many tg ifs elt, .ListComp e [⟨t, it, xs, n⟩] scope _ => decide (n = 0) && (chkIt C k src it && (L2.blkC C.N C.sc scope (ownOf C.N tg) && (chkT (C.blk scope) many tg t && (chkIfs (C.blk scope) ifs xs && (chkE (C.blk scope) elt e && C.calm)))))
  | .blt b _ es, .Call (.Name x _) (e :: xs) [] _ => glB C.sc x && (okN x && (decide (x = bltN b) && (chkEs C es (e :: xs) && (noStar (e :: xs) && (!needCalm b || C.calm)))))
  | .isi e false [t], .Call (.Name x _) [y, .Name z _] [] _ => glB C.sc x && (okN x && (decide (x = ("isinstance" : Str)) && (chkE C e y && (!isStar y && (glB C.sc z && (okN z && (decide (z = tyN C.nm t) && isCl C.tab t)))))))
  | .isi e true ts, .Call (.Name x _) [y, .Tuple zs _ _] [] _ => glB C.sc x && (okN x && (decide (x = ("isinstance" : Str)) && (chkE C e y && (!isStar y && (tysB C ts zs && (noStar zs && (!ts.isEmpty && decide (ts.length ≤ 1000))))))))
  | _, _ => false
def chkEs (C : Ck) : IEs → List Expr → Bool
  | .nil, [] => true
  | .cons e es, x :: xs => chkE C e x && chkEs C es xs
  | _, _ => false
def chkC (C : Ck) : IC → Expr → Bool
  | .val e, x => chkE C e x && (plainT x || isCmpI e)
  | .not c, .UnaryOp .Not e _ => chkC C c e
  | .ands cs, .BoolOp .And vs _ => chkCs C cs vs && !vs.isEmpty
  | .ors cs, .BoolOp .Or vs _ => chkCs C cs vs && !vs.isEmpty
  | _, _ => false
def chkCs (C : Ck) : ICs → List Expr → Bool
  | .nil, [] => true
  | .cons c cs, x :: xs => chkC C c x && chkCs C cs xs
  | _, _ => false
def chkIfs (C : Ck) : ICs → List Expr → Bool
  | .nil, [] => true
  | .cons c .nil, [x] => chkC C c x
  | _, _ => false
def chkIt (C : Ck) : ItK → IEs → Expr → Bool
  | .seq, .cons a .nil, e => chkE C a e && !isSet e
  | .range, .cons a .nil, .Call (.Name x _) [y] [] _ => decide (x = ("range" : Str)) && (glB C.sc x && (chkE C a y && !isStar y))
  | .range, .cons a (.cons b .nil), .Call (.Name x _) [y, z] [] _ => decide (x = ("range" : Str)) && (glB C.sc x && (chkE C a y && (chkE C b z && (!isStar y && !isStar z))))
  | _, _, _ => false
end

/-! ### what is known where a piece runs -/
def dflV (d : Fn) (m : Nat) : List Val := (d.dfl.drop (d.dfl.length - (d.np - m))).map Val.t
/-- a def's promise: what the small language says of it -/
def spR (G : Gd) (np : Nat) (run : List Val → Store → R Val) : Sp := fun vs H Q E => ∃ (W : Wd) (S : Store) (ds : List Val), Sim G W S H ∧ Paired (RepV G W) vs ds ∧ ds.length = np ∧
  Post G (RepV G) (fun c o _ H => E c o H) [] W (run ds S) Q
structure FnFact (G : Gd) (base : Heap) (k : Nat) (f : Nat) (d : Fn) (run : List Val → Store → R Val) : Prop where
  ex : ∃ (fd : FuncData) (ps : List Str), FnOk G.prog G.w G.K G.mg base (L2.CX G.prog G.w) k (G.fA f) fd ps (spR G d.np run) ∧
    ∀ m, m ≤ d.np → d.np - m ≤ d.dfl.length → ∃ (ds : List Value) (dvs : List V), Binds G.K fd ps ds ∧ Vals dvs ds ∧ ∀ W, Paired (RepV G W) dvs (dflV d m)
/-- what a def promises that is called with the exception that is handled -/
structure HotFact (G : Gd) (base : Heap) (k : Nat) (f : Nat) (d : Fn) (run : List Val → Store → R Val) : Prop where
  ex : d.np = 1 → ∃ (fd : FuncData) (q : Str), Binds G.K fd [q] [] ∧ ∀ (h : Option (Nat × Addr × Nat)) (A : Around) (outer : List PySem.Env) (s : Shared) (H : Hp) (args : Args) (W : Wd) (S : Store) (a : Addr) (oe : Obj) (c : Nat) (l : List Nat) (Q : VK), L2H.RoomH k A → L2H.PinOk outer H s (a, oe) →
    Env0 G.prog G.w G.K G.mg base A outer s H → BindsTo s fd args [(q, .ref a)] → Zc (.ref (G.eA c)) none oe → (∃ vs, oe.data = .fields vs) → G.tab.exc c = some l → Sim (G.hd h) W S H → Post (G.hd h) (RepV (G.hd h)) (fun _ _ _ _ => False) [] W (run [.t (.exn c [])] S) Q →
    codeAny (model G.prog G.w) A (.call (.ref (G.fA f)) args) (CR (L2.CX G.prog G.w) outer G.prog G.w H s Q fun _ _ _ => False) s
def tyC (G : Gd) : Ty → Value
  | .int => .type "int" | .bool => .type "bool" | .str => .type "str" | .list => .type "list" | .tuple => .type "tuple" | .dict => .type "dict" | .cls c => .ref (G.cA c)
def tyW (G : Gd) : Ty → V
  | .int => .ty "int" | .bool => .ty "bool" | .str => .ty "str" | .list => .ty "list" | .tuple => .ty "tuple" | .dict => .ty "dict" | .cls c => .ref (G.cA c)
/-- what a class without an __init__ of its own must have to be made -/
structure Mk0 (K : PySem.W.Frag) (C : Addr) : Prop where
  makes : PySem.W.makesIn K C = true
  init : PySem.W.findIn K (.ref C) "__init__" = some (some (.builtin "object.__init__"))
  kp : PySem.W.keepIn K (.ref C) = true
/-- a class as it stands behind the top -/
structure ClsFact (G : Gd) (c : Nat) (cl : Cl) : Prop where
  cls : Cls G.K (G.cA c)
  ha : PySem.W.findIn G.K (.ref (G.cA c)) "__class__" = some (some (.builtin "object.__class__"))
  hn : PySem.W.specialIn G.K (.builtin "object.__class__") "__get__" = some (some (.builtin "getset_descriptor.__get__"))
  htk : PySem.W.takesIn G.K (.builtin "object.__class__") = some true
  hm : PySem.W.mroIn G.K (G.cA c) (.type "object") = some true
  isB : ∀ t ∈ [Ty.int, Ty.bool, Ty.str, Ty.list, Ty.tuple, Ty.dict], PySem.W.kitOne G.K (.ref (G.cA c)) (tyC G t) = some false
  isC : ∀ d cd, G.tab.cl d = some cd → PySem.W.kitOne G.K (.ref (G.cA c)) (.ref (G.cA d)) = some (cl.sup.contains d)
  isD : ∀ t ∈ ["NoneType", "bool", "int", "str", "tuple", "list", "dict"], PySem.W.kitOne G.K (.type t) (.ref (G.cA c)) = some false
  mg : G.mg (G.nm.clN c) = some (.ref (G.cA c))
  na : ∀ f ∈ cl.flds, f < G.nAt ∧ NoAttr G.K (G.cA c) (G.nm.atN f)
  mt : ∀ f g, cl.meths.lookup f = some g → f < G.nAt ∧ Meth G.K (G.cA c) (G.nm.atN f) (G.fA g) ∧ (G.tab.fn g).isSome = true
  mkf : match cl.init with
    | some f => Mk G.K (G.cA c) (G.fA f)
    | none => Mk0 G.K (G.cA c)
/-- a class of exceptions, under ValueError, as it stands behind the top -/
structure ExcFact (G : Gd) (c : Nat) : Prop where
  mg : G.mg (G.nm.exN c) = some (.ref (G.eA c))
  ex : G.tab.exr c = true → PySem.W.excIn G.K (G.eA c) He.veBase "ValueError.__new__" = true ∧ PySem.W.keepIn G.K (.ref (G.eA c)) = true
  sub : PySem.W.subIn G.K (.ref (G.eA c)) (.type "BaseException") = some true
  ty : PySem.W.typeIn G.K (.ref (G.eA c)) = some (.type "type")
  isE : ExcC G.K (G.eA c)
  ve : PySem.W.kitOne G.K (.ref (G.eA c)) (.type "ValueError") = some true
  kO : ∀ lc, G.tab.exc c = some lc → ∀ d l, G.tab.exc d = some l → PySem.W.kitOne G.K (.ref (G.eA c)) (.ref (G.eA d)) = some (lc.contains d) ∧ PySem.W.exmOne G.K (.ref (G.eA c)) (.ref (G.eA d)) = some (lc.contains d)
structure XOk (G : Gd) (C : Ck) (X : Cx) (Wx : WX) (k : Nat) (call : Call) : Prop where
  prog : X.prog = G.prog
  w : X.w = G.w
  K : X.K = G.K
  mg : X.mg = G.mg
  N : X.N = C.N
  nd : X.N.Nodup
  sc : X.env.scope = C.sc
  room : C.calm = true → Room (k + 1) X.A
  roomH : L2H.RoomH (k + 1) X.A
  hu : X.A.units + 64 < cLine
  calm : C.calm = true → X.calm = true
  tk : Takes X Wx
  pas : PassesOwn (model X.prog X.w) X.A X.env X.xe
  tab : C.tab = G.tab
  nm : C.nm = G.nm
  free : ∀ x : Str, x ∈ ["len", "int", "str", "min", "max", "abs", "list", "tuple", "all", "any", "sum", "divmod", "sorted", "bool", "isinstance", "range", "enumerate", "zip", "dict", "set", "ValueError"].map Str.ofString → G.mg x = none
  gl : ∀ f, C.glF f = true → G.mg (G.nm.fnN f) = some (.ref (G.fA f)) ∧ PySem.W.keepIn G.K (.ref (G.fA f)) = true
  cls : ∀ (c : Nat) (cl : Cl), G.tab.cl c = some cl → ClsFact G c cl
  fns : C.calm = true → ∀ (f : Nat) (d : Fn), G.tab.fn f = some d → d.hot = false → ∃ run : List Val → Store → R Val, (∀ vs S, call f vs S = run (vs ++ dflV d vs.length) S) ∧ FnFact G X.base k f d run
  fnsH : ∀ (f : Nat) (d : Fn), G.tab.fn f = some d → d.hot = true → ∃ run : List Val → Store → R Val, (∀ vs S, call f vs S = run (vs ++ dflV d vs.length) S) ∧ HotFact G X.base k f d run
  okf : ∀ f g, f < G.nAt → g < G.nAt → G.nm.atN f = G.nm.atN g → f = g
  con : ∀ g t, G.tab.con g = some t → ∃ v u, G.mg (G.nm.coN g) = some u ∧ RelV v u ∧ (∀ F, Rep G F v t) ∧ ∀ ts, t = .tup ts → ∃ p o, v = .ref p ∧ G.K.lookup p = some o ∧ o.cls = .type "tuple" ∧ o.dict = none
  exc : ∀ c l, G.tab.exc c = some l → ExcFact G c
  hs : G.hs.map (fun h => h.1) = C.hs
  cs : C.calm = true → C.hs = none
  hx : ∀ i a c, G.hs = some (i, a, c) → ∃ (oe : Obj), (a, oe) ∈ X.pn ∧ Zc (.ref (G.eA c)) none oe ∧ (∃ vs, oe.data = .fields vs) ∧ ∃ l, G.tab.exc c = some l
  stk : C.top = true → X.stack = X.env :: X.outer ∧ X.env.frame = some X.env.locals
  can : ∀ (i : Nat) (x : Str), X.N[i]? = some x → C.can x = true → Loc X.env.scope x ∧ (X.fn x = true ∨ X.env.scope.names.lookup x = some .local)

section
variable {X : Cx} {e : Expr} {es : List Expr} {st : Stmt} {sts : List Stmt}
theorem PE.imp {t t' : TE} (h : PE X e t) (f : ∀ σ H Q, t' σ H Q → t σ H Q) : PE X e t' := ⟨fun pins s σ H Q I q => h.run pins s σ H Q I (f σ H Q q)⟩
theorem PT.imp {t t' : TT} (h : PT X e t) (f : ∀ σ H Q, t' σ H Q → t σ H Q) : PT X e t' := ⟨fun pins s σ H Q I q => h.run pins s σ H Q I (f σ H Q q)⟩
theorem PW.imp {t t' : TT} (h : PW X e t) (f : ∀ σ H Q, t' σ H Q → t σ H Q) : PW X e t' := ⟨fun wh pins s σ H Q I q => h.run wh pins s σ H Q I (f σ H Q q)⟩
theorem PA.imp {t t' : TA} (h : PA X es t) (f : ∀ σ H Q, t' σ H Q → t σ H Q) : PA X es t' := ⟨fun pos pins s σ H Q I q => h.run pos pins s σ H Q I (f σ H Q q)⟩
theorem PS.imp {t t' : TS} (h : PS X st t) (f : ∀ D σ H, t' D σ H → t D σ H) : PS X st t' := ⟨fun pins s σ H D I q => h.run pins s σ H D I (f D σ H q)⟩
theorem PSs.imp {t t' : TS} (h : PSs X sts t) (f : ∀ D σ H, t' D σ H → t D σ H) : PSs X sts t' := ⟨fun pins s σ H D I q => h.run pins s σ H D I (f D σ H q)⟩
/-- whichever rule of an operation -/
theorem OpR.any (f : Value → Value → Sem Value) : OpR X f (fun x y H Q => ∃ r : R2, OpR X f r ∧ r x y H Q) := fun pins s σ H x y v u Q I rx ry ⟨_, h, q⟩ => h pins s σ H x y v u Q I rx ry q
theorem IxR.any : IxR X (fun x y H Q => ∃ r : R2, IxR X r ∧ r x y H Q) := fun va sl pins s σ H x y v u Q I rx ry ⟨_, h, q⟩ e => h va sl pins s σ H x y v u Q I rx ry q e
theorem CallR.any (f : Value) : CallR X f (fun vs H Q => ∃ r : List V → Hp → VK → Prop, CallR X f r ∧ r vs H Q) := fun pins s σ H vs us Q I rx ⟨_, h, q⟩ => h pins s σ H vs us Q I rx q
theorem UnR.any (f : Value → Sem Value) : UnR X f (fun x H Q => ∃ r : V → Hp → VK → Prop, UnR X f r ∧ r x H Q) := fun pins s σ H x v Q I rx ⟨_, h, q⟩ => h pins s σ H x v Q I rx q
end
theorem ba {a b : Bool} (h : (a && b) = true) : a = true ∧ b = true := Bool.and_eq_true_iff.mp h
theorem nb {a : Bool} (h : (!a) = true) : a = false := by cases a <;> first | rfl | cases h
section
variable {X : Cx}
theorem okN_1 {x : Str} (h : okN x = true) : (x == ("__debug__" : Str)) = false := nb (ba h).1
theorem okN_2 {x : Str} (h : okN x = true) : (x == ("__classdict__" : Str)) = false := nb (ba (ba h).2).1
theorem okN_3 {x : Str} (h : okN x = true) : x ≠ ("__name__" : Str) := of_decide_eq_false (nb (ba (ba h).2).2)
theorem visB_ok {sc : Scope} {x : Str} (h : visB sc x = true) : Vis sc x := by
  unfold visB at h
  unfold Vis
  cases q : sc.names.lookup x with
  | none => rw [q] at h; cases h
  | some k =>
    rw [q] at h
    cases k with
    | «local» => exact .inl rfl
    | cell => exact .inr (.inl rfl)
    | free => exact .inr (.inr rfl)
    | globalExplicit => cases h
    | globalImplicit => cases h
theorem glB_ok {sc : Scope} {x : Str} (h : glB sc x = true) : sc.names.lookup x = some .globalImplicit := by
  unfold glB at h
  cases q : sc.names.lookup x with
  | none => rw [q] at h; cases h
  | some k =>
    rw [q] at h
    cases k with
    | globalImplicit => rfl
    | «local» => cases h
    | cell => cases h
    | free => cases h
    | globalExplicit => cases h
theorem star_cons {e : Expr} {es : List Expr} (env : PySem.Env) (h : isStar e = false) : starEach (e :: es) env = (false, eval e env) :: starEach es env := by
  cases e <;> first | rfl | cases h
theorem star_any {env : PySem.Env} {pos : Pos} : ∀ {es : List Expr}, noStar es = true → (backTo pos (starEach es env)).any (·.1) = false
  | [], _ => rfl
  | e :: es, h => by
    obtain ⟨h1, h2⟩ := ba h
    rw [star_cons env (nb h1)]
    show (false || (backTo pos (starEach es env)).any (·.1)) = false
    rw [star_any h2]
    rfl
theorem plainT_ok {e : Expr} {env : PySem.Env} (h : plainT e = true) (whole : Sem Value) : isTrue e env whole = (do let v ← whole; standAt e.pos; holding [v] (truthy v)) := by
  cases e with
  | UnaryOp op _ _ => cases op <;> first | rfl | cases h
  | BoolOp _ _ _ => cases h
  | IfExp _ _ _ _ => cases h
  | Compare _ _ _ _ => cases h
  | _ => rfl
theorem isSet_ok {op : CmpOp} {e : Expr} (h : isSet e = false) : behindInMarks op e = false := by
  cases e <;> first | rfl | cases h
theorem isSlc_ok {e : Expr} (h : isSlc e = false) : PlainIx e := by
  intro o i
  cases e <;> first | rfl | cases h
end

/-! ### operations -/
section
variable {G : Gd} {C : Ck} {X : Cx} {Wx : WX} {k : Nat} {call : Call} {W : Wd} {S : Store} {H : Hp} {σ : L2.St} {env : Env} {x y : V} {a b : Val} {Q : VK}
abbrev PostV (G : Gd) := @Post Val V G (RepV G)
theorem post_t {t : T} (h : PostV G Wx σ W (.ok (.t t) S) Q) (s : Sim G W S H) {v : V} (r : Rep G W.F v t) : Q v H := Post.ok h s (show RepV G W v (.t t) from r)
theorem bigI_ok {i j : Int} (h : (bigI i || bigI j) = true) : CMul i j := by
  unfold bigI at h
  simp only [Bool.or_eq_true, decide_eq_true_eq] at h
  show (-(2 ^ 64) < i ∧ i < 2 ^ 64) ∨ (-(2 ^ 64) < j ∧ j < 2 ^ 64)
  omega
theorem binA_any (h : PostV G Wx σ W (binA op a b S) Q) (s : Sim G W S H) (rx : RepV G W x a) (ry : RepV G W y b) : ∃ r : R2, OpR X (binaryOp op) r ∧ r x y H Q := by
  cases a with
  | r n => exact (show False from h).elim
  | t a =>
    cases b with
    | r n =>
      have h' : PostV G Wx σ W .bad Q := h
      exact (show False from h').elim
    | t b =>
      have rx : Rep G W.F x a := rx
      have ry : Rep G W.F y b := ry
      have h : PostV G Wx σ W (ofT (binT op a b) S) Q := h
      have no : binT op a b = none → False := fun z => by rw [z] at h; exact h
      cases a with
      | int i =>
        cases b with
        | int j =>
          cases rx
          cases ry
          have h : PostV G Wx σ W (ofT ((binI op i j).map .int) S) Q := h
          cases q : binI op i j with
          | none => rw [q] at h; exact (show False from h).elim
          | some z =>
            rw [q] at h
            have qz : Q (.int z) H := post_t h s (.int z)
            cases op with
            | Add => cases q; exact ⟨_, op_add, i, j, rfl, rfl, qz⟩
            | Sub => cases q; exact ⟨_, op_sub, i, j, rfl, rfl, qz⟩
            | Mult =>
              have q : (if bigI i || bigI j then some (i * j) else none) = some z := q
              split at q
              · rename_i c
                cases q
                exact ⟨_, op_mul, i, j, rfl, rfl, bigI_ok c, qz⟩
              · cases q
            | FloorDiv =>
              have q : (if 0 < j ∧ j.toNat < 1073741824 then some (i / j) else none) = some z := q
              split at q
              · rename_i c
                cases q
                exact ⟨_, op_fdiv, i, j, rfl, rfl, ⟨c.1, by omega⟩, qz⟩
              · cases q
            | Mod =>
              have q : (if 0 < j then some (i % j) else none) = some z := q
              split at q
              · rename_i c
                cases q
                exact ⟨_, op_mod, i, j, rfl, rfl, c, qz⟩
              · cases q
            | Pow =>
              have q : (if (0 ≤ j ∧ j.toNat ≤ 1000000) ∧ i.natAbs < 18446744073709551616 then some (i ^ j.toNat) else none) = some z := q
              split at q
              · rename_i c
                cases q
                exact ⟨_, op_pow, i, j, rfl, rfl, ⟨c.1.1, by omega, by omega⟩, qz⟩
              · cases q
            | LShift =>
              have q : (if (0 ≤ j ∧ j.toNat ≤ 1000000) ∧ i.natAbs < 18446744073709551616 then some (i * 2 ^ j.toNat) else none) = some z := q
              split at q
              · rename_i c
                cases q
                exact ⟨_, op_shl, i, j, rfl, rfl, ⟨c.1.1, by omega, by omega⟩, qz⟩
              · cases q
            | RShift =>
              have q : (if 0 ≤ j then some (i / 2 ^ j.toNat) else none) = some z := q
              split at q
              · rename_i c
                cases q
                exact ⟨_, op_shr, i, j, rfl, rfl, c, qz⟩
              · cases q
            | BitAnd => cases q; exact ⟨_, op_and, i, j, rfl, rfl, qz⟩
            | BitOr => cases q; exact ⟨_, op_or, i, j, rfl, rfl, qz⟩
            | BitXor => cases q; exact ⟨_, op_xor, i, j, rfl, rfl, qz⟩
            | MatMult => cases q
            | Div => cases q
        | _ => exact (no rfl).elim
      | str u =>
        cases b with
        | str v =>
          cases rx
          cases ry
          have h2 : PostV G Wx σ W (ofT (if op = .Add ∧ u.length + v.length ≤ szLine then some (.str (u ++ v)) else none) S) Q := h
          by_cases c : op = .Add ∧ u.length + v.length ≤ szLine
          · rw [if_pos c] at h2
            obtain ⟨c1, c2⟩ := c
            subst c1
            exact ⟨_, op_add_str, u, v, rfl, rfl, c2, post_t h2 s (.str _)⟩
          · rw [if_neg c] at h2
            exact (show False from h2).elim
        | _ => exact (no rfl).elim
      | _ => exact (no rfl).elim
/-- what is peeked stands in the heap -/
theorem allT_rep : ∀ {ws : List Val} {xs : List T} {vs : List V}, Paired (RepV G W) vs ws → allT ws = some xs → RepL G W.F vs xs
  | [], _, _, r, e => by
    cases r
    cases e
    exact .nil
  | .t x :: ws, _, _, r, e => by
    cases r with
    | cons r rr =>
      have e1 : (allT ws).map (x :: ·) = some _ := e
      obtain ⟨ys, e2, e3⟩ := Option.map_eq_some_iff.mp e1
      subst e3
      exact .cons r (allT_rep rr e2)
  | .r n :: ws, _, _, _, e => by cases e
theorem lst_rep {xs : List T} (s : Sim G W S H) (r : RepV G W x a) (e : lstT S a = some xs) : ∃ p vs, x = .ref p ∧ H p = some (.lst vs) ∧ RepL G W.F vs xs := by
  cases a with
  | t u =>
    cases u with
    | lst ys =>
      cases e
      cases r with
      | lst hF r => exact ⟨_, _, rfl, s.fz _ _ hF, r⟩
    | _ => cases e
  | r n =>
    obtain ⟨hn, ex⟩ := r
    subst ex
    have e1 : (match S[n]? with
      | some (.lst vs) => allT vs
      | _ => none) = some xs := e
    cases q : S[n]? with
    | none => rw [q] at e1; cases e1
    | some c =>
      rw [q] at e1
      cases c with
      | lst ws =>
        obtain ⟨_, _, o, ho, ok⟩ := s.live n _ q (by intro z; cases z)
        cases ok with
        | lst hp => exact ⟨_, _, rfl, ho, allT_rep hp e1⟩
      | dead => cases e1
      | ins _ _ => cases e1
      | dct _ => cases e1
theorem RepL.app {F : Hp} : ∀ {xs ys : List T} {vs us : List V}, RepL G F vs xs → RepL G F us ys → RepL G F (vs ++ us) (xs ++ ys)
  | [], _, _, _, r, q => by cases r; exact q
  | x :: xs, _, _, _, r, q => by
    cases r with
    | cons h r => exact .cons h (r.app q)
theorem RepL.rep {F : Hp} {xs : List T} {vs : List V} (r : RepL G F vs xs) : ∀ n, RepL G F (List.replicate n vs).flatten (List.replicate n xs).flatten
  | 0 => .nil
  | n + 1 => by
    rw [List.replicate_succ, List.flatten_cons, List.replicate_succ, List.flatten_cons]
    exact r.app (r.rep n)
/-- a new tree of a list -/
theorem new_lst {xs : List T} {vs : List V} (h : PostV G Wx σ W (.ok (.t (.lst xs)) S) Q) (s : Sim G W S H) (r : RepL G W.F vs xs) : ∀ p, H p = none → Q (.ref p) (upd H p (.lst vs)) := fun p hp => by
  refine h (W.addF p (.lst vs)) (.ref p) _ (Wd.le_addF s hp _) (s.addF hp _) ?_
  exact .lst upd_same (RepL.mono (Wd.le_addF s hp _).f xs vs r)
theorem new_tup {xs : List T} {vs : List V} (h : PostV G Wx σ W (.ok (.t (.tup xs)) S) Q) (s : Sim G W S H) (r : RepL G W.F vs xs) : ∀ p, H p = none → Q (.ref p) (upd H p (.tup vs)) := fun p hp => by
  refine h (W.addF p (.tup vs)) (.ref p) _ (Wd.le_addF s hp _) (s.addF hp _) ?_
  exact .tup (.inl (.inl upd_same)) (RepL.mono (Wd.le_addF s hp _).f xs vs r)
theorem peek_rep {t : T} (s : Sim G W S H) (r : RepV G W x a) (e : peek S a = some t) : Rep G H x t := by
  cases a with
  | t u =>
    cases e
    exact Rep.mono s.fz t x r
  | r n =>
    obtain ⟨hn, ex⟩ := r
    subst ex
    have e1 : (match S[n]? with
      | some (.lst vs) => (allT vs).map .lst
      | _ => none) = some t := e
    cases q : S[n]? with
    | none => rw [q] at e1; cases e1
    | some c =>
      rw [q] at e1
      cases c with
      | lst ws =>
        obtain ⟨xs, e2, e3⟩ := Option.map_eq_some_iff.mp e1
        subst e3
        obtain ⟨_, _, o, ho, ok⟩ := s.live n _ q (by intro z; cases z)
        cases ok with
        | lst hp => exact .lst ho (RepL.mono s.fz xs _ (allT_rep hp e2))
      | dead => cases e1
      | ins _ _ => cases e1
      | dct _ => cases e1
theorem op_eqP (hu : X.A.units + 64 < cLine) : OpR X (compareOp .Eq) (fun x y H Q => ∃ d e, Dp X.K H x d ∧ Dp X.K H y e ∧ d.plain = true ∧ e.plain = true ∧ min d.depth e.depth ≤ 60 ∧ Q (.bl (PyData.eqv d e)) H) := by
  intro pins s σ H x y v u Q I rx ry ⟨d, e, hd, he, pd, pe, hm, q⟩
  obtain ⟨as, r1⟩ := Dp.reads I d x v hd rx
  obtain ⟨bs, r2⟩ := Dp.reads I e y u he ry
  exact PySem.SeqAt.eq_plain r1 r2 pd pe (by omega) ⟨.bl _, H, I, rfl, q⟩
theorem op_neP (hu : X.A.units + 64 < cLine) : OpR X (compareOp .NotEq) (fun x y H Q => ∃ d e, Dp X.K H x d ∧ Dp X.K H y e ∧ d.plain = true ∧ e.plain = true ∧ min d.depth e.depth ≤ 60 ∧ Q (.bl (!PyData.eqv d e)) H) := by
  intro pins s σ H x y v u Q I rx ry ⟨d, e, hd, he, pd, pe, hm, q⟩
  obtain ⟨as, r1⟩ := Dp.reads I d x v hd rx
  obtain ⟨bs, r2⟩ := Dp.reads I e y u he ry
  exact PySem.SeqAt.ne_plain r1 r2 pd pe (by omega) ⟨.bl _, H, I, rfl, q⟩
theorem op_inL (hu : X.A.units + 64 < cLine) (neg : Bool) : OpR X (compareOp (if neg then .NotIn else .In)) (fun x y H Q => ∃ d ds, Dp X.K H x d ∧ Dp X.K H y (.list ds) ∧ d.plain = true ∧ PyData.plainAll ds = true ∧ min (PyData.depthAll ds) d.depth ≤ 60 ∧
    Q (.bl (if neg then !ds.any (fun y => PyData.eqv y d) else ds.any fun y => PyData.eqv y d)) H) := by
  intro pins s σ H x y v u Q I rx ry ⟨d, ds, hd, he, pd, pe, hm, q⟩
  obtain ⟨as, r1⟩ := Dp.reads I d x v hd rx
  obtain ⟨bs, r2⟩ := Dp.reads I (.list ds) y u he ry
  cases neg with
  | false => exact PySem.SeqAt.in_list_data r2 r1 pe pd (by omega) ⟨.bl _, H, I, rfl, q⟩
  | true => exact PySem.SeqAt.notIn_list_data r2 r1 pe pd (by omega) ⟨.bl _, H, I, rfl, q⟩
theorem op_inU (hu : X.A.units + 64 < cLine) (neg : Bool) : OpR X (compareOp (if neg then .NotIn else .In)) (fun x y H Q => ∃ d ds, Dp X.K H x d ∧ Dp X.K H y (.tuple ds) ∧ d.plain = true ∧ PyData.plainAll ds = true ∧ min (PyData.depthAll ds) d.depth ≤ 60 ∧
    Q (.bl (if neg then !ds.any (fun y => PyData.eqv y d) else ds.any fun y => PyData.eqv y d)) H) := by
  intro pins s σ H x y v u Q I rx ry ⟨d, ds, hd, he, pd, pe, hm, q⟩
  obtain ⟨as, r1⟩ := Dp.reads I d x v hd rx
  obtain ⟨bs, r2⟩ := Dp.reads I (.tuple ds) y u he ry
  cases neg with
  | false => exact PySem.SeqAt.in_tuple_data r2 r1 pe pd (by omega) ⟨.bl _, H, I, rfl, q⟩
  | true => exact PySem.SeqAt.notIn_tuple_data r2 r1 pe pd (by omega) ⟨.bl _, H, I, rfl, q⟩
theorem cr_range1 : CallR X (.type "range") (fun vs H Q => ∃ j, vs = [V.int j] ∧ ∀ p, H p = none → Q (.ref p) (upd H p (.rng 0 j))) := by
  intro pins s σ H vs us Q I r h
  obtain ⟨j, rfl, q⟩ := h
  obtain ⟨u1, rfl, ri⟩ := r.one
  obtain ⟨t, rfl⟩ := ri
  refine PySem.call_range_1 ⟨.ref s.heap.objs.size, upd H s.heap.objs.size (.rng 0 j), I.laid (t' := s.toks + 1 + 1) (fun b o e => Heap.get?_push_of_some _ e) (Nat.le_refl _) ?_, rfl, q _ (I.hok.fresh (Nat.le_refl _))⟩
  exact ⟨_, _, _, Heap.get?_push_size _ rfl⟩
theorem op_rg (neg : Bool) : OpR X (compareOp (if neg then .NotIn else .In)) (fun x y H Q => ∃ i a lo hi, x = V.int i ∧ y = V.ref a ∧ H a = some (.rng lo hi) ∧ Q (.bl (if neg then !decide (lo ≤ i ∧ i < hi) else decide (lo ≤ i ∧ i < hi))) H) := by
  cases neg with
  | false => exact op_in_rng
  | true =>
    intro pins s σ H x y v u Q I rx ry h
    obtain ⟨i, a, lo, hi, rfl, rfl, ha, q⟩ := h
    obtain ⟨k, rfl⟩ := rx
    obtain rfl : u = Value.ref a := ry
    obtain ⟨t1, t2, t3, ho⟩ := I.hok a _ ha
    show wpAny _ _ (do return Value.bool (!(← contains (Value.ref a) (Value.int i k)))) _ _ s
    refine wpAny_bind (wpAny_contains_slot (T := "range") ⟨_, ho, rfl⟩ F.slot_range_contains (call_meets F.slot_range_contains ⟨_, ho, rfl⟩ F.entry_range_contains (F.args_range_contains_2 _ _) (q_contains a lo hi i t1 t2 t3 k)
      ⟨ho, wpAny_truthy_bool (wpAny_pure ⟨.bl _, H, I, rfl, ?_⟩)⟩))
    rw [place1]
    exact q
theorem isNon_iff {t : T} (r : Rep G H x t) : decide (x = .non) = isNon t := by
  cases r <;> rfl
theorem eqT_some {t u : T} {k : Bool} (e : eqT t u = some k) : ∃ d f, t.py = some d ∧ u.py = some f ∧ min d.depth f.depth ≤ 60 ∧ k = PyData.eqv d f := by
  unfold eqT at e
  split at e
  · rename_i d f h1 h2
    split at e
    · rename_i c
      cases e
      exact ⟨d, f, h1, h2, c, rfl⟩
    · cases e
  · cases e
theorem in_any (hK : X.K = G.K) (hu : X.A.units + 64 < cLine) {t u : T} {k : Bool} (neg : Bool) (e : inT t u = some k) (rx : Rep G H x t) (ry : Rep G H y u) (q : Q (.bl (if neg then !k else k)) H) :
    ∃ r : R2, OpR X (compareOp (if neg then .NotIn else .In)) r ∧ r x y H Q := by
  unfold inT at e
  split at e
  · rename_i d xs h1
    obtain ⟨ds, e1, e2⟩ := Option.bind_eq_some_iff.mp e
    split at e2
    · rename_i c
      cases e2
      refine ⟨_, op_inL hu neg, d, ds, by rw [hK]; exact Rep.dp t x d rx h1, by rw [hK]; exact Rep.dp (.lst xs) y (.list ds) ry (by show (T.pys xs).map PyData.list = _; rw [e1]; rfl), py_plain t d h1, pys_plain xs ds e1, c, q⟩
    · cases e2
  · rename_i d xs h1
    obtain ⟨ds, e1, e2⟩ := Option.bind_eq_some_iff.mp e
    split at e2
    · rename_i c
      cases e2
      refine ⟨_, op_inU hu neg, d, ds, by rw [hK]; exact Rep.dp t x d rx h1, by rw [hK]; exact Rep.dp (.tup xs) y (.tuple ds) ry (by show (T.pys xs).map PyData.tuple = _; rw [e1]; rfl), py_plain t d h1, pys_plain xs ds e1, c, q⟩
    · cases e2
  · cases t with
    | str z =>
      cases rx
      cases ry
      cases e
      cases neg with
      | false => exact ⟨_, op_in_str, _, _, rfl, rfl, q⟩
      | true => exact ⟨_, op_notin_str, _, _, rfl, rfl, q⟩
    | _ => cases e
  · cases e
theorem cmpW_any (hK : X.K = G.K) (hu : X.A.units + 64 < cLine) (h : PostV G Wx σ W (cmpW op a b S) Q) (s : Sim G W S H) (rx : RepV G W x a) (ry : RepV G W y b) : ∃ r : R2, OpR X (compareOp op) r ∧ r x y H Q := by
  unfold cmpW at h
  cases e1 : peek S a with
  | none => rw [e1] at h; exact (show False from h).elim
  | some t =>
    cases e2 : peek S b with
    | none => rw [e1, e2] at h; exact (show False from h).elim
    | some u =>
      rw [e1, e2] at h
      have rt := peek_rep s rx e1
      have ru := peek_rep s ry e2
      have h : PostV G Wx σ W (ofT ((cmpT op t u).map .bl) S) Q := h
      cases e : cmpT op t u with
      | none => rw [e] at h; exact (show False from h).elim
      | some k =>
        rw [e] at h
        have q : Q (.bl k) H := post_t h s (.bl k)
        have ord : ∀ {op : CmpOp}, ordO op t u = some k → ∃ i j, x = .int i ∧ y = .int j ∧ k = ordT op i j := fun {op} e => by
          cases t with
          | int i =>
            cases u with
            | int j =>
              cases rt
              cases ru
              cases e
              exact ⟨i, j, rfl, rfl, rfl⟩
            | _ => cases e
          | _ => cases e
        cases op with
        | Eq =>
          obtain ⟨d, f, h1, h2, c, e3⟩ := eqT_some e
          subst e3
          exact ⟨_, op_eqP hu, d, f, by rw [hK]; exact Rep.dp t x d rt h1, by rw [hK]; exact Rep.dp u y f ru h2, py_plain t d h1, py_plain u f h2, c, q⟩
        | NotEq =>
          obtain ⟨k', e4, e5⟩ := Option.map_eq_some_iff.mp (show (eqT t u).map not = some k from e)
          obtain ⟨d, f, h1, h2, c, e3⟩ := eqT_some e4
          subst e3 e5
          exact ⟨_, op_neP hu, d, f, by rw [hK]; exact Rep.dp t x d rt h1, by rw [hK]; exact Rep.dp u y f ru h2, py_plain t d h1, py_plain u f h2, c, q⟩
        | In => exact in_any hK hu false (show inT t u = some k from e) rt ru q
        | NotIn =>
          obtain ⟨k', e4, e5⟩ := Option.map_eq_some_iff.mp (show (inT t u).map not = some k from e)
          subst e5
          exact in_any hK hu true e4 rt ru q
        | Is =>
          have e3 : (if isNon u then some (isNon t) else isB t u) = some k := e
          split at e3
          · rename_i c
            cases e3
            have : y = .non := of_decide_eq_true ((isNon_iff ru).trans c)
            exact ⟨_, op_isN, this, by rw [isNon_iff rt]; exact q⟩
          · cases t with
            | bl i =>
              cases u with
              | bl j =>
                cases rt
                cases ru
                cases e3
                rw [show (i == j) = decide (i = j) from Bool.beq_eq_decide_eq i j] at q
                exact ⟨_, op_isBl, i, j, rfl, rfl, q⟩
              | _ => cases e3
            | _ => cases e3
        | IsNot =>
          have e3 : (if isNon u then some (!isNon t) else none) = some k := e
          split at e3
          · rename_i c
            cases e3
            have : y = .non := of_decide_eq_true ((isNon_iff ru).trans c)
            exact ⟨_, op_notN, this, by rw [isNon_iff rt]; exact q⟩
          · cases e3
        | Lt =>
          obtain ⟨i, j, e3, e4, e5⟩ := ord (op := .Lt) e
          exact ⟨_, op_lt, i, j, e3, e4, by rw [e5] at q; exact q⟩
        | LtE =>
          obtain ⟨i, j, e3, e4, e5⟩ := ord (op := .LtE) e
          exact ⟨_, op_le, i, j, e3, e4, by rw [e5] at q; exact q⟩
        | Gt =>
          obtain ⟨i, j, e3, e4, e5⟩ := ord (op := .Gt) e
          exact ⟨_, op_gt, i, j, e3, e4, by rw [e5] at q; exact q⟩
        | GtE =>
          obtain ⟨i, j, e3, e4, e5⟩ := ord (op := .GtE) e
          exact ⟨_, op_ge, i, j, e3, e4, by rw [e5] at q; exact q⟩
theorem cmp_any (hK : X.K = G.K) (hu : X.A.units + 64 < cLine) (h : PostV G Wx σ W (cmpV op a b S) Q) (s : Sim G W S H) (rx : RepV G W x a) (ry : RepV G W y b) : ∃ r : R2, OpR X (compareOp op) r ∧ r x y H Q := by
  unfold cmpV at h
  split at h
  · obtain ⟨_, ex⟩ := rx
    subst ex
    cases ry
    exact ⟨_, op_isN, rfl, by rw [decide_eq_false (by intro z; cases z)]; exact post_t h s (.bl false)⟩
  · obtain ⟨_, ex⟩ := rx
    subst ex
    cases ry
    exact ⟨_, op_notN, rfl, by rw [decide_eq_false (by intro z; cases z)]; exact post_t h s (.bl true)⟩
  · exact cmpW_any hK hu h s rx ry
theorem isE_eq {α β : Type} : ∀ {l : List α} {m : List β}, l.length = m.length → l.isEmpty = m.isEmpty
  | [], [], _ => rfl
  | _ :: _, _ :: _, _ => rfl
  | [], _ :: _, h => by cases h
  | _ :: _, [], h => by cases h
theorem truV_st {γ δ : Type} {rep : Wd → δ → γ → Prop} {f : Bool → Store → R γ} {Q : δ → Hp → Prop} (h : Post G rep Wx σ W ((truV a S).bind f) Q) (s : Sim G W S H) (rx : RepV G W x a) : ∃ k, TruV G.K x H k ∧ Post G rep Wx σ W (f k S) Q := by
  cases a with
  | r n =>
    obtain ⟨hn, ex⟩ := rx
    subst ex
    have h : Post G rep Wx σ W ((match S[n]? with
      | some (.lst vs) => R.ok (!vs.isEmpty) S
      | _ => .bad).bind f) Q := h
    cases q : S[n]? with
    | none => rw [q] at h; exact (show False from h).elim
    | some c =>
      rw [q] at h
      cases c with
      | lst vs =>
        obtain ⟨_, _, o, ho, ok⟩ := s.live n _ q (by intro z; cases z)
        cases ok with
        | lst hp => exact ⟨_, .inl ⟨_, .of ho, rfl⟩, by rw [isE_eq hp.length]; exact h⟩
      | _ => exact (show False from h).elim
  | t t =>
    have h : Post G rep Wx σ W ((ofO (truT t) S).bind f) Q := h
    have no : truT t = none → False := fun z => by rw [z] at h; exact h
    cases t with
    | bl k =>
      cases rx
      exact ⟨k, rfl, h⟩
    | non =>
      cases rx
      exact ⟨false, rfl, h⟩
    | int i =>
      cases rx
      exact ⟨_, rfl, h⟩
    | str y =>
      cases rx
      have h : Post G rep Wx σ W ((ofO (if y.length ≤ szLine then some ((y.length : Int) != 0) else none) S).bind f) Q := h
      by_cases c : y.length ≤ szLine
      · rw [if_pos c] at h
        exact ⟨_, ⟨c, rfl⟩, h⟩
      · rw [if_neg c] at h
        exact (show False from h).elim
    | tup xs =>
      cases rx with
      | tup hF r => exact ⟨_, .inr (.inl ⟨_, sameT s.fz hF, rfl⟩), by rw [isE_eq r.length]; exact h⟩
    | lst xs =>
      cases rx with
      | lst hF r => exact ⟨_, .inl ⟨_, .of (s.fz _ _ hF), rfl⟩, by rw [isE_eq r.length]; exact h⟩
    | scr ns =>
      cases rx with
      | scr hF => exact ⟨_, .inl ⟨_, s.fz.seq hF, rfl⟩, by rw [isE_eq (List.length_map _)]; exact h⟩
    | _ => exact (no rfl).elim
theorem tru_post {Q : Bool → Hp → Prop} (h : Post G (fun _ (b c : Bool) => b = c) Wx σ W (truV a S) Q) (s : Sim G W S H) (rx : RepV G W x a) : ∃ k, TruV G.K x H k ∧ Q k H := by
  have h2 : Post G (fun _ (b c : Bool) => b = c) Wx σ W ((truV a S).bind fun k S => .ok k S) Q := by
    cases z : truV a S with
    | ok k S2 => rw [z] at h; exact h
    | ex x S2 => rw [z] at h; exact h
    | bad => rw [z] at h; exact h
  obtain ⟨k, h3, h4⟩ := truV_st h2 s rx
  exact ⟨k, h3, Post.ok (rep := fun _ (b c : Bool) => b = c) h4 s rfl⟩
theorem alloc_post {m : Bool} {ws : List Val} {vs : List V} (h : PostV G Wx σ W (alloc m ws S) Q) (s : Sim G W S H) (r : Paired (RepV G W) vs ws) : vs.length ≤ sizeLine ∧ ∀ p, H p = none → Q (.ref p) (upd H p (.lst vs)) := by
  unfold alloc at h
  by_cases c : ws.length ≤ szLine
  · rw [if_pos c] at h
    refine ⟨by rw [r.length]; exact c, fun p hp => ?_⟩
    cases m with
    | true =>
      have h : PostV G Wx σ W (.ok (.r S.length) (S ++ [.lst ws])) Q := h
      refine h (W.addC p) (.ref p) _ (Wd.le_addC W p) (s.addC hp (.lst r)) ⟨?_, ?_⟩
      · show S.length < W.n + 1
        rw [s.len]
        exact Nat.lt_succ_self _
      · show V.ref p = V.ref (if S.length = W.n then p else _)
        rw [if_pos s.len]
    | false =>
      have h : PostV G Wx σ W (match allT ws with
        | some xs => .ok (.t (.lst xs)) S
        | none => .bad) Q := h
      cases e : allT ws with
      | none => rw [e] at h; exact (show False from h).elim
      | some xs =>
        rw [e] at h
        refine h (W.addF p (.lst vs)) (.ref p) _ (Wd.le_addF s hp _) (s.addF hp _) ?_
        exact .lst upd_same (RepL.mono (Wd.le_addF s hp _).f xs vs (allT_rep r e))
  · rw [if_neg c] at h
    exact (show False from h).elim
theorem vals_repL {vs : List V} : ∀ {xs : List T} {vs : List V}, RepL G W.F vs xs → Paired (RepV G W) vs (xs.map .t)
  | [], _, r => by cases r; exact .nil
  | x :: xs, _, r => by
    cases r with
    | cons h r => exact .cons (show RepV G W _ (.t x) from h) (vals_repL (vs := []) r)
theorem alloc_len {m : Bool} {ws : List Val} (h : PostV G Wx σ W (alloc m ws S) Q) : ws.length ≤ szLine := by
  unfold alloc at h
  split at h
  · assumption
  · exact (show False from h).elim
theorem flat_len {α : Type} (xs : List α) : ∀ n, (List.replicate n xs).flatten.length = xs.length * n
  | 0 => rfl
  | n + 1 => by rw [List.replicate_succ, List.flatten_cons, List.length_append, flat_len xs n, Nat.mul_succ, Nat.add_comm]
theorem lstV_rep {ws : List Val} (s : Sim G W S H) (r : RepV G W x a) (e : lstV S a = some ws) : ∃ p vs, x = .ref p ∧ H p = some (.lst vs) ∧ Paired (RepV G W) vs ws := by
  cases a with
  | t u =>
    cases u with
    | lst xs =>
      cases e
      cases r with
      | lst hF r => exact ⟨_, _, rfl, s.fz _ _ hF, vals_repL (vs := []) r⟩
    | _ => cases e
  | r n =>
    obtain ⟨hn, ex⟩ := r
    subst ex
    have e1 : (match S[n]? with
      | some (.lst vs) => some vs
      | _ => none) = some ws := e
    cases q : S[n]? with
    | none => rw [q] at e1; cases e1
    | some c =>
      rw [q] at e1
      cases c with
      | lst us =>
        cases e1
        obtain ⟨_, _, o, ho, ok⟩ := s.live n _ q (by intro z; cases z)
        cases ok with
        | lst hp => exact ⟨_, _, rfl, ho, hp⟩
      | dead => cases e1
      | ins _ _ => cases e1
      | dct _ => cases e1
theorem Paired.app2 {α β : Type} {P : α → β → Prop} {us : List α} {ws : List β} (q : Paired P us ws) : ∀ {xs : List α} {ys : List β}, Paired P xs ys → Paired P (xs ++ us) (ys ++ ws)
  | _, _, .nil => q
  | _, _, .cons r t => .cons r (Paired.app2 q t)
theorem Paired.rep2 {α β : Type} {P : α → β → Prop} {us : List α} {ws : List β} (q : Paired P us ws) : ∀ n, Paired P (List.replicate n us).flatten (List.replicate n ws).flatten
  | 0 => .nil
  | n + 1 => by
    rw [List.replicate_succ, List.replicate_succ, List.flatten_cons, List.flatten_cons]
    exact Paired.app2 (Paired.rep2 q n) q
theorem binL_any {m : Bool} (h : PostV G Wx σ W (binL m op a b S) Q) (s : Sim G W S H) (rx : RepV G W x a) (ry : RepV G W y b) : ∃ r : R2, OpR X (binaryOp op) r ∧ r x y H Q := by
  have no : ∀ {P : Prop}, PostV G Wx σ W .bad Q → P := fun z => (show False from z).elim
  unfold binL at h
  cases e : lstV S a with
  | none => rw [e] at h; exact no h
  | some xs =>
    rw [e] at h
    obtain ⟨p, vs, rfl, hp, r1⟩ := lstV_rep s rx e
    cases op with
    | Add =>
      have h : PostV G Wx σ W (match lstV S b with
        | some ys => alloc m (xs ++ ys) S
        | none => .bad) Q := h
      cases e2 : lstV S b with
      | none => rw [e2] at h; exact no h
      | some ys =>
        rw [e2] at h
        obtain ⟨q, us, rfl, hq, r2⟩ := lstV_rep s ry e2
        have h : PostV G Wx σ W (alloc m (xs ++ ys) S) Q := h
        have c := alloc_len h
        rw [List.length_append] at c
        exact ⟨_, op_cat, p, q, vs, us, rfl, rfl, hp, hq, by rw [Paired.length r1, Paired.length r2]; exact c, (alloc_post h s (Paired.app2 r2 r1)).2⟩
    | Mult =>
      cases b with
      | r n => exact no h
      | t u =>
        cases u with
        | int k =>
          cases ry
          have h : PostV G Wx σ W (if k.natAbs < 9223372036854775808 then alloc m (List.replicate k.toNat xs).flatten S else .bad) Q := h
          split at h
          · rename_i c
            have c2 := alloc_len h
            rw [flat_len] at c2
            exact ⟨_, op_rep, p, k, vs, rfl, rfl, hp, by omega, by omega, by rw [Paired.length r1]; exact c2, (alloc_post h s (Paired.rep2 r1 k.toNat)).2⟩
          · exact no h
        | _ => exact no h
    | _ => exact no h
theorem RepL.app2 {F : Hp} : ∀ {xs ys : List T} {vs us : List V}, RepL G F vs xs → RepL G F us ys → RepL G F (vs ++ us) (xs ++ ys)
  | [], _, _, _, h, k => by cases h; exact k
  | x :: xs, _, _, _, h, k => by
    cases h with
    | cons h r => exact .cons h (RepL.app2 r k)
theorem catT_any (hK : X.K = G.K) (h : PostV G Wx σ W (catT op a b S) Q) (s : Sim G W S H) (rx : RepV G W x a) (ry : RepV G W y b) : ∃ r : R2, OpR X (binaryOp op) r ∧ r x y H Q := by
  unfold catT at h
  split at h
  · rename_i us ws
    cases rx with
    | @tup pa va _ hx rlx =>
    cases ry with
    | @tup pb vb _ hy rly =>
    split at h
    · rename_i c2
      refine ⟨_, op_catA, pa, pb, va, vb, rfl, rfl, by rw [hK]; exact sameT s.fz hx, by rw [hK]; exact sameT s.fz hy, by rw [rlx.length, rly.length]; exact c2, fun e => ?_, fun e1 e2 => ?_, fun e1 e2 p hp => ?_⟩
      · subst e
        cases us with
        | nil => exact post_t h s (.tup hy rly)
        | cons _ _ => cases rlx
      · subst e2
        cases ws with
        | nil => rw [List.append_nil] at h; exact post_t h s (.tup hx rlx)
        | cons _ _ => cases rly
      · exact h (W.addF p (.tup (va ++ vb))) (.ref p) _ (Wd.le_addF s hp _) (s.addF hp _) (.tup (.inl (.inl upd_same)) (RepL.mono (Wd.le_addF s hp _).f _ _ (RepL.app2 rlx rly)))
    · exact (show False from h).elim
  · exact (show False from h).elim
theorem bin_any (hK : X.K = G.K) (h : PostV G Wx σ W (binV op a b S) Q) (s : Sim G W S H) (rx : RepV G W x a) (ry : RepV G W y b) : ∃ r : R2, OpR X (binaryOp op) r ∧ r x y H Q := by
  unfold binV at h
  split at h
  · exact binL_any h s rx ry
  · split at h
    · exact catT_any hK h s rx ry
    · exact binA_any h s rx ry
theorem tup_post {ws : List Val} {vs : List V} (h : PostV G Wx σ W (if ws.length ≤ szLine then ofT ((allT ws).map .tup) S else .bad) Q) (s : Sim G W S H) (r : Paired (RepV G W) vs ws) : vs.length ≤ sizeLine ∧ ∀ p, H p = none → Q (.ref p) (upd H p (.tup vs)) := by
  by_cases c : ws.length ≤ szLine
  · rw [if_pos c] at h
    refine ⟨by rw [r.length]; exact c, fun p hp => ?_⟩
    cases e : allT ws with
    | none => rw [e] at h; exact (show False from h).elim
    | some xs =>
      rw [e] at h
      have h : PostV G Wx σ W (.ok (.t (.tup xs)) S) Q := h
      refine h (W.addF p (.tup vs)) (.ref p) _ (Wd.le_addF s hp _) (s.addF hp _) ?_
      exact .tup (.inl (.inl upd_same)) (RepL.mono (Wd.le_addF s hp _).f xs vs (allT_rep r e))
  · rw [if_neg c] at h
    exact (show False from h).elim
theorem ix_eq (n : Nat) (i : Int) : ixN n i = ix n i := rfl
theorem atI_eq {α : Type} (xs : List α) (i : Int) : atI xs i = atL xs i := rfl
theorem atL_ex {α : Type} {xs : List α} {i : Int} {v : α} (h : atL xs i = some v) : ∃ j, ix xs.length i = some j ∧ xs[j]? = some v := Option.bind_eq_some_iff.mp h
theorem atL_rep {xs : List T} {vs : List V} {F : Hp} {i : Int} {t : T} (r : RepL G F vs xs) (h : atL xs i = some t) : ∃ v, atI vs i = some v ∧ Rep G F v t := by
  obtain ⟨j, h1, h2⟩ := atL_ex h
  obtain ⟨v, h3, h4⟩ := r.get h2
  refine ⟨v, ?_, h4⟩
  unfold atI
  rw [ix_eq, r.length, h1]
  exact h3
theorem Paired.get {α β : Type} {P : α → β → Prop} : ∀ {xs : List α} {ys : List β} {i : Nat} {y : β}, Paired P xs ys → ys[i]? = some y → ∃ x, xs[i]? = some x ∧ P x y
  | _, _, _, _, .nil, e => by simp at e
  | _, _, 0, y, .cons r _, e => by
    simp at e
    subst e
    exact ⟨_, rfl, r⟩
  | _, _, i + 1, y, .cons _ t, e => by
    obtain ⟨x, h1, h2⟩ := Paired.get (i := i) t (by simpa using e)
    exact ⟨x, by simpa using h1, h2⟩
/-! dicts -/
theorem keyEq_eq : ∀ (a b : Key), keyEq a b = decide (a = b)
  | .inl i, .inl j => by
    show (i == j) = _
    by_cases e : i = j
    · subst e; rw [beq_self_eq_true, decide_eq_true rfl]
    · rw [beq_eq_false_iff_ne.mpr e, decide_eq_false fun z => e (Sum.inl.inj z)]
  | .inr x, .inr y => by
    show (x == y) = _
    by_cases e : x = y
    · subst e; rw [beq_self_eq_true, decide_eq_true rfl]
    · rw [beq_eq_false_iff_ne.mpr e, decide_eq_false fun z => e (Sum.inr.inj z)]
  | .inl _, .inr _ => (decide_eq_false fun z => nomatch z).symm
  | .inr _, .inl _ => (decide_eq_false fun z => nomatch z).symm
abbrev DR (G : Gd) (W : Wd) : (Key × V) → (Key × Val) → Prop := fun p q => p.1 = q.1 ∧ RepV G W p.2 q.2
theorem lookK_rel {k : Key} : ∀ {gs : List (Key × V)} {kvs : List (Key × Val)}, Paired (DR G W) gs kvs → ∀ {v : Val}, lookK kvs k = some v → ∃ x, valV gs k = some x ∧ RepV G W x v
  | _, _, .nil, _, h => nomatch h
  | _, _, .cons (a := p) (b := q) (l₁ := gs) (l₂ := kvs) r rr, v, h => by
    obtain ⟨e1, r1⟩ := r
    have h : (if keyEq q.1 k then some q.2 else lookK kvs k) = some v := h
    rw [keyEq_eq] at h
    by_cases e : q.1 = k
    · rw [if_pos (decide_eq_true e)] at h
      cases h
      exact ⟨p.2, valV_pos (e1.trans e), r1⟩
    · rw [if_neg (by rw [decide_eq_false e]; exact Bool.false_ne_true)] at h
      rw [valV_neg fun z => e (e1.symm.trans z)]
      exact lookK_rel rr h
theorem lookK_repD {F : Hp} {k : Key} : ∀ {gs : List (Key × V)} {fs : List (Key × T)}, RepD G F gs fs → ∀ {t : T}, lookK fs k = some t → ∃ x, valV gs k = some x ∧ Rep G F x t
  | _, _, .nil, _, h => nomatch h
  | _, _, .cons (v := v0) (k := k0) (x := x0) (vs := gs) (xs := fs) r rr, t, h => by
    have h : (if keyEq k0 k then some x0 else lookK fs k) = some t := h
    rw [keyEq_eq] at h
    by_cases e : k0 = k
    · rw [if_pos (decide_eq_true e)] at h
      cases h
      exact ⟨v0, valV_pos (p := (k0, v0)) e, r⟩
    · rw [if_neg (by rw [decide_eq_false e]; exact Bool.false_ne_true)] at h
      rw [valV_neg (p := (k0, v0)) e]
      exact lookK_repD rr h
theorem putKV_rel {gs : List (Key × V)} {kvs : List (Key × Val)} (r : Paired (DR G W) gs kvs) (k : Key) {x : V} {v : Val} (rv : RepV G W x v) : Paired (DR G W) (putK gs k x) (putKV kvs k v) := by
  have e : (gs.any fun kv => decide (kv.1 = k)) = kvs.any fun p => keyEq p.1 k := by
    induction r with
    | nil => rfl
    | cons h t ih => rw [List.any_cons, List.any_cons, ih, keyEq_eq, h.1]
  have m : Paired (DR G W) (gs.map fun kv => if kv.1 = k then (kv.1, x) else kv) (kvs.map fun p => if keyEq p.1 k then (p.1, v) else p) := by
    clear e
    induction r with
    | nil => exact .nil
    | @cons p q _ _ h t ih =>
      rw [List.map_cons, List.map_cons]
      refine .cons ?_ ih
      rw [keyEq_eq]
      by_cases z : p.1 = k
      · rw [if_pos z, if_pos (decide_eq_true (h.1.symm.trans z))]
        exact ⟨h.1, rv⟩
      · rw [if_neg z, if_neg (by rw [decide_eq_false fun y => z (h.1.trans y)]; exact Bool.false_ne_true)]
        exact h
  unfold putK putKV
  rw [e]
  split
  · exact m
  · exact Paired.snoc r ⟨rfl, rv⟩
theorem mergeKV_rel : ∀ {ms : List (Key × V)} {more : List (Key × Val)}, Paired (DR G W) ms more → ∀ {gs : List (Key × V)} {kvs : List (Key × Val)}, Paired (DR G W) gs kvs → Paired (DR G W) (mergeK gs ms) (mergeKV kvs more)
  | _, _, .nil, _, _, r => r
  | _, _, .cons (a := p) (b := q) (l₁ := ms) (l₂ := more) h t, gs, kvs, r => by
    have z := putKV_rel r p.1 h.2
    rw [h.1] at z
    show Paired (DR G W) (mergeK (putK gs p.1 p.2) ms) (mergeKV (putKV kvs q.1 q.2) more)
    rw [h.1]
    exact mergeKV_rel t z
def rIxK : R2 := fun x y H Q => ∃ a v, x = .ref a ∧ DGet H a y (some v) ∧ Q v H
theorem ix_dict {X : Cx} (hu : X.A.units + 1 < cLine) : IxR X rIxK := by
  intro value slice pins s σ H x y v u Q I rx ry h hs
  obtain ⟨a, w, ex, g, q⟩ := h
  subst ex
  cases rx
  exact tail_any (dict_typeIs I g) PySem.F.slot_dict_getitem.lookup (d_getItem hu I g ry fun w' s' I' r' => ⟨w, H, I', r', q⟩) hs
theorem sub_dct {X : Cx} {Q : VK} (hu : X.A.units + 1 < cLine) {ad : Addr} {gs : List (Key × V)} {kvs : List (Key × Val)} {k : Key} (h : PostV G Wx σ W (ofO (lookK kvs k) S) Q) (s : Sim G W S H) (hH : H ad = some (.dK gs)) (r : Paired (DR G W) gs kvs) :
    ∃ r : R2, IxR X r ∧ r (.ref ad) (kV k) H Q := by
  cases e : lookK kvs k with
  | none => rw [e] at h; exact (show False from h).elim
  | some v =>
    rw [e] at h
    obtain ⟨x, e1, r1⟩ := lookK_rel r e
    exact ⟨rIxK, ix_dict hu, ad, x, rfl, by rw [← e1]; exact DGet.k hH, Post.ok h s r1⟩
theorem sub_dctT {X : Cx} {Q : VK} (hu : X.A.units + 1 < cLine) {ad : Addr} {gs : List (Key × V)} {kvs : List (Key × T)} {k : Key} (h : PostV G Wx σ W (ofT (lookK kvs k) S) Q) (s : Sim G W S H) (hF : W.F ad = some (.dK gs)) (r : RepD G W.F gs kvs) :
    ∃ r : R2, IxR X r ∧ r (.ref ad) (kV k) H Q := by
  cases e : lookK kvs k with
  | none => rw [e] at h; exact (show False from h).elim
  | some v =>
    rw [e] at h
    obtain ⟨x, e1, r1⟩ := lookK_repD r e
    exact ⟨rIxK, ix_dict hu, ad, x, rfl, by rw [← e1]; exact DGet.k (s.fz _ _ hF), Post.ok h s (show RepV G W x (.t v) from r1)⟩
theorem sub_any (hK : X.K = G.K) (hu : X.A.units + 1 < cLine) (h : PostV G Wx σ W (subV a b S) Q) (s : Sim G W S H) (rx : RepV G W x a) (ry : RepV G W y b) : ∃ r : R2, IxR X r ∧ r x y H Q := by
  have no : ∀ {P : Prop}, PostV G Wx σ W .bad Q → P := fun z => (show False from z).elim
  cases b with
  | r n =>
    cases a with
    | r m => exact no h
    | t t => cases t <;> exact no h
  | t u =>
    cases u with
    | int i =>
      cases ry
      cases a with
      | r n =>
        obtain ⟨hn, ex⟩ := rx
        subst ex
        have h : PostV G Wx σ W (match S[n]? with
          | some (.lst vs) => ofO (atL vs i) S
          | some (.dct kvs) => ofO (lookK kvs (.inl i)) S
          | _ => .bad) Q := h
        cases q : S[n]? with
        | none => rw [q] at h; exact no h
        | some c =>
          rw [q] at h
          cases c with
          | lst ws =>
            have h : PostV G Wx σ W (ofO (atL ws i) S) Q := h
            obtain ⟨_, _, o, ho, ok⟩ := s.live n _ q (by intro z; cases z)
            cases ok with
            | @lst vs _ hp =>
              cases e : atL ws i with
              | none => rw [e] at h; exact no h
              | some w =>
                rw [e] at h
                obtain ⟨j, h1, h2⟩ := atL_ex e
                obtain ⟨v, h3, h4⟩ := Paired.get hp h2
                refine ⟨_, ix_list, _, vs, i, v, rfl, rfl, SqL.of ho, ?_, Post.ok h s h4⟩
                unfold atI
                rw [ix_eq, Paired.length hp, h1]
                exact h3
          | dead => exact no h
          | ins _ _ => exact no h
          | dct kvs =>
            obtain ⟨_, _, o, ho, ok⟩ := s.live n _ q (by intro z; cases z)
            cases ok with
            | dct hp => exact sub_dct hu h s ho hp
      | t t =>
        cases t with
        | lst xs =>
          cases rx with
          | lst hF r =>
            have h : PostV G Wx σ W (ofT (atL xs i) S) Q := h
            cases e : atL xs i with
            | none => rw [e] at h; exact no h
            | some t =>
              rw [e] at h
              obtain ⟨v, h1, h2⟩ := atL_rep r e
              exact ⟨_, ix_list, _, _, i, v, rfl, rfl, SqL.of (s.fz _ _ hF), h1, post_t h s h2⟩
        | tup xs =>
          cases rx with
          | tup hF r =>
            have h : PostV G Wx σ W (ofT (atL xs i) S) Q := h
            cases e : atL xs i with
            | none => rw [e] at h; exact no h
            | some t =>
              rw [e] at h
              obtain ⟨v, h1, h2⟩ := atL_rep r e
              exact ⟨_, ix_tup, _, _, i, v, rfl, rfl, by rw [hK]; exact sameT s.fz hF, h1, post_t h s h2⟩
        | scr ns =>
          cases rx with
          | scr hF =>
            have h : PostV G Wx σ W (ofT ((atL ns i).map .int) S) Q := h
            cases e : atL ns i with
            | none => rw [e] at h; exact no h
            | some m =>
              rw [e] at h
              obtain ⟨j, h1, h2⟩ := atL_ex e
              refine ⟨_, ix_list, _, _, i, .int m, rfl, rfl, by rw [hK]; exact s.fz.seq hF, ?_, post_t h s (.int m)⟩
              unfold atI
              rw [ix_eq, List.length_map, h1]
              show (ns.map V.int)[j]? = _
              rw [List.getElem?_map, h2]
              rfl
        | dct kvs =>
          cases rx with
          | dct hF r => exact sub_dctT hu h s hF r
        | _ => exact no h
    | str z =>
      cases ry
      cases a with
      | r n =>
        obtain ⟨hn, ex⟩ := rx
        subst ex
        have h : PostV G Wx σ W (match S[n]? with
          | some (.dct kvs) => ofO (lookK kvs (.inr z)) S
          | _ => .bad) Q := h
        cases q : S[n]? with
        | none => rw [q] at h; exact no h
        | some c =>
          rw [q] at h
          cases c with
          | dct kvs =>
            obtain ⟨_, _, o, ho, ok⟩ := s.live n _ q (by intro z; cases z)
            cases ok with
            | dct hp => exact sub_dct hu h s ho hp
          | _ => exact no h
      | t t =>
        cases t with
        | dct kvs =>
          cases rx with
          | dct hF r => exact sub_dctT hu h s hF r
        | _ => exact no h
    | _ =>
      cases a with
      | r m => exact no h
      | t t => cases t <;> exact no h
end
end Rw

namespace Rw
open PySem PySem.Spec PyProof.Rows L2
section
variable {G : Gd} {C : Ck} {X : Cx} {Wx : WX} {k : Nat} {call : Call} {W : Wd} {S : Store} {H : Hp} {σ : L2.St} {env : Env} {x y : V} {a b : Val} {Q : VK}
abbrev tE (G : Gd) (Wx : WX) (call : Call) (e : IE) : TE := Den G (RepV G) Wx (dE G.tab call e)
abbrev tEs (G : Gd) (Wx : WX) (call : Call) (es : IEs) : TA := Den G (fun W => Paired (RepV G W)) Wx (dEs G.tab call es)
abbrev tB (G : Gd) (Wx : WX) (call : Call) (c : IC) : TT := Den G (fun _ (b k : Bool) => b = k) Wx (dB G.tab call c)
abbrev tAndC (G : Gd) (Wx : WX) (call : Call) (cs : ICs) : TT := Den G (fun _ (b k : Bool) => b = k) Wx (dAnd G.tab call cs)
abbrev tOrC (G : Gd) (Wx : WX) (call : Call) (cs : ICs) : TT := Den G (fun _ (b k : Bool) => b = k) Wx (dOr G.tab call cs)
theorem one_arg {a : Val} {vs : List V} (r : Paired (RepV G W) vs [a]) : ∃ v, vs = [v] ∧ RepV G W v a := by
  cases r with
  | cons r rr => cases rr; exact ⟨_, rfl, r⟩
theorem two_args {a b : Val} {vs : List V} (r : Paired (RepV G W) vs [a, b]) : ∃ v w, vs = [v, w] ∧ RepV G W v a ∧ RepV G W w b := by
  cases r with
  | cons r rr =>
    cases rr with
    | cons r2 rr => cases rr; exact ⟨_, _, rfl, r, r2⟩
theorem XOk.kindOf (ok : XOk G C X Wx k call) {x : Str} (h : glB C.sc x = true) : Gl X x := by
  show X.env.scope.names.lookup x = _
  rw [ok.sc]
  exact glB_ok h
theorem XOk.vis (ok : XOk G C X Wx k call) {x : Str} (h : visB C.sc x = true) : Vis X.env.scope x := by
  rw [ok.sc]
  exact visB_ok h
def bltTy : Blt → Option String
  | .int => some "int" | .str => some "str" | .list => some "list" | .tuple => some "tuple" | .bool => some "bool"
  | _ => none
def bltId : Blt → String
  | .len => "len" | .min2 => "min" | .max2 => "max" | .abs => "abs" | .all => "all" | .any => "any" | .sum => "sum" | .minl => "min" | .maxl => "max" | .divmod => "divmod" | .sorted => "sorted"
  | _ => ""
def bltF (b : Blt) : Value := match bltTy b with
  | some t => .type t
  | none => .builtin (bltId b)
theorem blt_boot (b : Blt) : bootBuiltins (bltN b) = some (bltF b) := by
  cases b <;> decide +kernel
theorem blt_free (ok : XOk G C X Wx k call) (b : Blt) : X.mg (bltN b) = none := by
  rw [ok.mg]
  refine ok.free _ ?_
  cases b <;> decide +kernel
/-- a call of a builtin -/
theorem pe_blt (ok : XOk G C X Wx k call) {b : Blt} {e : Expr} {es : List Expr} {p pos : Pos} {t : TA} {r : List V → Hp → VK → Prop} (hr : CallR X (bltF b) r) (hg : Gl X (bltN b)) (ha : PA X (e :: es) t) (hs : noStar (e :: es) = true)
    (n1 : bltN b ≠ "__name__") (n2 : (bltN b == ("__debug__" : Str)) = false) : PE X (.Call (.Name (bltN b) p) (e :: es) [] pos) (fun σ H Q => t σ H fun vs H1 => r vs H1 Q) := by
  have hb := blt_boot b
  have h1 := star_cons (es := es) X.env (nb (ba hs).1)
  have h2 := star_any (env := X.env) (pos := pos) (ba hs).2
  cases q : bltTy b with
  | none =>
    have ef : bltF b = .builtin (bltId b) := by unfold bltF; rw [q]
    rw [ef] at hr hb
    exact pe_callB hr hg (blt_free ok b) hb ha n1 n2 h1 h2
  | some T =>
    have ef : bltF b = .type T := by unfold bltF; rw [q]
    rw [ef] at hr hb
    exact pe_callTy hr hg (blt_free ok b) hb ha n1 n2 h1 h2
theorem vals_ints : ∀ ns : List Int, Paired (RepV G W) (ns.map V.int) (ns.map fun n => Val.t (.int n))
  | [] => .nil
  | n :: ns => .cons (show Rep G W.F (.int n) (.int n) from .int n) (vals_ints ns)
theorem listV_rep {ws : List Val} (s : Sim G W S H) (r : RepV G W x a) (e : listV S a = some ws) : ∃ p vs, x = .ref p ∧ SqL G.K H p vs ∧ Paired (RepV G W) vs ws := by
  cases a with
  | t u =>
    cases u with
    | lst xs =>
      cases e
      cases r with
      | lst hF r => exact ⟨_, _, rfl, SqL.of (s.fz _ _ hF), vals_repL (vs := []) r⟩
    | scr ns =>
      cases e
      cases r with
      | scr hF => exact ⟨_, _, rfl, s.fz.seq hF, vals_ints ns⟩
    | _ => cases e
  | r n =>
    obtain ⟨hn, ex⟩ := r
    subst ex
    have e1 : (match S[n]? with
      | some (.lst vs) => some vs
      | _ => none) = some ws := e
    cases q : S[n]? with
    | none => rw [q] at e1; cases e1
    | some c =>
      rw [q] at e1
      cases c with
      | lst us =>
        cases e1
        obtain ⟨_, _, o, ho, ok⟩ := s.live n _ q (by intro z; cases z)
        cases ok with
        | lst hp => exact ⟨_, _, rfl, SqL.of ho, hp⟩
      | dead => cases e1
      | ins _ _ => cases e1
      | dct _ => cases e1
theorem allB_rep : ∀ {ws : List Val} {bs : List Bool} {vs : List V}, Paired (RepV G W) vs ws → allB ws = some bs → vs = bs.map V.bl
  | [], _, _, r, e => by cases r; cases e; rfl
  | .t (.bl b) :: ws, _, _, r, e => by
    cases r with
    | cons r rr =>
      obtain ⟨cs, e2, e3⟩ := Option.map_eq_some_iff.mp (show (allB ws).map (b :: ·) = some _ from e)
      subst e3
      cases r
      rw [allB_rep rr e2]
      rfl
  | .r n :: ws, _, _, _, e => by cases e
  | .t .non :: _, _, _, _, e => by cases e
  | .t (.int _) :: _, _, _, _, e => by cases e
  | .t (.str _) :: _, _, _, _, e => by cases e
  | .t (.tup _) :: _, _, _, _, e => by cases e
  | .t (.lst _) :: _, _, _, _, e => by cases e
  | .t (.ins _ _) :: _, _, _, _, e => by cases e
  | .t (.dct _) :: _, _, _, _, e => by cases e
  | .t (.fn _) :: _, _, _, _, e => by cases e
  | .t (.scr _) :: _, _, _, _, e => by cases e
theorem allI_rep : ∀ {ws : List Val} {bs : List Int} {vs : List V}, Paired (RepV G W) vs ws → allI ws = some bs → vs = bs.map V.int
  | [], _, _, r, e => by cases r; cases e; rfl
  | .t (.int b) :: ws, _, _, r, e => by
    cases r with
    | cons r rr =>
      obtain ⟨cs, e2, e3⟩ := Option.map_eq_some_iff.mp (show (allI ws).map (b :: ·) = some _ from e)
      subst e3
      cases r
      rw [allI_rep rr e2]
      rfl
  | .r n :: ws, _, _, _, e => by cases e
  | .t .non :: _, _, _, _, e => by cases e
  | .t (.bl _) :: _, _, _, _, e => by cases e
  | .t (.str _) :: _, _, _, _, e => by cases e
  | .t (.tup _) :: _, _, _, _, e => by cases e
  | .t (.lst _) :: _, _, _, _, e => by cases e
  | .t (.ins _ _) :: _, _, _, _, e => by cases e
  | .t (.dct _) :: _, _, _, _, e => by cases e
  | .t (.fn _) :: _, _, _, _, e => by cases e
  | .t (.scr _) :: _, _, _, _, e => by cases e
/-- what builtins do, by their values -/
theorem blt_any (ok : XOk G C X Wx k call) {b : Blt} (hc : needCalm b = true → X.calm = true) {m : Bool} {ws : List Val} {vs : List V} (h : PostV G Wx σ W (bltV b m ws S) Q) (s : Sim G W S H) (r : Paired (RepV G W) vs ws) :
    ∃ q : List V → Hp → VK → Prop, CallR X (bltF b) q ∧ q vs H Q := by
  have no : ∀ {P : Prop}, PostV G Wx σ W .bad Q → P := fun z => (show False from z).elim
  unfold bltV at h
  split at h
  · rename_i a
    obtain ⟨v, rfl, rv⟩ := one_arg r
    unfold lenV at h
    split at h
    · cases rv with
      | lst hF rl =>
        refine ⟨_, call_len_seq, _, _, rfl, .inl (SqL.of (s.fz _ _ hF)), ?_⟩
        rw [rl.length]
        exact post_t h s (.int _)
    · cases rv with
      | tup hF rl =>
        refine ⟨_, call_len_seq, _, _, rfl, .inr (by rw [ok.K]; exact sameT s.fz hF), ?_⟩
        rw [rl.length]
        exact post_t h s (.int _)
    · rename_i ns
      cases rv with
      | scr hF =>
        refine ⟨_, call_len_seq, _, _, rfl, .inl (by rw [ok.K]; exact s.fz.seq hF), ?_⟩
        rw [List.length_map]
        exact post_t h s (.int _)
    · cases rv
      split at h
      · rename_i c
        exact ⟨_, call_len_str, _, rfl, c, post_t h s (.int _)⟩
      · exact no h
    · rename_i n
      obtain ⟨hn, ex⟩ := rv
      subst ex
      split at h
      · rename_i vs q
        obtain ⟨_, _, o, ho, ok2⟩ := s.live n _ q (by intro z; cases z)
        cases ok2 with
        | lst hp =>
          refine ⟨_, call_len_seq, _, _, rfl, .inl (SqL.of ho), ?_⟩
          rw [Paired.length hp]
          exact post_t h s (.int _)
      · exact no h
    · exact no h
  · obtain ⟨v, rfl, rv⟩ := one_arg r
    cases rv
    exact ⟨_, call_int1, .inl ⟨_, rfl, post_t h s (.int _)⟩⟩
  · obtain ⟨v, rfl, rv⟩ := one_arg r
    cases rv
    exact ⟨_, call_int1, .inr ⟨_, rfl, post_t h s (.int _)⟩⟩
  · obtain ⟨v, w, rfl, rv, rw⟩ := two_args r
    cases rv
    cases rw
    exact ⟨_, call_min2 (hc rfl), _, _, rfl, post_t h s (.int _)⟩
  · obtain ⟨v, w, rfl, rv, rw⟩ := two_args r
    cases rv
    cases rw
    exact ⟨_, call_max2 (hc rfl), _, _, rfl, post_t h s (.int _)⟩
  · obtain ⟨v, rfl, rv⟩ := one_arg r
    cases rv
    exact ⟨_, call_abs, _, rfl, post_t h s (.int _)⟩
  · obtain ⟨v, rfl, rv⟩ := one_arg r
    split at h
    · cases rv with
      | tup hF rl =>
        obtain ⟨h1, h2⟩ := alloc_post h s (vals_repL (vs := []) rl)
        exact ⟨_, call_list_of, _, _, rfl, .inr (by rw [ok.K]; exact sameT s.fz hF), h2⟩
    · rename_i q
      obtain ⟨p, us, rfl, hs, rp⟩ := listV_rep s rv q
      obtain ⟨h1, h2⟩ := alloc_post h s rp
      exact ⟨_, call_list_of, _, _, rfl, .inl (by rw [ok.K]; exact hs), h2⟩
    · exact no h
  · obtain ⟨v, rfl, rv⟩ := one_arg r
    split at h
    · cases rv with
      | tup hF rl =>
        exact ⟨_, call_tuple_of, _, _, rfl, .inr ⟨by rw [ok.K]; exact sameT s.fz hF, post_t h s (.tup hF rl)⟩⟩
    · rename_i q
      obtain ⟨p, us, rfl, hs, rp⟩ := listV_rep s rv q
      obtain ⟨h1, h2⟩ := tup_post h s rp
      exact ⟨_, call_tuple_of, _, _, rfl, .inl ⟨by rw [ok.K]; exact hs, h2⟩⟩
    · exact no h
  · rename_i a
    obtain ⟨v, rfl, rv⟩ := one_arg r
    cases q : listV S a with
    | none => rw [q] at h; exact no h
    | some us =>
      rw [q] at h
      obtain ⟨p, zs, rfl, hs, rp⟩ := listV_rep s rv q
      cases q2 : allB us with
      | none => have h : PostV G Wx σ W (ofT ((allB us).map fun bs => .bl (bs.all id)) S) Q := h; rw [q2] at h; exact no h
      | some bs =>
        have h : PostV G Wx σ W (ofT ((allB us).map fun bs => .bl (bs.all id)) S) Q := h
        rw [q2] at h
        have e := allB_rep rp q2
        subst e
        exact ⟨_, cr_all (hc rfl), _, bs, rfl, by rw [ok.K]; exact hs, post_t h s (.bl _)⟩
  · rename_i a
    obtain ⟨v, rfl, rv⟩ := one_arg r
    cases q : listV S a with
    | none => rw [q] at h; exact no h
    | some us =>
      rw [q] at h
      obtain ⟨p, zs, rfl, hs, rp⟩ := listV_rep s rv q
      cases q2 : allB us with
      | none => have h : PostV G Wx σ W (ofT ((allB us).map fun bs => .bl (bs.any id)) S) Q := h; rw [q2] at h; exact no h
      | some bs =>
        have h : PostV G Wx σ W (ofT ((allB us).map fun bs => .bl (bs.any id)) S) Q := h
        rw [q2] at h
        have e := allB_rep rp q2
        subst e
        exact ⟨_, cr_any (hc rfl), _, bs, rfl, by rw [ok.K]; exact hs, post_t h s (.bl _)⟩
  · rename_i a
    obtain ⟨v, rfl, rv⟩ := one_arg r
    cases q : listV S a with
    | none => rw [q] at h; exact no h
    | some us =>
      rw [q] at h
      obtain ⟨p, zs, rfl, hs, rp⟩ := listV_rep s rv q
      cases q2 : allI us with
      | none => have h : PostV G Wx σ W (ofT ((allI us).map fun bs => .int bs.sum) S) Q := h; rw [q2] at h; exact no h
      | some bs =>
        have h : PostV G Wx σ W (ofT ((allI us).map fun bs => .int bs.sum) S) Q := h
        rw [q2] at h
        have e := allI_rep rp q2
        subst e
        exact ⟨_, cr_sum (hc rfl), _, bs, rfl, by rw [ok.K]; exact hs, post_t h s (.int _)⟩
  · rename_i a
    obtain ⟨v, rfl, rv⟩ := one_arg r
    cases q : listV S a with
    | none => rw [q] at h; exact no h
    | some us =>
      rw [q] at h
      obtain ⟨p, zs, rfl, hs, rp⟩ := listV_rep s rv q
      cases q2 : allI us with
      | none =>
        have h : PostV G Wx σ W (match allI us with
          | some ns => if ns.length < 64 then alloc m ((ns.mergeSort (fun i j => decide (i ≤ j))).map fun i => .t (.int i)) S else .bad
          | none => .bad) Q := h
        rw [q2] at h
        exact no h
      | some ns =>
        have h : PostV G Wx σ W (match allI us with
          | some ns => if ns.length < 64 then alloc m ((ns.mergeSort (fun i j => decide (i ≤ j))).map fun i => .t (.int i)) S else .bad
          | none => .bad) Q := h
        rw [q2] at h
        have h : PostV G Wx σ W (if ns.length < 64 then alloc m ((ns.mergeSort (fun i j => decide (i ≤ j))).map fun i => .t (.int i)) S else .bad) Q := h
        split at h
        · rename_i c
          have e := allI_rep rp q2
          subst e
          refine ⟨_, cr_sorted, _, ns, rfl, by rw [ok.K]; exact hs, c, fun ns' p2 hp hw hn => ?_⟩
          have pm := List.mergeSort_perm ns (fun i j => decide (i ≤ j))
          have pw := List.pairwise_mergeSort (le := fun (i j : Int) => decide (i ≤ j)) (fun a b c h1 h2 => decide_eq_true (Int.le_trans (of_decide_eq_true h1) (of_decide_eq_true h2))) (fun a b => by
            rcases Int.le_total a b with z | z
            · rw [decide_eq_true z]; rfl
            · rw [decide_eq_true z, Bool.or_true]) ns
          have e : ns' = ns.mergeSort (fun i j => decide (i ≤ j)) := List.Perm.eq_of_pairwise (fun x y _ _ h1 h2 => Int.le_antisymm h1 h2) hw (pw.imp of_decide_eq_true) (hp.trans pm.symm)
          subst e
          exact (alloc_post h s (vals_ints _)).2 p2 hn
        · exact no h
  · obtain ⟨v, w, rfl, rv, rw⟩ := two_args r
    cases rv
    cases rw
    split at h
    · rename_i c
      exact ⟨_, call_divmod, _, _, rfl, ⟨c.1, by omega⟩, new_tup h s (.cons (.int _) (.cons (.int _) .nil))⟩
    · exact no h
  · obtain ⟨v, rfl, rv⟩ := one_arg r
    cases rv
    exact ⟨_, call_bool1, .inl ⟨_, rfl, post_t h s (.bl _)⟩⟩
  · obtain ⟨v, rfl, rv⟩ := one_arg r
    cases rv
    exact ⟨_, call_bool1, .inr ⟨_, rfl, post_t h s (.bl _)⟩⟩
  · exact no h

/-! ### slices -/
theorem SlR.any (X : Cx) : SlR X (fun x lo hi H Q => ∃ r : V → Option Int → Option Int → Hp → VK → Prop, SlR X r ∧ r x lo hi H Q) := fun pins s σ H x v vl vu lo hi sl Q I rx hs pl pu ⟨_, h, q⟩ => h pins s σ H x v vl vu lo hi sl Q I rx hs pl pu q
theorem Paired.drop' {α β : Type} {P : α → β → Prop} : ∀ {xs : List α} {ys : List β} (n : Nat), Paired P xs ys → Paired P (xs.drop n) (ys.drop n)
  | _, _, 0, h => h
  | _, _, n + 1, .nil => .nil
  | _, _, n + 1, .cons _ t => Paired.drop' n t
theorem Paired.take' {α β : Type} {P : α → β → Prop} : ∀ {xs : List α} {ys : List β} (n : Nat), Paired P xs ys → Paired P (xs.take n) (ys.take n)
  | _, _, 0, h => by
    rw [List.take_zero, List.take_zero]
    exact .nil
  | _, _, n + 1, .nil => .nil
  | _, _, n + 1, .cons r t => .cons r (Paired.take' n t)
theorem Paired.app' {α β : Type} {P : α → β → Prop} {us : List α} {ws : List β} (q : Paired P us ws) : ∀ {xs : List α} {ys : List β}, Paired P xs ys → Paired P (xs ++ us) (ys ++ ws)
  | _, _, .nil => q
  | _, _, .cons r t => .cons r (Paired.app' q t)
theorem Paired.rev' {α β : Type} {P : α → β → Prop} : ∀ {xs : List α} {ys : List β}, Paired P xs ys → Paired P xs.reverse ys.reverse
  | _, _, .nil => .nil
  | _, _, .cons r t => by
    rw [List.reverse_cons, List.reverse_cons]
    exact Paired.app' (.cons r .nil) (Paired.rev' t)
theorem RepL.drop' {F : Hp} : ∀ {xs : List T} {vs : List V} (n : Nat), RepL G F vs xs → RepL G F (vs.drop n) (xs.drop n)
  | _, _, 0, h => h
  | [], _, n + 1, h => by cases h; exact .nil
  | x :: xs, _, n + 1, h => by
    cases h with
    | cons _ t => exact RepL.drop' n t
theorem RepL.take' {F : Hp} : ∀ {xs : List T} {vs : List V} (n : Nat), RepL G F vs xs → RepL G F (vs.take n) (xs.take n)
  | _, _, 0, h => by
    rw [List.take_zero, List.take_zero]
    exact .nil
  | [], _, n + 1, h => by cases h; exact .nil
  | x :: xs, _, n + 1, h => by
    cases h with
    | cons r t => exact .cons r (RepL.take' n t)
theorem cut_pair {vs : List V} {ws : List Val} (r : Paired (RepV G W) vs ws) (lo hi : Option Int) : Paired (RepV G W) (cutV vs lo hi) (cutL ws lo hi) := by
  unfold cutV cutL
  rw [Paired.length r]
  exact Paired.take' _ (Paired.drop' _ r)
theorem cut_repL {F : Hp} {vs : List V} {ws : List T} (r : RepL G F vs ws) (lo hi : Option Int) : RepL G F (cutV vs lo hi) (cutL ws lo hi) := by
  unfold cutV cutL
  rw [r.length]
  exact RepL.take' _ (RepL.drop' _ r)
theorem slc_any (ok : XOk G C X Wx k call) {m : Bool} {lo hi : Option Int} (h : PostV G Wx σ W (slcV m a lo hi S) Q) (s : Sim G W S H) (rx : RepV G W x a) : ∃ r : V → Option Int → Option Int → Hp → VK → Prop, SlR X r ∧ r x lo hi H Q := by
  have no : ∀ {P : Prop}, PostV G Wx σ W .bad Q → P := fun z => (show False from z).elim
  unfold slcV at h
  split at h
  · cases rx with
    | @tup ad vs xs hF rl =>
      refine ⟨_, sl_tupA, _, vs, rfl, by rw [ok.K]; exact sameT s.fz hF, fun z => ?_, fun _ => new_tup h s (cut_repL rl lo hi)⟩
      have e : ∀ xs : List T, vs.length = xs.length → cutL xs lo hi = xs := fun xs hl => by
        unfold cutL
        rw [← hl, z.1, z.2, List.drop_zero, Nat.sub_zero, hl, List.take_length]
      rw [e _ rl.length] at h
      exact post_t h s (.tup hF rl)
  · rename_i q
    obtain ⟨p, us, rfl, hs, rp⟩ := listV_rep s rx q
    obtain ⟨h1, h2⟩ := alloc_post h s (cut_pair rp lo hi)
    exact ⟨_, sl_list, p, us, rfl, by rw [ok.K]; exact hs, h2⟩
  · exact no h
theorem rev_post (ok : XOk G C X Wx k call) {m : Bool} (h : PostV G Wx σ W (revV m a S) Q) (s : Sim G W S H) (rx : RepV G W x a) : ∃ a xs, x = .ref a ∧ SqL X.K H a xs ∧ ∀ p, H p = none → Q (.ref p) (upd H p (.lst xs.reverse)) := by
  unfold revV at h
  split at h
  · rename_i q
    obtain ⟨p, us, rfl, hs, rp⟩ := listV_rep s rx q
    obtain ⟨h1, h2⟩ := alloc_post h s (Paired.rev' rp)
    exact ⟨p, us, rfl, by rw [ok.K]; exact hs, h2⟩
  · exact (show False from h).elim
/-! ### a list's methods -/
theorem MtR.any (X : Cx) (id : String) : MtR X id (fun x vs H Q => ∃ r : V → List V → Hp → VK → Prop, MtR X id r ∧ r x vs H Q) := fun pins s σ H x xs v us Q I rx rs ⟨_, h, q⟩ => h pins s σ H x xs v us Q I rx rs q
def bmId : BM → String
  | .append => "list.append" | .pop => "list.pop" | .popi => "list.pop" | .insert => "list.insert" | .extend => "list.extend" | .index => "list.index" | .count => "list.count"
theorem ix_seq_eq {n : Nat} {i : Int} {j : Nat} (h : ix n i = some j) : -(n : Int) ≤ i ∧ i < n ∧ seqIndex? i n = some j := by
  obtain ⟨h1, h2, h3, h4⟩ := ixN_seq (n := n) (i := i) (j := j) h
  exact ⟨by omega, by omega, h1⟩
theorem cell_lst {n : Nat} {ws : List Val} (s : Sim G W S H) (q : S[n]? = some (.lst ws)) : ∃ vs, H (W.at_ n) = some (.lst vs) ∧ Paired (RepV G W) vs ws := by
  obtain ⟨_, _, o, ho, ok⟩ := s.live n _ q (by intro z; cases z)
  cases ok with
  | lst hp => exact ⟨_, ho, hp⟩
theorem Paired.dropLast' {α β : Type} {P : α → β → Prop} {xs : List α} {ys : List β} (h : Paired P xs ys) : Paired P xs.dropLast ys.dropLast := by
  rw [List.dropLast_eq_take, List.dropLast_eq_take, Paired.length h]
  exact Paired.take' _ h
theorem Paired.erase' {α β : Type} {P : α → β → Prop} : ∀ {xs : List α} {ys : List β} (n : Nat), Paired P xs ys → Paired P (xs.eraseIdx n) (ys.eraseIdx n)
  | _, _, _, .nil => .nil
  | _, _, 0, .cons _ t => t
  | _, _, n + 1, .cons r t => .cons r (Paired.erase' n t)
theorem Paired.set' {α β : Type} {P : α → β → Prop} {x : α} {y : β} (q : P x y) : ∀ {xs : List α} {ys : List β} (n : Nat), Paired P xs ys → Paired P (xs.set n x) (ys.set n y)
  | _, _, _, .nil => .nil
  | _, _, 0, .cons _ t => .cons q t
  | _, _, n + 1, .cons r t => .cons r (Paired.set' q n t)
theorem len_line (s : Sim G W S H) {pins : List (Addr × Obj)} {σ : L2.St} {st : Shared} (I : Inv X pins σ H st) {p : Addr} {vs : List V} (h : H p = some (.lst vs)) : vs.length ≤ sizeLine := (I.lstM h).1
theorem fl_rep {F : Hp} {v w : V} {t u : T} (ht : flatU t = true) (hu : flatU u = true) (rv : Rep G F v t) (rw' : Rep G F w u) : flatV v = true ∧ flatV w = true ∧ eqV v w = flU t u := by
  cases rv <;> first | exact absurd ht Bool.false_ne_true | skip
  all_goals
    cases rw' <;> first | exact absurd hu Bool.false_ne_true | exact ⟨rfl, rfl, rfl⟩
theorem flats_rep {F : Hp} {xs : List T} {vs : List V} (h : ∀ t ∈ xs, flatU t = true) (r : RepL G F vs xs) : vs.all flatV = true := by
  rw [List.all_eq_true]
  intro v hv
  obtain ⟨i, hi, rfl⟩ := List.mem_iff_getElem.mp hv
  have hl : vs.length = xs.length := r.length
  obtain ⟨v', e1, e2⟩ := r.get (List.getElem?_eq_getElem (show i < xs.length by omega))
  rw [List.getElem?_eq_getElem hi] at e1
  have e1 := Option.some.inj e1
  rw [e1]
  exact (fl_rep (h _ (List.getElem_mem (show i < xs.length by omega))) (h _ (List.getElem_mem (show i < xs.length by omega))) e2 e2).1
theorem idx_rep {F : Hp} {xs : List T} {y : T} {vs : List V} {w : V} {j : Nat} (h : idxT xs y = some j) (r : RepL G F vs xs) (ry : Rep G F w y) : flatV w = true ∧ vs.all flatV = true ∧ ∃ z, vs[j]? = some z ∧ eqV z w = true ∧ ∀ (m : Nat) (z' : V), m < j → vs[m]? = some z' → eqV z' w = false := by
  unfold idxT at h
  split at h
  · rename_i c
    obtain ⟨c1, c2⟩ := ba c
    obtain ⟨hj, h1, h2⟩ := List.findIdx?_eq_some_iff_getElem.mp h
    have flat : ∀ t ∈ xs, flatU t = true := fun t ht => List.all_eq_true.mp c1 t ht
    have hz := r.get (List.getElem?_eq_getElem hj)
    obtain ⟨z, hz1, hz2⟩ := hz
    obtain ⟨f1, f2, f3⟩ := fl_rep (flat _ (List.getElem_mem hj)) c2 hz2 ry
    refine ⟨f2, flats_rep flat r, z, hz1, by rw [f3]; exact h1, fun m z' hm hz' => ?_⟩
    have hm2 : m < xs.length := by omega
    obtain ⟨v', e1, e2⟩ := r.get (List.getElem?_eq_getElem hm2)
    rw [hz'] at e1
    cases Option.some.inj e1
    rw [(fl_rep (flat _ (List.getElem_mem hm2)) c2 e2 ry).2.2]
    have := h2 m hm
    simpa using this
  · cases h
theorem cnt_reps {F : Hp} {y : T} {w : V} (hy : flatU y = true) (ry : Rep G F w y) : ∀ {xs : List T} {vs : List V}, (∀ t ∈ xs, flatU t = true) → RepL G F vs xs → vs.countP (fun v => eqV v w) = xs.countP fun x => flU x y
  | [], [], _, _ => rfl
  | x :: xs, v :: vs, h, .cons r rr => by
    rw [List.countP_cons, List.countP_cons, cnt_reps hy ry (fun t ht => h t (List.mem_cons_of_mem _ ht)) rr, (fl_rep (h x List.mem_cons_self) hy r ry).2.2]
/-- xs.count(y), flat items -/
def rCntF (K : PySem.W.Frag) : V → List V → Hp → VK → Prop := fun x xs H Q => ∃ (a : Addr) (ys : List V) (y : V), x = V.ref a ∧ xs = [y] ∧ SqL K H a ys ∧ flatV y = true ∧ ys.all flatV = true ∧ Q (.int (ys.countP fun v => eqV v y : Nat)) H
theorem cnt_eqU {y : V} : ∀ {ys : List V} {us : List Value}, Vals ys us → ys.all flatV = true → us.countP (eqU y) = ys.countP fun v => eqV v y
  | [], _, .nil, _ => rfl
  | v :: ys, _, .cons r rr, h => by
    rw [List.all_cons, Bool.and_eq_true] at h
    rw [List.countP_cons, List.countP_cons, cnt_eqU rr h.2, eqU_of r h.1]
theorem mt_countF {X : Cx} : MtR X "list.count" (rCntF X.K) := by
  intro pins s σ H x xs v us Q I rx rxs h
  obtain ⟨a, ys, y, rfl, rfl, hs, fy, fys, q⟩ := h
  cases rx
  cases rxs with
  | cons ry rt =>
    rename_i uy ut
    cases rt
    obtain ⟨its, rv, ⟨⟨cls, dd, data, sl⟩, n, ho, hc, hdn, hd⟩, hlen⟩ := I.list hs
    simp only at hc hd
    subst hc hd
    refine call_meets PySem.F.slot_list_count ⟨_, ho, rfl⟩ PySem.F.entry_list_count (PySem.F.args_list_count_2 _ _)
      (SeqAt.list_countAt a its.toArray n dd sl uy (eqU y)) ⟨ho, fun u' hu' => mem_eqAt ry fy rv fys u' (by simpa using hu'), ?_⟩
    have ec : its.toArray.toList.countP (eqU y) = ys.countP fun v => eqV v y := cnt_eqU rv fys
    refine ⟨.int (ys.countP fun v => eqV v y : Nat), H, I.tok _, ⟨s.toks, ?_⟩, q⟩
    show Value.int ((its.toArray.toList.countP (eqU y) : Nat) : Int) s.toks = Value.int ((ys.countP fun v => eqV v y : Nat) : Int) s.toks
    rw [ec]
theorem bm_any {b : BM} {ws : List Val} {vs : List V} (h : PostV G Wx σ W (bmV b a ws S) Q) (s : Sim G W S H) (rx : RepV G W x a) (r : Paired (RepV G W) vs ws) : ∃ q : V → List V → Hp → VK → Prop, MtR X (bmId b) q ∧ q x vs H Q := by
  have no : ∀ {P : Prop}, PostV G Wx σ W .bad Q → P := fun z => (show False from z).elim
  unfold bmV at h
  split at h
  · rename_i n
    obtain ⟨hn, ex⟩ := rx
    subst ex
    split at h
    · rename_i us hc
      obtain ⟨zs, ho, hp⟩ := cell_lst s hc
      have hd : Cell.lst us ≠ Cell.dead := fun z => nomatch z
      split at h
      · rename_i v
        obtain ⟨y, rfl, ry⟩ := one_arg r
        split at h
        · rename_i c
          refine ⟨_, mt_append, _, zs, y, rfl, rfl, ho, by rw [Paired.length hp]; exact c, ?_⟩
          exact h W .non _ (.refl W) (s.setC hc hd (.lst (Paired.app' (.cons ry .nil) hp))) .non
        · exact no h
      · cases r
        split at h
        · rename_i v hv
          obtain ⟨y, h1, h2⟩ := Paired.get hp hv
          refine ⟨_, mt_pop, _, zs, y, rfl, rfl, ho, by rw [Paired.length hp]; exact h1, ?_⟩
          exact h W y _ (.refl W) (s.setC hc hd (.lst (Paired.dropLast' hp))) h2
        · exact no h
      · rename_i i
        obtain ⟨y, rfl, ry⟩ := one_arg r
        cases ry
        split at h
        · rename_i big
          split at h
          · rename_i k hk
            split at h
            · rename_i v hv
              obtain ⟨y, h1, h2⟩ := Paired.get hp hv
              obtain ⟨b1, b2, b3⟩ := ix_seq_eq hk
              have e : szLine = 16777216 := rfl
              refine ⟨_, mt_popAt, _, zs, i, k, y, rfl, rfl, ho, by omega, by omega, by rw [Paired.length hp]; exact b3, h1, ?_⟩
              exact h W y _ (.refl W) (s.setC hc hd (.lst (Paired.erase' k hp))) h2
            · exact no h
          · exact no h
        · exact no h
      · exact no h
    · exact no h
  · split at h
    · rename_i y
      obtain ⟨w, rfl, rw'⟩ := one_arg r
      split at h
      · rename_i j hj
        cases rx with
        | lst hF rl =>
          obtain ⟨g1, g2, z, g3, g4, g5⟩ := idx_rep hj rl rw'
          exact ⟨_, mt_index, _, _, w, j, z, rfl, rfl, SqL.of (s.fz _ _ hF), g1, g2, g3, g4, g5, h W (.int (j : Nat)) _ (.refl W) s (.int _)⟩
      · exact no h
    · rename_i y
      obtain ⟨w, rfl, rw'⟩ := one_arg r
      split at h
      · rename_i j hj
        cases rx with
        | lst hF rl =>
          unfold cntT at hj
          split at hj
          · rename_i c
            obtain ⟨c1, c2⟩ := ba c
            cases hj
            have flat : ∀ t ∈ _, flatU t = true := fun t ht => List.all_eq_true.mp c1 t ht
            refine ⟨_, mt_countF, _, _, w, rfl, rfl, SqL.of (s.fz _ _ hF), (fl_rep c2 c2 rw' rw').1, flats_rep flat rl, ?_⟩
            rw [cnt_reps c2 rw' flat rl]
            exact h W (.int _) _ (.refl W) s (.int _)
          · cases hj
      · exact no h
    · exact no h
  · exact no h
theorem bm_rule (b : BM) : ∃ slot : Slot "list" (bmN b) (bmId b), typeOf (.builtin (bmId b)) = pure (.type "method_descriptor") := by
  cases b with
  | append => exact ⟨PySem.F.slot_list_append, PySem.F.type_list_append⟩
  | pop => exact ⟨PySem.F.slot_list_pop, PySem.F.type_list_pop⟩
  | popi => exact ⟨PySem.F.slot_list_pop, PySem.F.type_list_pop⟩
  | insert => exact ⟨PySem.F.slot_list_insert, PySem.F.type_list_insert⟩
  | extend => exact ⟨PySem.F.slot_list_extend, PySem.F.type_list_extend⟩
  | index => exact ⟨PySem.F.slot_list_index, PySem.F.type_list_index⟩
  | count => exact ⟨PySem.F.slot_list_count, PySem.F.type_list_count⟩
theorem bm_ty {b : BM} {ws : List Val} (hK : X.K = G.K) (h : PostV G Wx σ W (bmV b a ws S) Q) (s : Sim G W S H) (rx : RepV G W x a) : tyV X.K "list" x H := by
  have no : ∀ {P : Prop}, PostV G Wx σ W .bad Q → P := fun z => (show False from z).elim
  unfold bmV at h
  split at h
  · rename_i n
    obtain ⟨hn, ex⟩ := rx
    subst ex
    split at h
    · rename_i us hc
      obtain ⟨zs, ho, hp⟩ := cell_lst s hc
      exact .inl ⟨rfl, zs, SqL.of ho⟩
    · exact no h
  · cases rx with
    | lst hF rl => exact .inl ⟨rfl, _, SqL.of (s.fz _ _ hF)⟩
  · exact no h
theorem few_ok {env : PySem.Env} {es : List Expr} {cp : Pos} (hs : noStar es = true) (hl : es.length < 30) : ((backTo cp (starEach es env)).all (fun x => !x.1) && (backToKw cp (keywordEach [] env)).all (fun x => x.1.isSome)
      && decide (es.length + ([] : List Keyword).length + (if ([] : List Keyword).isEmpty then 0 else 1) < 30)) = true := by
  have h1 := star_any (env := env) (pos := cp) hs
  have h2 : (backTo cp (starEach es env)).all (fun x => !x.1) = true := by
    rw [List.all_eq_true]
    intro y hy
    have := List.any_eq_false.mp h1 y hy
    cases q : y.1 with
    | false => rfl
    | true => exact absurd q this
  rw [h2]
  show (true && true && decide (es.length + 0 + 0 < 30)) = true
  rw [decide_eq_true (by omega)]
  rfl
theorem abase {o : Expr} {m : Str} {env : PySem.Env} {wh : Sem Value} (h : isSup o = false) : attributeBase o m env wh = wh := by
  cases o with
  | Call f as kw p =>
    cases f with
    | Name x q =>
      cases as with
      | nil =>
        cases kw with
        | nil =>
          have h : decide (x = ("super" : Str)) = false := h
          refine abase_call ?_
          rw [bne, Bool.not_eq_true']
          exact beq_eq_false_iff_ne.mpr (of_decide_eq_false h)
        | cons _ _ => rfl
      | cons _ _ => rfl
    | _ => rfl
  | _ => rfl
/-! ### fields -/
abbrev FR (G : Gd) (W : Wd) : (Str × V) → (Nat × Val) → Prop := fun p q => q.1 < G.nAt ∧ p.1 = G.nm.atN q.1 ∧ RepV G W p.2 q.2
theorem repF_pair : ∀ {gs : List (Str × V)} {fs : List (Nat × T)}, RepF G W.F gs fs → Paired (FR G W) gs (fs.map fun p => (p.1, Val.t p.2))
  | _, [], r => by cases r; exact .nil
  | _, (f, x) :: fs, r => by
    cases r with
    | cons hf h r => exact .cons ⟨hf, rfl, h⟩ (repF_pair r)
theorem look_map (f : Nat) : ∀ fs : List (Nat × T), (fs.map fun (p : Nat × T) => (p.1, Val.t p.2)).lookup f = (fs.lookup f).map .t
  | [] => rfl
  | (g, x) :: fs => by
    show (match f == g with
      | true => some (Val.t x)
      | false => (fs.map fun (p : Nat × T) => (p.1, Val.t p.2)).lookup f) = (match f == g with
      | true => some x
      | false => fs.lookup f).map .t
    cases f == g with
    | true => rfl
    | false => exact look_map f fs
theorem look_rep (okf : ∀ f g, f < G.nAt → g < G.nAt → G.nm.atN f = G.nm.atN g → f = g) {f : Nat} (hf : f < G.nAt) : ∀ {gs : List (Str × V)} {fs : List (Nat × Val)}, Paired (FR G W) gs fs →
    (∀ w, fs.lookup f = some w → ∃ x, gs.lookup (G.nm.atN f) = some x ∧ RepV G W x w) ∧ (fs.lookup f = none → gs.lookup (G.nm.atN f) = none)
  | _, _, .nil => ⟨fun w e => (nomatch e), fun _ => rfl⟩
  | (y, x) :: gs, (g, w) :: fs, .cons ⟨h1, h2, h3⟩ t => by
    have h2 : y = G.nm.atN g := h2
    subst h2
    by_cases z : f = g
    · subst z
      have e1 : ((f, w) :: fs).lookup f = some w := by simp [List.lookup]
      have e2 : ((G.nm.atN f, x) :: gs).lookup (G.nm.atN f) = some x := by simp [List.lookup]
      refine ⟨fun u e => ⟨x, e2, ?_⟩, fun e => ?_⟩
      · rw [e1] at e
        cases e
        exact h3
      · rw [e1] at e
        cases e
    · have e1 : ((g, w) :: fs).lookup f = fs.lookup f := by
        have : (f == g) = false := beq_eq_false_iff_ne.mpr z
        simp [List.lookup, this]
      have e2 : ((G.nm.atN g, x) :: gs).lookup (G.nm.atN f) = gs.lookup (G.nm.atN f) := by
        have : (G.nm.atN f == G.nm.atN g) = false := beq_eq_false_iff_ne.mpr fun q => z (okf f g hf h1 q)
        simp only [List.lookup, this]
      rw [e1, e2]
      exact look_rep okf hf t
theorem put_rep (okf : ∀ f g, f < G.nAt → g < G.nAt → G.nm.atN f = G.nm.atN g → f = g) {f : Nat} (hf : f < G.nAt) {y : V} {v : Val} (r : RepV G W y v) : ∀ {gs : List (Str × V)} {fs : List (Nat × Val)}, Paired (FR G W) gs fs → Paired (FR G W) (putF (G.nm.atN f) y gs) (putN f v fs)
  | _, _, .nil => .cons ⟨hf, rfl, r⟩ .nil
  | (n, x) :: gs, (g, w) :: fs, .cons ⟨h1, h2, h3⟩ t => by
    have h2 : n = G.nm.atN g := h2
    subst h2
    show Paired (FR G W) (if G.nm.atN g = G.nm.atN f then (G.nm.atN g, y) :: gs else (G.nm.atN g, x) :: putF (G.nm.atN f) y gs) (if g = f then (g, v) :: fs else (g, w) :: putN f v fs)
    by_cases z : g = f
    · subst z
      rw [if_pos rfl, if_pos rfl]
      exact .cons ⟨h1, rfl, r⟩ t
    · rw [if_neg z, if_neg fun q => z (okf g f h1 hf q)]
      exact .cons ⟨h1, rfl, h3⟩ (put_rep okf hf r t)
theorem fld_in {tab : Tab} {c f : Nat} (h : fldB tab c f = true) : ∃ cl, tab.cl c = some cl ∧ f ∈ cl.flds := by
  unfold fldB at h
  cases q : tab.cl c with
  | none => rw [q] at h; cases h
  | some cl => rw [q] at h; exact ⟨cl, rfl, by simpa using h⟩
/-- an instance, tree or cell -/
theorem ins_at {c : Nat} {fs : List (Nat × Val)} (s : Sim G W S H) (rx : RepV G W x a) (h : (∃ ts, a = .t (.ins c ts) ∧ fs = ts.map fun (p : Nat × T) => (p.1, Val.t p.2)) ∨ ∃ n, a = .r n ∧ S[n]? = some (.ins c fs)) :
    ∃ ad dx gs, x = .ref ad ∧ H ad = some (.ins (G.cA c) dx gs) ∧ Paired (FR G W) gs fs := by
  rcases h with ⟨ts, rfl, rfl⟩ | ⟨n, rfl, q⟩
  · cases rx with
    | ins hF r => exact ⟨_, _, _, rfl, s.fz _ _ hF, repF_pair r⟩
  · obtain ⟨hn, ex⟩ := rx
    subst ex
    obtain ⟨_, _, o, ho, ok⟩ := s.live n _ q (by intro z; cases z)
    cases ok with
    | ins hp => exact ⟨_, _, _, rfl, ho, hp⟩
theorem fldV_some {tab : Tab} {f : Nat} {S2 : Store} {v : Val} (h : fldV tab a f S = .ok v S2) : S2 = S ∧ ∃ c fs, ((∃ ts, a = .t (.ins c ts) ∧ fs = ts.map fun (p : Nat × T) => (p.1, Val.t p.2)) ∨ ∃ n, a = .r n ∧ S[n]? = some (.ins c fs)) ∧ fldB tab c f = true ∧ fs.lookup f = some v := by
  unfold fldV at h
  split at h
  · rename_i c ts
    split at h
    · rename_i b
      cases q : ts.lookup f with
      | none => rw [q] at h; cases h
      | some t =>
        rw [q] at h
        cases h
        exact ⟨rfl, c, _, .inl ⟨ts, rfl, rfl⟩, b, by rw [look_map, q]; rfl⟩
    · cases h
  · rename_i n
    split at h
    · rename_i c fs hc
      split at h
      · rename_i b
        cases q : fs.lookup f with
        | none => rw [q] at h; cases h
        | some t =>
          rw [q] at h
          cases h
          exact ⟨rfl, c, fs, .inr ⟨n, rfl, hc⟩, b, q⟩
      · cases h
    · cases h
  · cases h
theorem fldV_no {tab : Tab} {f : Nat} : (∃ v, fldV tab a f S = .ok v S) ∨ fldV tab a f S = .bad := by
  unfold fldV
  split
  · rename_i c ts
    split
    · cases ts.lookup f with
      | none => exact .inr rfl
      | some t => exact .inl ⟨_, rfl⟩
    · exact .inr rfl
  · split
    · rename_i c fs hc
      split
      · cases fs.lookup f with
        | none => exact .inr rfl
        | some t => exact .inl ⟨_, rfl⟩
      · exact .inr rfl
    · exact .inr rfl
  · exact .inr rfl
theorem fld_any (ok : XOk G C X Wx k call) {f : Nat} {v : Val} (h : fldV G.tab a f S = .ok v S) (s : Sim G W S H) (rx : RepV G W x a) :
    ∃ ad c dx gs y, x = .ref ad ∧ H ad = some (.ins (G.cA c) dx gs) ∧ Cls X.K (G.cA c) ∧ NoAttr X.K (G.cA c) (G.nm.atN f) ∧ gs.lookup (G.nm.atN f) = some y ∧ RepV G W y v ∧ insC a S = some c := by
  obtain ⟨_, c, fs, h1, h2, h3⟩ := fldV_some h
  obtain ⟨ad, dx, gs, e1, e2, e3⟩ := ins_at s rx h1
  obtain ⟨cl, e4, e5⟩ := fld_in h2
  have F := ok.cls c cl e4
  obtain ⟨n1, n2⟩ := F.na f e5
  obtain ⟨y, e6, e7⟩ := (look_rep ok.okf n1 e3).1 v h3
  refine ⟨ad, c, dx, gs, y, e1, e2, by rw [ok.K]; exact F.cls, by rw [ok.K]; exact n2, e6, e7, ?_⟩
  rcases h1 with ⟨ts, rfl, rfl⟩ | ⟨n, rfl, q⟩
  · rfl
  · unfold insC
    simp only [q]
theorem setFV_some {tab : Tab} {f : Nat} {S2 : Store} {v : Val} (h : setFV tab a f v S = some S2) : ∃ n c fs, a = .r n ∧ S[n]? = some (.ins c fs) ∧ fldB tab c f = true ∧ fs.length < 1000 ∧ S2 = S.set n (.ins c (putN f v fs)) := by
  unfold setFV at h
  split at h
  · rename_i n
    split at h
    · rename_i c fs hc
      split at h
      · rename_i b
        cases h
        exact ⟨n, c, fs, rfl, hc, (ba b).1, of_decide_eq_true (ba b).2, rfl⟩
      · cases h
    · cases h
  · cases h
theorem setF_any (ok : XOk G C X Wx k call) {f : Nat} {v : Val} {y : V} {S2 : Store} (h : setFV G.tab a f v S = some S2) (s : Sim G W S H) (rx : RepV G W x a) (ry : RepV G W y v) :
    ∃ ad c dx gs, x = .ref ad ∧ H ad = some (.ins (G.cA c) dx gs) ∧ Cls X.K (G.cA c) ∧ NoAttr X.K (G.cA c) (G.nm.atN f) ∧ gs.length < 1000 ∧ Sim G W S2 (upd H ad (.ins (G.cA c) dx (putF (G.nm.atN f) y gs))) ∧ insC a S = some c := by
  obtain ⟨n, c, fs, rfl, h1, h2, h3, rfl⟩ := setFV_some h
  obtain ⟨hn, ex⟩ := rx
  subst ex
  obtain ⟨_, _, o, ho, okc⟩ := s.live n _ h1 (by intro z; cases z)
  cases okc with
  | @ins dx _ gs _ hp =>
    obtain ⟨cl, e4, e5⟩ := fld_in h2
    have F := ok.cls c cl e4
    obtain ⟨n1, n2⟩ := F.na f e5
    refine ⟨_, c, dx, gs, rfl, ho, by rw [ok.K]; exact F.cls, by rw [ok.K]; exact n2, by rw [Paired.length hp]; exact h3, s.setC h1 (by intro z; cases z) (.ins (put_rep ok.okf n1 ry hp)), ?_⟩
    unfold insC
    simp only [h1]
theorem cell_dct {n : Nat} {kvs : List (Key × Val)} (s : Sim G W S H) (hc : S[n]? = some (.dct kvs)) : ∃ gs, H (W.at_ n) = some (.dK gs) ∧ Paired (DR G W) gs kvs := by
  obtain ⟨_, _, o, ho, ok⟩ := s.live n _ hc (by intro z; cases z)
  cases ok with
  | dct hp => exact ⟨_, ho, hp⟩
theorem line1000 : (1000 : Nat) < sizeLine := by rw [sizeLine_eq]; decide
theorem put_dct {n : Nat} {kvs : List (Key × Val)} {k : Key} {v : Val} {z : V} (s : Sim G W S H) (hc : S[n]? = some (.dct kvs)) (rz : RepV G W z v) (hl : kvs.length < 1000) :
    ∃ H2, DPut H (W.at_ n) (kV k) z H2 ∧ Sim G W (S.set n (.dct (putKV kvs k v))) H2 := by
  obtain ⟨gs, ho, hp⟩ := cell_dct s hc
  exact ⟨_, DPut.k ho (by rw [Paired.length hp]; exact Nat.lt_trans hl line1000), s.setC hc (by intro z; cases z) (.dct (putKV_rel hp k rz))⟩
theorem setS_any {b v : Val} {y z : V} {S2 : Store} (h : setSV a b v S = some S2) (s : Sim G W S H) (rx : RepV G W x a) (ry : RepV G W y b) (rz : RepV G W z v) (Q : Hp → Prop) (hq : ∀ H2, Sim G W S2 H2 → Q H2) :
    rSetL x y z H Q ∨ rSetD x y z H Q := by
  unfold setSV at h
  split at h
  · rename_i n k
    cases ry
    obtain ⟨hn, ex⟩ := rx
    subst ex
    split at h
    · rename_i ws hc
      obtain ⟨zs, ho, hp⟩ := cell_lst s hc
      obtain ⟨j, e1, e2⟩ := Option.map_eq_some_iff.mp h
      subst e2
      exact .inl ⟨_, zs, k, j, rfl, rfl, ho, by rw [Paired.length hp]; exact e1, hq _ (s.setC hc (by intro z; cases z) (.lst (Paired.set' rz j hp)))⟩
    · rename_i kvs hc
      split at h
      · rename_i c
        injection h with e
        subst e
        obtain ⟨H2, g1, g2⟩ := put_dct (k := .inl k) s hc rz c
        exact .inr ⟨_, H2, rfl, g1, hq _ g2⟩
      · cases h
    · cases h
  · rename_i n k
    cases ry
    obtain ⟨hn, ex⟩ := rx
    subst ex
    split at h
    · rename_i kvs hc
      split at h
      · rename_i c
        injection h with e
        subst e
        obtain ⟨H2, g1, g2⟩ := put_dct (k := .inr k) s hc rz c
        exact .inr ⟨_, H2, rfl, g1, hq _ g2⟩
      · cases h
    · cases h
  · cases h
theorem set_both {X : Cx} (hu : X.A.units + 1 < cLine) : PSet X (fun o i v H Q => rSetL o i v H Q ∨ rSetD o i v H Q) := by
  intro pins s σ H o i v ov iv u Q I ro ri rv h
  rcases h with h | h
  · exact set_list pins s σ H o i v ov iv u Q I ro ri rv h
  · exact set_dict hu pins s σ H o i v ov iv u Q I ro ri rv h
/-! ### what is buried -/
theorem allF_rep : ∀ {ws : List (Nat × Val)} {xs : List (Nat × T)} {vs : List (Str × V)}, Paired (FR G W) vs ws → allF ws = some xs → RepF G W.F vs xs
  | [], _, _, r, e => by
    cases r
    cases e
    exact .nil
  | (f, .t x) :: ws, _, _, r, e => by
    cases r with
    | @cons p q _ _ r rr =>
      have e1 : (allF ws).map ((f, x) :: ·) = some _ := e
      obtain ⟨ys, e2, e3⟩ := Option.map_eq_some_iff.mp e1
      subst e3
      obtain ⟨h1, h2, h3⟩ := r
      obtain ⟨n, v⟩ := p
      have h2 : n = G.nm.atN f := h2
      subst h2
      exact .cons h1 h3 (allF_rep rr e2)
  | (_, .r n) :: ws, _, _, _, e => by cases e
theorem toT_bury {n : Nat} {t : T} {S1 : Store} (s : Sim G W S H) (h : toT S (.r n) = some (t, S1)) : ∃ o, H (W.at_ n) = some o ∧ W.le (W.addF (W.at_ n) o) ∧ Sim G (W.addF (W.at_ n) o) S1 H ∧ Rep G (upd W.F (W.at_ n) o) (.ref (W.at_ n)) t ∧ W.B (W.at_ n) = none := by
  have h : (match S[n]? with
    | some (.lst vs) => (allT vs).map fun xs => (T.lst xs, S.set n .dead)
    | some (.ins c fs) => (allF fs).map fun xs => (T.ins c xs, S.set n .dead)
    | _ => none) = some (t, S1) := h
  cases q : S[n]? with
  | none => rw [q] at h; cases h
  | some c =>
    rw [q] at h
    cases c with
    | dead => cases h
    | dct _ => cases h
    | lst ws =>
      obtain ⟨l1, l2, o, ho, okc⟩ := s.live n _ q (by intro z; cases z)
      obtain ⟨b1, b2⟩ := s.bury q (by intro z; cases z)
      obtain ⟨xs, e1, e2⟩ := Option.map_eq_some_iff.mp h
      cases e2
      cases okc with
      | @lst vs _ hp =>
        refine ⟨_, ho, le_seizeF l1 l2 _, b1.seizeF b2 ho, .lst upd_same (RepL.mono (same_upd l1) xs vs (allT_rep hp e1)), l2⟩
    | ins c ws =>
      obtain ⟨l1, l2, o, ho, okc⟩ := s.live n _ q (by intro z; cases z)
      obtain ⟨b1, b2⟩ := s.bury q (by intro z; cases z)
      obtain ⟨xs, e1, e2⟩ := Option.map_eq_some_iff.mp h
      cases e2
      cases okc with
      | @ins dx _ gs _ hp =>
        refine ⟨_, ho, le_seizeF l1 l2 _, b1.seizeF b2 ho, .ins upd_same (RepF.mono (same_upd l1) xs gs (allF_rep hp e1)), l2⟩
theorem bury_rep : ∀ {ws : List Val} {vs : List V} {W : Wd} {S S1 : Store} {xs : List T}, Sim G W S H → Paired (RepV G W) vs ws → buryS ws S = some (xs, S1) → ∃ W1, W.le W1 ∧ Sim G W1 S1 H ∧ RepL G W1.F vs xs
  | [], _, W, S, S1, xs, s, .nil, e => by
    cases e
    exact ⟨W, Wd.le.refl W, s, .nil⟩
  | a :: ws, _, W, S, S1, xs, s, .cons r rr, e => by
    have e : (match toT S a with
      | some (x, S1) => (match buryS ws S1 with
        | some (xs, S2) => some (x :: xs, S2)
        | none => none)
      | none => none) = some (xs, S1) := e
    cases q : toT S a with
    | none => rw [q] at e; cases e
    | some p =>
      obtain ⟨x, S2⟩ := p
      rw [q] at e
      have e : (match buryS ws S2 with
        | some (xs, S2) => some (x :: xs, S2)
        | none => none) = some (xs, S1) := e
      cases q2 : buryS ws S2 with
      | none => rw [q2] at e; cases e
      | some p2 =>
        obtain ⟨ys, S3⟩ := p2
        rw [q2] at e
        cases e
        cases a with
        | t y =>
          cases q
          obtain ⟨W1, l1, s1, r1⟩ := bury_rep s rr q2
          exact ⟨W1, l1, s1, .cons (Rep.mono l1.f _ _ r) r1⟩
        | r n =>
          obtain ⟨o, ho, l, s1, rt, _⟩ := toT_bury s q
          obtain ⟨W1, l1, s2, r1⟩ := bury_rep s1 (RepVs.mono l rr) q2
          obtain ⟨_, rfl⟩ := r
          exact ⟨W1, l.trans l1, s2, .cons (Rep.mono l1.f _ _ rt) r1⟩
theorem tupV_post {ws : List Val} {vs : List V} (h : PostV G Wx σ W (if ws.length ≤ szLine then tupV ws S else .bad) Q) (s : Sim G W S H) (r : Paired (RepV G W) vs ws) : vs.length ≤ sizeLine ∧ ∀ p, H p = none → Q (.ref p) (upd H p (.tup vs)) := by
  unfold tupV at h
  cases q : (allT ws).isSome with
  | true =>
    rw [q, if_pos rfl] at h
    exact tup_post h s r
  | false =>
    rw [q, if_neg Bool.false_ne_true] at h
    by_cases c : ws.length ≤ szLine
    · rw [if_pos c] at h
      refine ⟨by rw [r.length]; exact c, fun p hp => ?_⟩
      cases e : buryS ws S with
      | none => rw [e] at h; exact (show False from h).elim
      | some p2 =>
        obtain ⟨xs, S1⟩ := p2
        rw [e] at h
        have h : PostV G Wx σ W (.ok (.t (.tup xs)) S1) Q := h
        obtain ⟨W1, l1, s1, r1⟩ := bury_rep s r e
        refine h (W1.addF p (.tup vs)) (.ref p) _ (l1.trans (Wd.le_addF s1 hp _)) (s1.addF hp _) ?_
        exact .tup (.inl (.inl upd_same)) (RepL.mono (Wd.le_addF s1 hp _).f xs vs r1)
    · rw [if_neg c] at h
      exact (show False from h).elim
theorem dispL_post {m : Bool} {ws : List Val} {vs : List V} (h : PostV G Wx σ W (dispL m ws S) Q) (s : Sim G W S H) (r : Paired (RepV G W) vs ws) : vs.length ≤ sizeLine ∧ ∀ p, H p = none → Q (.ref p) (upd H p (.lst vs)) := by
  unfold dispL at h
  cases q : (m || (allT ws).isSome) with
  | true =>
    rw [q, if_pos rfl] at h
    exact alloc_post h s r
  | false =>
    rw [q, if_neg Bool.false_ne_true] at h
    by_cases c : ws.length ≤ szLine
    · rw [if_pos c] at h
      refine ⟨by rw [r.length]; exact c, fun p hp => ?_⟩
      cases e : buryS ws S with
      | none => rw [e] at h; exact (show False from h).elim
      | some p2 =>
        obtain ⟨xs, S1⟩ := p2
        rw [e] at h
        have h : PostV G Wx σ W (.ok (.t (.lst xs)) S1) Q := h
        obtain ⟨W1, l1, s1, r1⟩ := bury_rep s r e
        refine h (W1.addF p (.lst vs)) (.ref p) _ (l1.trans (Wd.le_addF s1 hp _)) (s1.addF hp _) ?_
        exact .lst upd_same (RepL.mono (Wd.le_addF s1 hp _).f xs vs r1)
    · rw [if_neg c] at h
      exact (show False from h).elim
theorem fin_post {fr : Bool} {n : Nat} (h : PostV G Wx σ W (finV fr n S) Q) (s : Sim G W S H) (hn : n < W.n) : Q (.ref (W.at_ n)) H := by
  unfold finV at h
  cases fr with
  | false => exact Post.ok h s (show RepV G W _ (.r n) from ⟨hn, rfl⟩)
  | true =>
    have h : PostV G Wx σ W (match toT S (.r n) with
      | some (x, S1) => .ok (.t x) S1
      | none => .bad) Q := h
    cases q : toT S (.r n) with
    | none => rw [q] at h; exact (show False from h).elim
    | some p =>
      obtain ⟨t, S1⟩ := p
      rw [q] at h
      obtain ⟨o, ho, l, s1, r, _⟩ := toT_bury s q
      exact h _ _ H l s1 r
/-! ### isinstance -/
theorem ty_cls (G : Gd) (t : Ty) : ClsV (tyW G t) (tyC G t) := by
  cases t <;> first | exact .ty _ | exact .own _
theorem ty_rel (G : Gd) (t : Ty) : RelV (tyW G t) (tyC G t) := by
  cases t <;> rfl
theorem ty_free {t : Ty} (h : ∀ c, t ≠ .cls c) (nm : Nm) : tyN nm t ∈ ["len", "int", "str", "min", "max", "abs", "list", "tuple", "all", "any", "sum", "divmod", "sorted", "bool", "isinstance", "range", "enumerate", "zip", "dict", "set", "ValueError"].map Str.ofString := by
  cases t with
  | cls c => exact absurd rfl (h c)
  | int => show Str.ofString "int" ∈ _; decide +kernel
  | bool => show Str.ofString "bool" ∈ _; decide +kernel
  | str => show Str.ofString "str" ∈ _; decide +kernel
  | list => show Str.ofString "list" ∈ _; decide +kernel
  | tuple => show Str.ofString "tuple" ∈ _; decide +kernel
  | dict => show Str.ofString "dict" ∈ _; decide +kernel
/-- a class's name -/
theorem pe_ty (ok : XOk G C X Wx k call) {t : Ty} {pos : Pos} (hg : Gl X (tyN G.nm t)) (hc : isCl G.tab t = true) (n1 : tyN G.nm t ≠ "__name__") (n2 : (tyN G.nm t == ("__debug__" : Str)) = false) : PE X (.Name (tyN G.nm t) pos) (tC (tyW G t)) := by
  have bi : (∀ c, t ≠ .cls c) → bootBuiltins (tyN G.nm t) = some (tyC G t) → PE X (.Name (tyN G.nm t) pos) (tC (tyW G t)) := fun h hb =>
    pe_bltn hg (by rw [ok.mg]; exact ok.free _ (ty_free h G.nm)) hb (ty_rel G t) n1 n2
  cases t with
  | cls c =>
    cases q : G.tab.cl c with
    | none =>
      have z : (G.tab.cl c).isSome = true := hc
      rw [q] at z
      cases z
    | some cl => exact pe_glob hg (by rw [ok.mg]; exact (ok.cls c cl q).mg) rfl n2
  | int => exact bi (fun c z => nomatch z) (by show bootBuiltins (Str.ofString "int") = some (.type "int"); decide +kernel)
  | bool => exact bi (fun c z => nomatch z) (by show bootBuiltins (Str.ofString "bool") = some (.type "bool"); decide +kernel)
  | str => exact bi (fun c z => nomatch z) (by show bootBuiltins (Str.ofString "str") = some (.type "str"); decide +kernel)
  | list => exact bi (fun c z => nomatch z) (by show bootBuiltins (Str.ofString "list") = some (.type "list"); decide +kernel)
  | tuple => exact bi (fun c z => nomatch z) (by show bootBuiltins (Str.ofString "tuple") = some (.type "tuple"); decide +kernel)
  | dict => exact bi (fun c z => nomatch z) (by show bootBuiltins (Str.ofString "dict") = some (.type "dict"); decide +kernel)
/-- a value's type, by its outermost form -/
def tyO (G : Gd) : T → Value
  | .non => .type "NoneType" | .bl _ => .type "bool" | .int _ => .type "int" | .str _ => .type "str" | .tup _ => .type "tuple" | .lst _ => .type "list" | .scr _ => .type "list" | .dct _ => .type "dict"
  | .ins c _ => .ref (G.cA c) | .fn _ => .none | .exn _ _ => .none
theorem isi_one (ok : XOk G C X Wx k call) {t : Ty} {u : T} {b : Bool} (h : tyT G.tab t u = some b) : PySem.W.kitOne G.K (tyO G u) (tyC G t) = some b := by
  cases t with
  | cls d =>
    have h : (match G.tab.cl d with
      | none => none
      | some _ => clT G.tab d u) = some b := h
    cases q : G.tab.cl d with
    | none => rw [q] at h; cases h
    | some cd =>
      rw [q] at h
      have D := (ok.cls d cd q).isD
      cases u with
      | ins c fs =>
        have h : (G.tab.cl c).map (fun k => k.sup.contains d) = some b := h
        obtain ⟨cl, q2, e⟩ := Option.map_eq_some_iff.mp h
        rw [← e]
        exact (ok.cls c cl q2).isC d cd q
      | fn g => cases h
      | exn _ _ => cases h
      | non => cases h; exact D _ (by simp)
      | bl _ => cases h; exact D _ (by simp)
      | int _ => cases h; exact D _ (by simp)
      | str _ => cases h; exact D _ (by simp)
      | tup _ => cases h; exact D _ (by simp)
      | lst _ => cases h; exact D _ (by simp)
      | scr _ => cases h; exact D _ (by simp)
      | dct _ => cases h; exact D _ (by simp)
  | _ =>
    cases u with
    | ins c fs =>
      have h : (G.tab.cl c).map (fun _ => false) = some b := h
      obtain ⟨cl, q2, e⟩ := Option.map_eq_some_iff.mp h
      rw [← e]
      exact (ok.cls c cl q2).isB _ (by simp)
    | fn g => cases h
    | exn _ _ => cases h
    | _ => cases h; exact kit_ty (by decide +kernel)
theorem isi_many (ok : XOk G C X Wx k call) {u : T} : ∀ {ts : List Ty} {b : Bool}, anyTy G.tab u ts = some b → PySem.W.kitAny G.K (tyO G u) (ts.map (tyC G)) = some b
  | [], b, h => by cases h; rfl
  | t :: ts, b, h => by
    have h : (match tyT G.tab t u with
      | some true => some true
      | some false => anyTy G.tab u ts
      | none => none) = some b := h
    cases q : tyT G.tab t u with
    | none => rw [q] at h; cases h
    | some c =>
      rw [q] at h
      refine kitAny_cons (isi_one ok q) (fun z => ?_) (fun z => ?_)
      · subst z
        exact isi_many ok h
      · subst z
        cases h
        rfl
theorem paired_map {α γ δ : Type} {P : γ → δ → Prop} {f : α → γ} {g : α → δ} (h : ∀ a, P (f a) (g a)) : ∀ l : List α, Paired P (l.map f) (l.map g)
  | [] => .nil
  | a :: l => .cons (h a) (paired_map h l)
/-- what isinstance asks of a value -/
theorem tyx_of (ok : XOk G C X Wx k call) {u : T} {b : Bool} {ts : List Ty} (s : Sim G W S H) (rx : RepV G W x a) (h : shell S a = some u) (hne : ts ≠ []) (hb : anyTy G.tab u ts = some b) : TyX G.K H x (tyO G u) := by
  have insK : ∀ (c : Nat) (fs : List (Nat × T)), u = .ins c fs → ∃ cl, G.tab.cl c = some cl := fun c fs e => by
    subst e
    cases ts with
    | nil => exact absurd rfl hne
    | cons t ts =>
      have hb : (match tyT G.tab t (.ins c fs) with
        | some true => some true
        | some false => anyTy G.tab (.ins c fs) ts
        | none => none) = some b := hb
      cases q : G.tab.cl c with
      | some cl => exact ⟨cl, rfl⟩
      | none =>
        have z : tyT G.tab t (.ins c fs) = none := by
          cases t with
          | cls d =>
            show (match G.tab.cl d with
              | none => none
              | some _ => (G.tab.cl c).map fun k => k.sup.contains d) = none
            rw [q]
            cases G.tab.cl d <;> rfl
          | _ =>
            show (G.tab.cl c).map (fun _ => false) = none
            rw [q]
            rfl
        rw [z] at hb
        cases hb
  have insT : ∀ (c : Nat) (ad dx : Addr) (gs : List (Str × V)) (fs : List (Nat × T)), u = .ins c fs → H ad = some (.ins (G.cA c) dx gs) → TyX G.K H (.ref ad) (tyO G u) := fun c ad dx gs fs e hH => by
    obtain ⟨cl, q⟩ := insK c fs e
    have F := ok.cls c cl q
    subst e
    exact .base (.ins hH F.cls F.ha F.hn F.htk F.hm)
  cases a with
  | t t =>
    cases h
    cases u with
    | exn _ _ => cases rx
    | non => cases rx; exact .base .non
    | bl _ => cases rx; exact .base (.bl _)
    | int _ => cases rx; exact .base (.int _)
    | str _ => cases rx; exact .base (.str _)
    | tup xs =>
      cases rx with
      | tup hF r =>
        rcases hF with (hF | ⟨o, hF⟩) | ⟨o, its, n, h1, h2, _⟩
        · exact .base (.tup (s.fz _ _ hF))
        · exact .fTuple (s.fz _ _ hF)
        · exact .kTuple h1 h2
    | lst xs =>
      cases rx with
      | lst hF r => exact .base (.lst (s.fz _ _ hF))
    | scr ns =>
      cases rx with
      | scr hF =>
        rcases hF with (hF | ⟨o, hF⟩) | ⟨o, its, n, h1, h2, _⟩
        · exact .base (.lst (s.fz _ _ hF))
        · exact .base (.frz (s.fz _ _ hF))
        · exact .kList h1 h2
    | dct fs =>
      cases rx with
      | dct hF r => exact .base (.dK (s.fz _ _ hF))
    | ins c fs =>
      cases rx with
      | ins hF r => exact insT c _ _ _ fs rfl (s.fz _ _ hF)
    | fn g =>
      cases ts with
      | nil => exact absurd rfl hne
      | cons t ts =>
        have hb : (match tyT G.tab t (.fn g) with
          | some true => some true
          | some false => anyTy G.tab (.fn g) ts
          | none => none) = some b := hb
        have z : tyT G.tab t (.fn g) = none := by
          cases t with
          | cls d =>
            show (match G.tab.cl d with
              | none => none
              | some _ => none) = none
            cases G.tab.cl d <;> rfl
          | _ => rfl
        rw [z] at hb
        cases hb
  | r n =>
    obtain ⟨hn, ex⟩ := rx
    subst ex
    have h : (match S[n]? with
      | some (.lst _) => some (.lst [])
      | some (.ins c _) => some (.ins c [])
      | some (.dct _) => some (.dct [])
      | _ => none) = some u := h
    cases q : S[n]? with
    | none => rw [q] at h; cases h
    | some c =>
      rw [q] at h
      cases c with
      | dead => cases h
      | lst ws =>
        cases h
        obtain ⟨_, _, o, ho, ok2⟩ := s.live n _ q (by intro z; cases z)
        cases ok2
        exact .base (.lst ho)
      | ins c fs =>
        cases h
        obtain ⟨_, _, o, ho, ok2⟩ := s.live n _ q (by intro z; cases z)
        cases ok2
        exact insT c _ _ _ [] rfl ho
      | dct fs =>
        cases h
        obtain ⟨_, _, o, ho, ok2⟩ := s.live n _ q (by intro z; cases z)
        cases ok2
        exact .base (.dK ho)
/-- isinstance(x, T) -/
theorem isi_1 (ok : XOk G C X Wx k call) {t : Ty} (h : PostV G Wx σ W (isiV G.tab [t] a S) Q) (s : Sim G W S H) (rx : RepV G W x a) : rIsi G.K [x, tyW G t] H Q := by
  unfold isiV at h
  cases q : shell S a with
  | none => rw [q] at h; exact (show False from h).elim
  | some u =>
    rw [q] at h
    have h : PostV G Wx σ W (ofT ((anyTy G.tab u [t]).map .bl) S) Q := h
    cases q2 : anyTy G.tab u [t] with
    | none => rw [q2] at h; exact (show False from h).elim
    | some b =>
      rw [q2] at h
      have q3 : tyT G.tab t u = some b := by
        have q2 : (match tyT G.tab t u with
          | some true => some true
          | some false => some false
          | none => none) = some b := q2
        cases z : tyT G.tab t u with
        | none => rw [z] at q2; cases q2
        | some c => rw [z] at q2; cases c <;> exact q2
      exact ⟨x, _, _, _, b, rfl, ty_cls G t, tyx_of ok s rx q (by simp) q2, isi_one ok q3, post_t h s (.bl b)⟩
theorem isi_t (ok : XOk G C X Wx k call) {ts : List Ty} {p : Addr} (hne : ts ≠ []) (h : PostV G Wx σ W (isiV G.tab ts a S) Q) (s : Sim G W S H) (rx : RepV G W x a) (hp : H p = some (.tup (ts.map (tyW G)))) : rIsiT G.K [x, .ref p] H Q := by
  unfold isiV at h
  cases q : shell S a with
  | none => rw [q] at h; exact (show False from h).elim
  | some u =>
    rw [q] at h
    have h : PostV G Wx σ W (ofT ((anyTy G.tab u ts).map .bl) S) Q := h
    cases q2 : anyTy G.tab u ts with
    | none => rw [q2] at h; exact (show False from h).elim
    | some b =>
      rw [q2] at h
      exact ⟨x, p, _, _, ts.map (tyC G), b, rfl, hp, paired_map (ty_cls G) ts, tyx_of ok s rx q hne q2, isi_many ok q2, post_t h s (.bl b)⟩
theorem dEs_len {tab : Tab} {call : Call} : ∀ {es : IEs} {env : Env} {S S1 : Store} {vs : List Val}, dEs tab call es env S = .ok vs S1 → vs.length = es.len
  | .nil, _, _, _, _, h => by cases h; rfl
  | .cons e es, env, S, S1, vs, h => by
    have h : ((dE tab call e env S).bind fun v S => (dEs tab call es env S).bind fun vs S => .ok (v :: vs) S) = .ok vs S1 := h
    cases q : dE tab call e env S with
    | ok v S2 =>
      rw [q] at h
      have h : ((dEs tab call es env S2).bind fun vs S => .ok (v :: vs) S) = .ok vs S1 := h
      cases q2 : dEs tab call es env S2 with
      | ok ws S3 =>
        rw [q2] at h
        cases h
        exact congrArg Nat.succ (dEs_len q2)
      | ex x S3 => rw [q2] at h; cases h
      | bad => rw [q2] at h; cases h
    | ex x S2 => rw [q] at h; cases h
    | bad => rw [q] at h; cases h
theorem chkEs_len {C : Ck} : ∀ {es : IEs} {xs : List Expr}, chkEs C es xs = true → xs.length = es.len
  | .nil, [], _ => rfl
  | .cons e es, x :: xs, h => congrArg Nat.succ (chkEs_len (ba h).2)
  | .nil, _ :: _, h => by cases h
  | .cons _ _, [], h => by cases h
theorem post_E {r : R Val} (h : PostV G Wx σ W r Q) : PostV G (fun c o _ H => WE Wx σ c o H) [] W r Q := by
  cases r with
  | ok v S => exact h
  | ex x S => exact h
  | bad => exact h
/-- a def's call -/
theorem pe_def (ok : XOk G C X Wx k call) (hc : C.calm = true) {f : Nat} {e : Expr} {es : List Expr} {p pos : Pos} {ies : IEs} (hg : Gl X (G.nm.fnN f)) (hgl : C.glF f = true) (har : arity C.tab f (e :: es).length = true) (ha : PA X (e :: es) (tEs G Wx call ies)) (hs : noStar (e :: es) = true)
    (hl : chkEs C ies (e :: es) = true) (n2 : (G.nm.fnN f == ("__debug__" : Str)) = false) :
    PE X (.Call (.Name (G.nm.fnN f) p) (e :: es) [] pos) (tE G Wx call (.call f ies)) := by
  refine ⟨fun pins s σ H Q I ⟨W, env, S, sm, er, h⟩ => ?_⟩
  have h : PostV G Wx σ W ((dEs G.tab call ies env S).bind fun vs S => call f vs S) Q := h
  unfold arity at har
  rw [ok.tab] at har
  cases hd : G.tab.fn f with
  | none => rw [hd] at har; cases har
  | some d =>
    rw [hd] at har
    obtain ⟨har, a0⟩ := ba har
    obtain ⟨a1, a2⟩ := ba har
    obtain ⟨run, hcall, ⟨fd, ps, F, B⟩⟩ := ok.fns hc f d hd (nb a0)
    obtain ⟨ds, dvs, hb, hv, hr⟩ := B _ (of_decide_eq_true a1) (of_decide_eq_true a2)
    obtain ⟨g1, g2⟩ := ok.gl f hgl
    have F' : FnOk X.prog X.w X.K X.mg X.base (L2.CX X.prog X.w) k (G.fA f) fd ps (spR G d.np run) := by
      rw [ok.prog, ok.w, ok.K, ok.mg]
      exact F
    refine (pe_callSD F' ((ok.room hc).mono (Nat.le_succ k)) hg (by rw [ok.mg]; exact g1) (by rw [ok.K]; exact g2) (by rw [ok.K]; exact hb) hv (E := WE Wx) (fun σ => passAt ok.tk σ) ha n2 (star_cons X.env (nb (ba hs).1)) (star_any (ba hs).2)).run pins s σ H Q I ?_
    refine Den.step h sm er fun vs S1 W1 xs H1 e1 l1 s1 n1 r1 p1 => ?_
    rw [hcall] at p1
    have hlen : vs.length = (e :: es).length := (dEs_len e1).trans (chkEs_len hl).symm
    rw [hlen] at p1
    have rr : Paired (RepV G W1) (xs ++ dvs) (vs ++ dflV d (e :: es).length) := by
      have app : ∀ {as : List V} {bs : List Val}, Paired (RepV G W1) as bs → Paired (RepV G W1) (as ++ dvs) (bs ++ dflV d (e :: es).length) := fun {as bs} h => by
        induction h with
        | nil => exact hr W1
        | cons r _ ih => exact .cons r ih
      exact app r1
    refine ⟨W1, S1, _, s1, rr, ?_, post_E p1⟩
    unfold dflV
    rw [List.length_append, hlen, List.length_map, List.length_drop]
    have := of_decide_eq_true a1
    have := of_decide_eq_true a2
    omega
/-- a def, called with values, by its promise -/
theorem call_run (ok : XOk G C X Wx k call) (hc : C.calm = true) {f : Nat} {d : Fn} {ws : List Val} {vs : List V} {pins : List (Addr × Obj)} {st : Shared} {us : List Value} (hd : G.tab.fn f = some d) (har : arity G.tab f ws.length = true) (h : PostV G Wx σ W (call f ws S) Q) (s : Sim G W S H) (r : Paired (RepV G W) vs ws) (I : Inv X pins σ H st) (rv : Vals vs us) :
    wpAny (PySem.model X.prog X.w) X.A (PySem.call (.ref (G.fA f)) us) (EP X pins σ Q) X.xe st := by
  unfold arity at har
  rw [hd] at har
  obtain ⟨har, a0⟩ := ba har
  obtain ⟨a1, a2⟩ := ba har
  have a1 := of_decide_eq_true a1
  have a2 := of_decide_eq_true a2
  obtain ⟨run, hcall, ⟨fd, ps, F, B⟩⟩ := ok.fns hc f d hd (nb a0)
  obtain ⟨ds, dvs, hb, hv, hr⟩ := B _ a1 a2
  have F' : FnOk X.prog X.w X.K X.mg X.base (L2.CX X.prog X.w) k (G.fA f) fd ps (spR G d.np run) := by
    rw [ok.prog, ok.w, ok.K, ok.mg]
    exact F
  refine run_fnSD (E := WE Wx) F' ((ok.room hc).mono (Nat.le_succ k)) (by rw [ok.K]; exact hb) hv (passAt ok.tk σ) I rv ?_
  refine ⟨W, S, ws ++ dflV d ws.length, s, Paired.app' (hr W) r, ?_, ?_⟩
  · unfold dflV
    rw [List.length_append, List.length_map, List.length_drop]
    omega
  · rw [← hcall]
    exact post_E h
/-- .. without arguments -/
theorem pe_def0 (ok : XOk G C X Wx k call) (hc : C.calm = true) {f : Nat} {p pos : Pos} {ies : IEs} (hg : Gl X (G.nm.fnN f)) (hgl : C.glF f = true) (har : arity C.tab f 0 = true) (hl : chkEs C ies [] = true) (n2 : (G.nm.fnN f == ("__debug__" : Str)) = false) :
    PE X (.Call (.Name (G.nm.fnN f) p) [] [] pos) (tE G Wx call (.call f ies)) := by
  refine ⟨fun pins s σ H Q I ⟨W, env, S, sm, er, h⟩ => ?_⟩
  cases ies with
  | cons _ _ => cases hl
  | nil =>
    have h : PostV G Wx σ W (call f [] S) Q := h
    obtain ⟨g1, g2⟩ := ok.gl f hgl
    unfold arity at har
    rw [ok.tab] at har
    cases hd : G.tab.fn f with
    | none => rw [hd] at har; cases har
    | some d =>
      have har : arity G.tab f ([] : List Val).length = true := by
        unfold arity
        rw [hd] at har ⊢
        exact har
      refine wpAny_Call_Name_kw (ld_glob I hg (by rw [ok.mg]; exact g1) ?_ n2)
      exact PySem.W.callWith_K0 I.kIn (by rw [ok.K]; exact g2) (call_run (ws := []) (vs := []) (us := []) ok hc hd har h sm .nil I .nil)
/-! ### new instances -/
theorem run_makeSD {Cc f : Addr} {fd : FuncData} {ps : List Str} {sp : Sp} {dvs : List V} {ds : List Value} {E : XK} {kk : Nat} {pins : List (Addr × Obj)} {st : Shared} {us : List Value} {vs : List V} (M : Mk X.K Cc f) (F : FnOk X.prog X.w X.K X.mg X.base (L2.CX X.prog X.w) kk f fd ps sp) (hr : Room (kk + 1) X.A) (hb : Binds X.K fd ps ds) (hd : Vals dvs ds)
    (hx : PassesAt (L2.CX X.prog X.w) X σ E) (I : Inv X pins σ H st) (r : Vals vs us)
    (h : ∀ x dx, H x = none → H dx = none → dx ≠ x → sp (.ref x :: (vs ++ dvs)) (upd (upd H dx (.own x)) x (.ins Cc dx [])) (fun v H2 => v = .non ∧ Q (.ref x) H2) E) :
    wpAny (PySem.model X.prog X.w) X.A (PySem.call (.ref Cc) us) (EP X pins σ Q) X.xe st := by
  have hq := h (st.heap.objs.size + 1) st.heap.objs.size (I.hok.fresh (Nat.le_succ _)) (I.hok.fresh (Nat.le_refl _)) (Nat.ne_of_lt (Nat.lt_succ_self _))
  have I2 := Inv.made (C := Cc) I
  have r2 : Vals (V.ref (st.heap.objs.size + 1) :: (vs ++ dvs)) (Value.ref (st.heap.objs.size + 1) :: (us ++ ds)) := .cons rfl (r.append hd)
  have hl : (Value.ref (st.heap.objs.size + 1) :: us ++ ds).length = ps.length := by
    have e := r2.length
    rw [F.len _ _ _ _ hq] at e
    exact e.symm
  refine wpAny_call (make_map (f := f) I.kIn M.makes M.init (beq_iff_eq.mp M.fn) (codeAny_mono (F.run _ X.stack _ _ ⟨Value.ref (st.heap.objs.size + 1) :: us, []⟩ (Value.ref (st.heap.objs.size + 1) :: (us ++ ds)) _ _ E (hr.make Cc us [])
    (I2.env0.make Cc us []) (hb _ (Value.ref (st.heap.objs.size + 1) :: us) I2.kIn hl) r2 hq) fun r s' hq' => ?_))
  cases r with
  | error e => exact hx pins _ _ e s' I2 hq'
  | ok fl =>
    cases fl with
    | ret u =>
      obtain ⟨v, H', I3, rv, ev, q3⟩ := I2.after hq'
      subst ev
      exact ⟨rv, ⟨V.ref (st.heap.objs.size + 1), H', I3, rfl, q3⟩⟩
    | next => exact False.elim hq'
    | brk => exact False.elim hq'
    | cont => exact False.elim hq'
/-- what a new instance's making promises, by the small language -/
theorem new_run (ok : XOk G C X Wx k call) (hc0 : C.calm = true) {c : Nat} {cl : Cl} {f : Nat} {ws : List Val} {vs : List V} {pins : List (Addr × Obj)} {st : Shared} {us : List Value} (hc : G.tab.cl c = some cl) (hf : cl.init = some f) (har : arity G.tab f (ws.length + 1) = true)
    (h : PostV G Wx σ W (newV G.tab call c ws S) Q) (s : Sim G W S H) (r : Paired (RepV G W) vs ws) (I : Inv X pins σ H st) (rv : Vals vs us) :
    wpAny (PySem.model X.prog X.w) X.A (PySem.call (.ref (G.cA c)) us) (EP X pins σ Q) X.xe st := by
  have D := ok.cls c cl hc
  have M := D.mkf
  rw [hf] at M
  have M : Mk G.K (G.cA c) (G.fA f) := M
  unfold newV at h
  rw [hc] at h
  have h : PostV G Wx σ W (match cl.init with
    | none => if ws.isEmpty then finV cl.frozen S.length (S ++ [.ins c []]) else .bad
    | some f => (call f (.r S.length :: ws) (S ++ [.ins c []])).bind fun v S1 => (match v with
      | .t .non => finV cl.frozen S.length S1
      | _ => .bad)) Q := h
  rw [hf] at h
  have h : PostV G Wx σ W ((call f (.r S.length :: ws) (S ++ [.ins c []])).bind fun v S1 => (match v with
      | .t .non => finV cl.frozen S.length S1
      | _ => .bad)) Q := h
  unfold arity at har
  cases hd : G.tab.fn f with
  | none => rw [hd] at har; cases har
  | some d =>
    rw [hd] at har
    obtain ⟨har, a0⟩ := ba har
    obtain ⟨a1, a2⟩ := ba har
    have a1 := of_decide_eq_true a1
    have a2 := of_decide_eq_true a2
    obtain ⟨run, hcall, ⟨fd, ps, F, B⟩⟩ := ok.fns hc0 f d hd (nb a0)
    obtain ⟨ds, dvs, hb, hv, hr⟩ := B _ a1 a2
    have F' : FnOk X.prog X.w X.K X.mg X.base (L2.CX X.prog X.w) k (G.fA f) fd ps (spR G d.np run) := by
      rw [ok.prog, ok.w, ok.K, ok.mg]
      exact F
    refine run_makeSD (E := WE Wx σ) (by rw [ok.K]; exact M) F' (ok.room hc0) (by rw [ok.K]; exact hb) hv (passAt ok.tk σ) I rv fun x dx hx hdx hne => ?_
    have s0 : Sim G W S (upd H dx (.own x)) := s.upd_new hdx _
    have hx0 : (upd H dx (.own x)) x = none := by rw [upd_ne (Ne.symm hne)]; exact hx
    have s1 : Sim G (W.addC x) (S ++ [.ins c []]) (upd (upd H dx (.own x)) x (.ins (G.cA c) dx [])) := s0.addC hx0 (.ins .nil)
    have l1 : W.le (W.addC x) := Wd.le_addC W x
    have e1 : (W.addC x).at_ S.length = x := if_pos s.len
    refine ⟨W.addC x, _, .r S.length :: (ws ++ dflV d (ws.length + 1)), s1, .cons ⟨?_, by rw [e1]⟩ ?_, ?_, ?_⟩
    · show S.length < W.n + 1
      rw [s.len]
      exact Nat.lt_succ_self _
    · exact Paired.app' (hr _) (RepVs.mono l1 r)
    · unfold dflV
      rw [List.length_cons, List.length_append, List.length_map, List.length_drop]
      omega
    · have e2 : call f (.r S.length :: ws) (S ++ [.ins c []]) = run (.r S.length :: (ws ++ dflV d (ws.length + 1))) (S ++ [.ins c []]) := hcall _ _
      rw [e2] at h
      refine post_E (Post.step (rep' := RepV G) (h.mono l1) fun v S2 W2 y H2 _ l2 s2 r2 p2 => ?_)
      cases v with
      | r n => exact (show False from p2).elim
      | t t =>
        cases t with
        | non =>
          cases r2
          have hlt : S.length < W2.n := Nat.lt_of_lt_of_le (by show S.length < W.n + 1; rw [s.len]; exact Nat.lt_succ_self _) l2.n
          have p3 := fin_post p2 s2 hlt
          rw [l2.at_ S.length (by show S.length < W.n + 1; rw [s.len]; exact Nat.lt_succ_self _), e1] at p3
          exact ⟨rfl, p3⟩
        | _ => exact (show False from p2).elim
theorem run_make0 {Cc : Addr} {pins : List (Addr × Obj)} {st : Shared} (M : Mk0 X.K Cc) (I : Inv X pins σ H st) (h : ∀ x dx, H x = none → H dx = none → dx ≠ x → Q (.ref x) (upd (upd H dx (.own x)) x (.ins Cc dx []))) :
    wpAny (PySem.model X.prog X.w) X.A (PySem.call (.ref Cc) []) (EP X pins σ Q) X.xe st := by
  have hq := h (st.heap.objs.size + 1) st.heap.objs.size (I.hok.fresh (Nat.le_succ _)) (I.hok.fresh (Nat.le_refl _)) (Nat.ne_of_lt (Nat.lt_succ_self _))
  have I2 := Inv.made (C := Cc) I
  refine wpAny_call (make_map0 I.kIn M.makes M.init (fun self => PySem.W.Looks.of_pure (PySem.W.oi_bind self)) ?_)
  have hx : ((st.heap.push PySem.W.emptyDict).push (PySem.W.instObj Cc st.heap.objs.size)).get? (st.heap.objs.size + 1) = some (PySem.W.instObj Cc st.heap.objs.size) := by
    have := Heap.get?_push_size (st.heap.push PySem.W.emptyDict) (o := PySem.W.instObj Cc st.heap.objs.size) rfl
    rwa [Heap.size_push] at this
  have Y := PySem.W.makes_of (M := PySem.model X.prog X.w) I2.kIn M.makes
  have t1 : PySem.W.Looks (PySem.model X.prog X.w) ((st.heap.push PySem.W.emptyDict).push (PySem.W.instObj Cc st.heap.objs.size)) (typeOf (.ref (st.heap.objs.size + 1))) (.ref Cc) := (PySem.W.Looks.ld hx).andThen .now
  have t2 : PySem.W.Looks (PySem.model X.prog X.w) ((st.heap.push PySem.W.emptyDict).push (PySem.W.instObj Cc st.heap.objs.size)) (isInstance (.ref (st.heap.objs.size + 1)) (.type "object")) true := t1.andThen Y.top
  refine codeAny_call_builtin PySem.W.oi_plain PySem.W.entry_oi (@PySem.W.check_slot (PySem.model X.prog X.w) _ _ _ "object.__init__" "object" "__init__" (.ref (st.heap.objs.size + 1)) [] [] _ PySem.W.oi_kind PySem.W.oi_split t2 (PySem.W.oi_args (.ref (st.heap.objs.size + 1))) ?_)
  rw [PySem.W.oi_run]
  exact wpAny_pure (And.intro rfl ⟨V.ref (st.heap.objs.size + 1), _, I2, rfl, hq⟩)
theorem new_run0 (ok : XOk G C X Wx k call) {c : Nat} {cl : Cl} {pins : List (Addr × Obj)} {st : Shared} (hc : G.tab.cl c = some cl) (hf : cl.init = none)
    (h : PostV G Wx σ W (newV G.tab call c [] S) Q) (s : Sim G W S H) (I : Inv X pins σ H st) :
    wpAny (PySem.model X.prog X.w) X.A (PySem.call (.ref (G.cA c)) []) (EP X pins σ Q) X.xe st := by
  have D := ok.cls c cl hc
  have M := D.mkf
  rw [hf] at M
  have M : Mk0 G.K (G.cA c) := M
  unfold newV at h
  rw [hc] at h
  have h : PostV G Wx σ W (match cl.init with
    | none => finV cl.frozen S.length (S ++ [.ins c []])
    | some f => (call f [.r S.length] (S ++ [.ins c []])).bind fun v S1 => (match v with
      | .t .non => finV cl.frozen S.length S1
      | _ => .bad)) Q := h
  rw [hf] at h
  have h : PostV G Wx σ W (finV cl.frozen S.length (S ++ [.ins c []])) Q := h
  refine run_make0 (by rw [ok.K]; exact M) I fun x dx hx hdx hne => ?_
  have s0 : Sim G W S (upd H dx (.own x)) := s.upd_new hdx _
  have hx0 : (upd H dx (.own x)) x = none := by rw [upd_ne (Ne.symm hne)]; exact hx
  have s1 : Sim G (W.addC x) (S ++ [.ins c []]) (upd (upd H dx (.own x)) x (.ins (G.cA c) dx [])) := s0.addC hx0 (.ins .nil)
  have e1 : (W.addC x).at_ S.length = x := if_pos s.len
  have p3 := fin_post (h.mono (Wd.le_addC W x)) s1 (show S.length < W.n + 1 by rw [s.len]; exact Nat.lt_succ_self _)
  rw [e1] at p3
  exact p3
/-- a new instance: C(..) -/
theorem pe_newR (ok : XOk G C X Wx k call) (hcm : C.calm = true) {c : Nat} {es : List Expr} {p pos : Pos} {ies : IEs} (hg : Gl X (G.nm.clN c)) (hnew : newB C.tab c es.length = true) (ha : PA X es (tEs G Wx call ies)) (hs : noStar es = true) (hl : chkEs C ies es = true)
    (n2 : (G.nm.clN c == ("__debug__" : Str)) = false) : PE X (.Call (.Name (G.nm.clN c) p) es [] pos) (tE G Wx call (.new c ies)) := by
  unfold newB at hnew
  rw [ok.tab] at hnew
  cases hc : G.tab.cl c with
  | none => rw [hc] at hnew; cases hnew
  | some cl =>
    rw [hc] at hnew
    have hnew : (match cl.init with
      | some f => arity G.tab f (es.length + 1)
      | none => decide (es.length = 0)) = true := hnew
    cases hf : cl.init with
    | none =>
      rw [hf] at hnew
      have hnew : es.length = 0 := of_decide_eq_true hnew
      have D := ok.cls c cl hc
      have M := D.mkf
      rw [hf] at M
      have M : Mk0 G.K (G.cA c) := M
      have hm : X.mg (G.nm.clN c) = some (.ref (G.cA c)) := by rw [ok.mg]; exact D.mg
      have kp : PySem.W.keepIn X.K (.ref (G.cA c)) = true := by rw [ok.K]; exact M.kp
      cases es with
      | cons _ _ => cases hnew
      | nil =>
        refine ⟨fun pins s σ H Q I ⟨W, env, S, sm, er, h⟩ => ?_⟩
        refine wpAny_Call_Name_kw (ld_glob I hg hm ?_ n2)
        have h : PostV G Wx σ W ((dEs G.tab call ies env S).bind fun vs S => newV G.tab call c vs S) Q := h
        cases ies with
        | cons _ _ => cases hl
        | nil => exact PySem.W.callWith_K0 I.kIn kp (new_run0 ok hc hf h sm I)
    | some f =>
      rw [hf] at hnew
      have D := ok.cls c cl hc
      have M := D.mkf
      rw [hf] at M
      have M : Mk G.K (G.cA c) (G.fA f) := M
      have hm : X.mg (G.nm.clN c) = some (.ref (G.cA c)) := by rw [ok.mg]; exact D.mg
      have kp : PySem.W.keepIn X.K (.ref (G.cA c)) = true := by rw [ok.K]; exact M.kp
      have fin : ∀ (pins : List (Addr × Obj)) (st : Shared) (σ : L2.St) (H : Hp) (Q : VK) (vs : List V) (us : List Value) (ws : List Val) (S : Store) (W : Wd), ws.length = es.length → PostV G Wx σ W (newV G.tab call c ws S) Q → Sim G W S H → Paired (RepV G W) vs ws → Inv X pins σ H st → Vals vs us →
          wpAny (PySem.model X.prog X.w) X.A (PySem.call (.ref (G.cA c)) us) (EP X pins σ Q) X.xe st := fun pins st σ H Q vs us ws S W hw h s r I rv => new_run ok hcm hc hf (by rw [hw]; exact hnew) h s r I rv
      cases es with
      | nil =>
        refine ⟨fun pins s σ H Q I ⟨W, env, S, sm, er, h⟩ => ?_⟩
        refine wpAny_Call_Name_kw (ld_glob I hg hm ?_ n2)
        have h : PostV G Wx σ W ((dEs G.tab call ies env S).bind fun vs S => newV G.tab call c vs S) Q := h
        cases ies with
        | cons _ _ => cases hl
        | nil => exact PySem.W.callWith_K0 I.kIn kp (fin pins s σ H Q [] [] [] S W rfl h sm .nil I .nil)
      | cons e es =>
        refine ⟨fun pins s σ H Q I ⟨W, env, S, sm, er, h⟩ => ?_⟩
        have h : PostV G Wx σ W ((dEs G.tab call ies env S).bind fun vs S => newV G.tab call c vs S) Q := h
        refine wpAny_Call_Name_kw (ld_glob I hg hm ?_ n2)
        refine PySem.W.callWith_K (h₀ := X.base) I.ok.mod.kin kp (thn (ha.run pos pins s σ H (fun vs H1 => ∃ (ws : List Val) (S1 : Store) (W1 : Wd), ws.length = (e :: es).length ∧ PostV G Wx σ W1 (newV G.tab call c ws S1) Q ∧ Sim G W1 S1 H1 ∧ Paired (RepV G W1) vs ws) I ?_) fun us s1 ⟨vs, H1, I1, r, ws, S1, W1, h1, h2, h3, h4⟩ => ⟨I1.kIn, ?_⟩) (star_cons X.env (nb (ba hs).1)) (star_any (ba hs).2)
        · refine Den.step h sm er fun vs S1 W1 xs H1 e1 l1 s1 n1 r1 p1 => ⟨vs, S1, W1, (dEs_len e1).trans (chkEs_len hl).symm, p1, s1, r1⟩
        · exact fin pins s1 σ H1 Q vs us ws S1 W1 h1 h2 h3 h4 I1 r
/-! ### methods of one's own -/
theorem meth_ht {o : Expr} {m : Str} {apos pos : Pos} {es : List Expr} {env : PySem.Env} (h : isSup o = false) (hs : noStar es = true) (hl : es.length < 30) (hline : (apos.endLine == pos.line) = true) : eval (.Call (.Attribute o m apos) es [] pos) env = (do
      let ov ← eval o env
      standAt apos.atName
      let (f, first) ← holding [ov] (getMethod ov m (do return (← importBound o env).getD true))
      callWith pos f first (backTo pos (starEach es env)) (backToKw pos (keywordEach [] env))) := by
  refine mcall_of (abase h) (fun ov => ?_)
  have few : methodCallForm (es.length + ([] : List Keyword).length) (backTo pos (starEach es env)) (backToKw pos (keywordEach [] env)) = true := by
    have z := few_ok (env := env) (cp := pos) hs hl
    have e : (backToKw pos (keywordEach [] env)).isEmpty = true := rfl
    unfold methodCallForm
    rw [e]
    exact z
  unfold methodCall
  rw [few]
  unfold methodCallPos calleeOf
  simp only [hline, Bool.not_true, Bool.false_or, if_true, pure_bind]
/-- the method that a value has, and its promise -/
theorem meth_run (ok : XOk G C X Wx k call) {f m g : Nat} {S2 : Store} (h : methV G.tab f m a S = .ok g S2) (s : Sim G W S H) (rx : RepV G W x a) :
    S2 = S ∧ ∃ ad Cc dx gs, x = .ref ad ∧ H ad = some (.ins Cc dx gs) ∧ Cls X.K Cc ∧ Meth X.K Cc (G.nm.atN f) (G.fA g) ∧ gs.lookup (G.nm.atN f) = none ∧ (G.tab.fn g).isSome = true ∧ arity G.tab g m = true := by
  have go : ∀ (c : Nat) (fs : List (Nat × Val)), ((∃ ts, a = .t (.ins c ts) ∧ fs = ts.map fun (p : Nat × T) => (p.1, Val.t p.2)) ∨ ∃ n, a = .r n ∧ S[n]? = some (.ins c fs)) → fs.lookup f = none → ((G.tab.cl c).bind fun k => k.meths.lookup f) = some g →
      ∃ ad Cc dx gs, x = .ref ad ∧ H ad = some (.ins Cc dx gs) ∧ Cls X.K Cc ∧ Meth X.K Cc (G.nm.atN f) (G.fA g) ∧ gs.lookup (G.nm.atN f) = none ∧ (G.tab.fn g).isSome = true := fun c fs h1 h2 h3 => by
    obtain ⟨ad, dx, gs, e1, e2, e3⟩ := ins_at s rx h1
    obtain ⟨cl, e4, e5⟩ := Option.bind_eq_some_iff.mp h3
    have F := ok.cls c cl e4
    obtain ⟨n1, n2, n3⟩ := F.mt f g e5
    exact ⟨ad, _, dx, gs, e1, e2, by rw [ok.K]; exact F.cls, by rw [ok.K]; exact n2, (look_rep ok.okf n1 e3).2 h2, n3⟩
  have ari : ∀ {g' : Nat}, ariV G.tab m (some g') S = .ok g S2 → g' = g ∧ arity G.tab g m = true := fun {g'} z => by
    have z : (if arity G.tab g' m then R.ok g' S else .bad) = .ok g S2 := z
    split at z
    · rename_i b
      cases z
      exact ⟨rfl, b⟩
    · cases z
  have ari2 : ∀ {g' : Nat}, ariV G.tab m (some g') S = .ok g S2 → S2 = S ∧ True := fun {g'} z => by
    have z : (if arity G.tab g' m then R.ok g' S else .bad) = .ok g S2 := z
    split at z
    · cases z
      exact ⟨rfl, trivial⟩
    · cases z
  unfold methV at h
  split at h
  · rename_i c ts
    split at h
    · rename_i b
      cases q : (G.tab.cl c).bind fun k => k.meths.lookup f with
      | none => rw [q] at h; cases h
      | some g' =>
        rw [q] at h
        obtain ⟨e, ar⟩ := ari h
        cases e
        obtain ⟨ad, Cc, dx, gs, w1, w2, w3, w4, w5, w6⟩ := go c _ (.inl ⟨ts, rfl, rfl⟩) (by rw [look_map, Option.isNone_iff_eq_none.mp b]; rfl) q
        exact ⟨(ari2 h).1, ad, Cc, dx, gs, w1, w2, w3, w4, w5, w6, ar⟩
    · cases h
  · rename_i n
    split at h
    · rename_i c fs hc
      split at h
      · rename_i b
        cases q : (G.tab.cl c).bind fun k => k.meths.lookup f with
        | none => rw [q] at h; cases h
        | some g' =>
          rw [q] at h
          obtain ⟨e, ar⟩ := ari h
          cases e
          obtain ⟨ad, Cc, dx, gs, w1, w2, w3, w4, w5, w6⟩ := go c fs (.inr ⟨n, rfl, hc⟩) (Option.isNone_iff_eq_none.mp b) q
          exact ⟨(ari2 h).1, ad, Cc, dx, gs, w1, w2, w3, w4, w5, w6, ar⟩
      · cases h
    · cases h
  · cases h
theorem methV_ex {tab : Tab} {f m : Nat} {x : Exn} {S2 : Store} (q : methV tab f m a S = .ex x S2) : False := by
  have no : ∀ o, ariV tab m o S ≠ .ex x S2 := fun o z => by
    cases o with
    | none => cases z
    | some g =>
      have z : (if arity tab g m then R.ok g S else .bad) = .ex x S2 := z
      split at z <;> cases z
  unfold methV at q
  split at q
  · split at q
    · exact no _ q
    · cases q
  · split at q
    · split at q
      · exact no _ q
      · cases q
    · cases q
  · cases q
/-- o.m(..) -/
theorem pe_methR (ok : XOk G C X Wx k call) (hcm : C.calm = true) {f : Nat} {o : Expr} {io : IE} {es : List Expr} {ap pos : Pos} {ies : IEs} (ho : PE X o (tE G Wx call io)) (ha : PA X es (tEs G Wx call ies)) (hsup : isSup o = false) (hs : noStar es = true) (hl : chkEs C ies es = true) (hfew : es.length < 30) (hline : (ap.endLine == pos.line) = true) :
    PE X (.Call (.Attribute o (G.nm.atN f) ap) es [] pos) (tE G Wx call (.meth io f ies)) := by
  refine ⟨fun pins s σ H Q I ⟨W, env, S, sm, er, h⟩ => ?_⟩
  have h : PostV G Wx σ W ((dE G.tab call io env S).bind fun x S => (methV G.tab f (ies.len + 1) x S).bind fun g S => (dEs G.tab call ies env S).bind fun vs S => call g (x :: vs) S) Q := h
  refine PySem.W.methodCall_KW (thn (ho.run pins s σ H (fun x H1 => ∃ (v : Val) (S1 : Store) (W1 : Wd), Sim G W1 S1 H1 ∧ EnvRep G W1 σ env ∧ RepV G W1 x v ∧ PostV G Wx σ W1 ((methV G.tab f (ies.len + 1) v S1).bind fun g S => (dEs G.tab call ies env S).bind fun vs S => call g (v :: vs) S) Q) I ?_) fun u s1 ⟨x, H1, I1, rx, v, S1, W1, s2, n2, r2, p2⟩ => ?_) (meth_ht hsup hs hfew hline)
  · exact Den.step h sm er fun v S1 W1 x H1 e1 l1 s1 n1 r1 p1 => ⟨v, S1, W1, s1, n1, r1, p1⟩
  · cases q : methV G.tab f (ies.len + 1) v S1 with
    | bad => rw [q] at p2; exact (show False from p2).elim
    | ex x S => exact (methV_ex q).elim
    | ok g S2 =>
      obtain ⟨rfl, ad, Cc, dx, gs, rfl, e2, hc, hm, hno, hfn, har⟩ := meth_run ok q s2 r2
      rw [q] at p2
      have p2 : PostV G Wx σ W1 ((dEs G.tab call ies env S2).bind fun vs S => call g (v :: vs) S) Q := p2
      obtain rfl : u = Value.ref ad := rx
      refine getmeth_ok I1 e2 hc hm hno ?_
      cases hd : G.tab.fn g with
      | none => rw [hd] at hfn; cases hfn
      | some d =>
        cases es with
        | nil =>
          cases ies with
          | cons _ _ => cases hl
          | nil =>
            have p3 : PostV G Wx σ W1 (call g [v] S2) Q := p2
            exact PySem.W.callWith_K0 (first := [.ref ad]) I1.kIn hm.kp (call_run (ws := [v]) (vs := [.ref ad]) ok hcm hd har p3 s2 (.cons r2 .nil) I1 (.cons rfl .nil))
        | cons e es =>
          refine PySem.W.callWith_K (first := [.ref ad]) (h₀ := X.base) I.ok.mod.kin hm.kp (thn (ha.run pos pins s1 σ H1 (fun vs H3 => ∃ (ws : List Val) (S3 : Store) (W3 : Wd), ws.length = ies.len ∧ W1.le W3 ∧ PostV G Wx σ W3 (call g (v :: ws) S3) Q ∧ Sim G W3 S3 H3 ∧ Paired (RepV G W3) vs ws) I1 ?_) fun us s4 ⟨vs, H4, I4, r4, ws, S3, W3, hw, l3, p3, s3, rp⟩ => ⟨I4.kIn, ?_⟩) (star_cons X.env (nb (ba hs).1)) (star_any (ba hs).2)
          · exact Den.step p2 s2 n2 fun ws S3 W3 xs H3 e3 l3 s3 n3 r3 p3 => ⟨ws, S3, W3, dEs_len e3, l3, p3, s3, r3⟩
          · exact call_run (ws := v :: ws) (vs := .ref ad :: vs) ok hcm hd (by rw [List.length_cons, hw]; exact har) p3 s3 (.cons (r2.mono l3) rp) I4 (.cons rfl r4)
theorem cell_ty (hK : X.K = G.K) (h : cellB a S = true) (s : Sim G W S H) (rx : RepV G W x a) : tyV X.K "list" x H := by
  unfold cellB at h
  split at h
  · rename_i n
    obtain ⟨hn, ex⟩ := rx
    subst ex
    split at h
    · rename_i us hc
      obtain ⟨zs, ho, hp⟩ := cell_lst s hc
      exact .inl ⟨rfl, zs, SqL.of ho⟩
    · cases h
  · cases rx with
    | lst hF rl => exact .inl ⟨rfl, _, SqL.of (s.fz _ _ hF)⟩
  · cases h
end
end Rw

namespace Rw
open PySem PySem.Spec PyProof.Rows L2
/-! ### targets, walks, comprehensions -/
section
variable {G : Gd} {C : Ck} {X : Cx} {Wx : WX} {k : Nat} {call : Call} {W : Wd} {S : Store} {H : Hp} {σ : L2.St} {env : Env}
theorem wipe_set {x : Option V} {i : Nat} : ∀ {us : List Nat} {σ : L2.St}, i ∈ us → L2.wipe (σ.set i x) us = L2.wipe σ us
  | [], _, h => by cases h
  | u :: us, σ, h => by
    show (L2.wipe (σ.set i x) us).set u none = (L2.wipe σ us).set u none
    by_cases z : i ∈ us
    · rw [wipe_set z]
    · have e : i = u := by
        rcases List.mem_cons.mp h with h | h
        · exact h
        · exact absurd h z
      subst e
      have go : ∀ (us : List Nat) (σ : L2.St), i ∉ us → L2.wipe (σ.set i x) us = (L2.wipe σ us).set i x := fun us => by
        induction us with
        | nil => exact fun σ _ => rfl
        | cons v vs ih =>
          intro σ hn
          show (L2.wipe (σ.set i x) vs).set v none = ((L2.wipe σ vs).set v none).set i x
          rw [ih σ fun h => hn (List.mem_cons_of_mem _ h), List.set_comm _ _ fun z => hn (by rw [z]; exact List.mem_cons_self)]
      rw [go us σ z, List.set_set]
theorem wipe_sub {us : List Nat} : ∀ {vs : List Nat} {σ : L2.St}, (∀ i ∈ vs, i ∈ us) → L2.wipe (L2.wipe σ vs) us = L2.wipe σ us
  | [], _, _ => rfl
  | v :: vs, σ, h => by
    show L2.wipe ((L2.wipe σ vs).set v none) us = _
    rw [wipe_set (h v List.mem_cons_self)]
    exact wipe_sub fun i hi => h i (List.mem_cons_of_mem _ hi)
theorem wipe_wipe (σ : L2.St) (vs : List Nat) : L2.wipe (L2.wipe σ vs) vs = L2.wipe σ vs := wipe_sub fun _ h => h
/-- what a target does -/
def tTg (G : Gd) (many : Bool) (tg : List Nat) : TG := fun v σ H Q => ∃ (W : Wd) (S : Store) (env env2 : Env) (a : Val), Sim G W S H ∧ EnvRep G W σ env ∧ RepV G W v a ∧ target many tg a env S = some env2 ∧ ∀ σ2, EnvRep G W σ2 env2 → L2.wipe σ2 tg = L2.wipe σ tg → Q σ2 H
def tTgs (G : Gd) (tg : List Nat) : TGs := fun vs σ H Q => ∃ (W : Wd) (S : Store) (env env2 : Env) (ws : List Val), Sim G W S H ∧ EnvRep G W σ env ∧ Paired (RepV G W) vs ws ∧ setMany env tg ws = some env2 ∧ ∀ σ2, EnvRep G W σ2 env2 → (∀ us : List Nat, (∀ i ∈ tg, i ∈ us) → L2.wipe σ2 us = L2.wipe σ us) → Q σ2 H
theorem PG.imp {e : Expr} {t t' : TG} (h : PG X e t) (f : ∀ v σ H Q, t' v σ H Q → t v σ H Q) : PG X e t' := ⟨fun pins s σ H v u Q I r q => h.run pins s σ H v u Q I r (f v σ H Q q)⟩
theorem PGs.imp {es : List Expr} {t t' : TGs} (h : PGs X es t) (f : ∀ v σ H Q, t' v σ H Q → t v σ H Q) : PGs X es t' := ⟨fun pins s σ H v u Q I r q => h.run pins s σ H v u Q I r (f v σ H Q q)⟩
theorem asg_cons {e : Expr} {es : List Expr} (env : PySem.Env) (h : isStar e = false) : assignEach (e :: es) env = (false, assign e env) :: assignEach es env := by
  cases e <;> first | rfl | cases h
theorem sTgs (ok : XOk G C X Wx k call) : ∀ {tg : List Nat} {es : List Expr}, chkTg C tg es = true → PGs X es (tTgs G tg) ∧ (assignEach es X.env).length = tg.length ∧ (assignEach es X.env).findIdx? (·.1) = none
  | [], [], _ => ⟨PGs.imp pgs_nil (fun vs σ H Q ⟨W, S, env, env2, xs, sm, er, r, e, q⟩ => by
      cases xs with
      | nil =>
        cases r
        cases e
        exact ⟨rfl, q σ er fun _ _ => rfl⟩
      | cons _ _ => cases e), rfl, rfl⟩
  | i :: is, e :: es, h => by
    cases e with
    | Name x p =>
      obtain ⟨h1, h⟩ := ba h
      obtain ⟨h2, h3⟩ := ba h
      have h1 : X.N[i]? = some x := by rw [ok.N]; exact of_decide_eq_true h1
      obtain ⟨c1, c2⟩ := ok.can i x h1 h2
      obtain ⟨g, l, f⟩ := sTgs ok h3
      refine ⟨PGs.imp (pgs_cons (pg_name ok.nd h1 c1 c2) g rfl) ?_, congrArg Nat.succ l, ?_⟩
      · rintro vs σ H Q ⟨W, S, env, env2, xs, sm, er, r, e, q⟩
        cases xs with
        | nil => cases e
        | cons x xs =>
          cases r with
          | cons r rr => exact ⟨_, _, rfl, W, S, _, env2, xs, sm, er.set (v := x) r i, rr, e, fun σ2 e2 w2 => q σ2 e2 fun us hu => (w2 us fun j hj => hu j (List.mem_cons_of_mem _ hj)).trans (wipe_set (hu i List.mem_cons_self))⟩
      · show ((false, assign (.Name x p) X.env) :: assignEach es X.env).findIdx? (·.1) = none
        rw [List.findIdx?_cons, f]
        rfl
    | _ => cases h
  | [], _ :: _, h => by cases h
  | _ :: _, [], h => by cases h
theorem setMany_len : ∀ {tg : List Nat} {xs : List Val} {env env2 : Env}, setMany env tg xs = some env2 → xs.length = tg.length
  | [], [], _, _, _ => rfl
  | _ :: _, _ :: _, _, _, h => congrArg Nat.succ (setMany_len h)
  | [], _ :: _, _, _, h => by cases h
  | _ :: _, [], _, _, h => by cases h
theorem sTg (ok : XOk G C X Wx k call) {many : Bool} {tg : List Nat} {e : Expr} (h : chkT C many tg e = true) : PG X e (tTg G many tg) := by
  cases many with
  | false =>
    cases tg with
    | nil => cases e <;> cases h
    | cons i tg =>
      cases tg with
      | cons _ _ => cases e <;> cases h
      | nil =>
        cases e with
        | Name x p =>
          have h1 : X.N[i]? = some x := by rw [ok.N]; exact of_decide_eq_true (ba h).1
          obtain ⟨c1, c2⟩ := ok.can i x h1 (ba h).2
          refine PG.imp (pg_name ok.nd h1 c1 c2) fun v σ H Q ⟨W, S, env, env2, a, sm, er, r, e, q⟩ => ?_
          cases e
          exact q _ (er.set r i) (wipe_set List.mem_cons_self)
        | _ => cases h
  | true =>
    cases e with
    | Tuple es kk p =>
      obtain ⟨g, l, f⟩ := sTgs ok (ba h).1
      refine ⟨fun pins s σ H v u Q I ru ⟨W, S, env, env2, a, sm, er, r, e, q⟩ => ?_⟩
      cases a with
      | r n =>
        have e : (match S[n]? with
          | some (.lst ws) => setMany env tg ws
          | _ => none) = some env2 := e
        cases hc : S[n]? with
        | none => rw [hc] at e; cases e
        | some c =>
          cases c with
          | lst ws =>
            rw [hc] at e
            have e : setMany env tg ws = some env2 := e
            obtain ⟨zs, ho, hp⟩ := cell_lst sm hc
            obtain ⟨hn, ex⟩ := r
            subst ex
            exact (pg_lst (ok.calm (ba h).2) g l f).run pins s σ H _ u Q I ru ⟨_, _, rfl, SqL.of ho, by rw [Paired.length hp]; exact setMany_len e, W, S, env, env2, ws, sm, er, hp, e, fun σ2 e2 w2 => q σ2 e2 (w2 tg fun _ h => h)⟩
          | dead => rw [hc] at e; cases e
          | ins _ _ => rw [hc] at e; cases e
          | dct _ => rw [hc] at e; cases e
      | t t =>
        cases t with
        | tup xs =>
          cases r with
          | tup hF rl =>
            have e : setMany env tg (xs.map .t) = some env2 := e
            exact (pg_tup (ok.calm (ba h).2) g l f).run pins s σ H _ u Q I ru ⟨_, _, rfl, by rw [ok.K]; exact sameT sm.fz hF, by rw [rl.length, ← setMany_len e, List.length_map], W, S, env, env2, _, sm, er, vals_repL (vs := []) rl, e, fun σ2 e2 w2 => q σ2 e2 (w2 tg fun _ h => h)⟩
        | lst xs =>
          cases r with
          | lst hF rl =>
            have e : setMany env tg (xs.map .t) = some env2 := e
            exact (pg_lst (ok.calm (ba h).2) g l f).run pins s σ H _ u Q I ru ⟨_, _, rfl, SqL.of (sm.fz _ _ hF), by rw [rl.length, ← setMany_len e, List.length_map], W, S, env, env2, _, sm, er, vals_repL (vs := []) rl, e, fun σ2 e2 w2 => q σ2 e2 (w2 tg fun _ h => h)⟩
        | _ => cases e
    | _ => cases tg <;> cases h

end
/-- a world of which another one knows all cells and trees -/
structure Wd.sub (W W' : Wd) : Prop where
  f : Same W.F W'.F
  n : W.n ≤ W'.n
  at_ : ∀ k, k < W.n → W'.at_ k = W.at_ k
theorem Wd.le.sub {W W' : Wd} (l : W.le W') : W.sub W' := ⟨l.f, l.n, l.at_⟩
theorem Wd.sub.trans {W W1 W2 : Wd} (a : W.sub W1) (b : W1.sub W2) : W.sub W2 := ⟨a.f.trans b.f, Nat.le_trans a.n b.n, fun k hk => (b.at_ k (Nat.lt_of_lt_of_le hk a.n)).trans (a.at_ k hk)⟩
theorem RepV.monoS {G : Gd} {W W' : Wd} (l : W.sub W') {v : V} : ∀ {a : Val}, RepV G W v a → RepV G W' v a
  | .t x, h => Rep.mono l.f x v h
  | .r n, h => ⟨Nat.lt_of_lt_of_le h.1 l.n, by rw [l.at_ n h.1]; exact h.2⟩
/-- an iterator that gives these items -/
structure Wlk (G : Gd) (W : Wd) (J : It) (its : List Val × Wk) : Prop where
  go : ∀ (W' : Wd) (S' : Store) (H' : Hp) (i : Nat), i < its.1.length → W.sub W' → Sim G W' S' H' → okW its.2 S' → J.go i H'
  stop : ∀ (W' : Wd) (S' : Store) (H' : Hp), W.sub W' → Sim G W' S' H' → okW its.2 S' → J.stop its.1.length H'
  yld : ∀ (W' : Wd) (S' : Store) (H' : Hp) (i : Nat) (x : V) (H2 : Hp), i < its.1.length → W.sub W' → Sim G W' S' H' → okW its.2 S' → J.yld i H' x H2 → ∃ (W2 : Wd) (v : Val), W'.le W2 ∧ Sim G W2 S' H2 ∧ its.1[i]? = some v ∧ RepV G W2 x v
section
variable {G : Gd} {C : Ck} {X : Cx} {Wx : WX} {k : Nat} {call : Call} {W : Wd} {S : Store} {H : Hp} {σ : L2.St} {env : Env}
theorem wlk_list {a : Addr} {vs : List V} {its : List Val} (hs : ∀ (W' : Wd) (S' : Store) (H' : Hp), W.sub W' → Sim G W' S' H' → SqL G.K H' a vs) (r : Paired (RepV G W) vs its) : Wlk G W (Itl G.K a) (its, none) where
  go := fun W' S' H' i hi l s _ => walk_list.goes i H' (by rw [Paired.length r]; exact hi) (hs W' S' H' l s)
  stop := fun W' S' H' l s _ => by rw [← Paired.length r]; exact walk_list.stops H' (hs W' S' H' l s)
  yld := fun W' S' H' i x H2 hi l s _ y => by
    obtain ⟨e, hx⟩ := walk_list.yields i H' x H2 (by rw [Paired.length r]; exact hi) (hs W' S' H' l s) y
    have hi : i < its.length := hi
    obtain ⟨x', h1, h2⟩ := Paired.get (i := i) (y := its[i]) r (by simp [hi])
    rw [hx] at h1
    cases h1
    subst e
    exact ⟨W', its[i], .refl W', s, by simp [hi], h2.monoS l⟩
/-- a cell, walked -/
theorem wlk_cell {n : Nat} {ws : List Val} (hn : n < W.n) : Wlk G W (Itl G.K (W.at_ n)) (ws, some (n, ws)) := by
  have key : ∀ (W' : Wd) (S' : Store) (H' : Hp), W.sub W' → Sim G W' S' H' → okW (some (n, ws)) S' → ∃ vs, SqL G.K H' (W.at_ n) vs ∧ Paired (RepV G W') vs ws := fun W' S' H' l s w => by
    obtain ⟨_, _, o, ho, ok⟩ := s.live n _ w (by intro z; cases z)
    cases ok with
    | lst hp => exact ⟨_, SqL.of (by rw [← l.at_ n hn]; exact ho), hp⟩
  constructor
  · intro W' S' H' i hi l s w
    obtain ⟨vs, h1, h2⟩ := key W' S' H' l s w
    exact walk_list.goes i H' (by rw [Paired.length h2]; exact hi) h1
  · intro W' S' H' l s w
    obtain ⟨vs, h1, h2⟩ := key W' S' H' l s w
    show (Itl G.K (W.at_ n)).stop ws.length H'
    rw [← Paired.length h2]
    exact walk_list.stops H' h1
  · intro W' S' H' i x H2 hi l s w y
    obtain ⟨vs, h1, h2⟩ := key W' S' H' l s w
    have hi : i < ws.length := hi
    obtain ⟨e, hx⟩ := walk_list.yields i H' x H2 (by rw [Paired.length h2]; exact hi) h1 y
    obtain ⟨x', h3, h4⟩ := Paired.get (i := i) (y := ws[i]) h2 (by simp [hi])
    rw [hx] at h3
    cases h3
    subst e
    exact ⟨W', ws[i], .refl W', s, by simp [hi], h4⟩
theorem wlk_tup {a : Addr} {vs : List V} {its : List Val} (hs : ∀ (W' : Wd) (S' : Store) (H' : Hp), W.sub W' → Sim G W' S' H' → SqT G.K H' a vs) (r : Paired (RepV G W) vs its) : Wlk G W (Itt G.K a) (its, none) where
  go := fun W' S' H' i hi l s _ => walk_tup.goes i H' (by rw [Paired.length r]; exact hi) (hs W' S' H' l s)
  stop := fun W' S' H' l s _ => by rw [← Paired.length r]; exact walk_tup.stops H' (hs W' S' H' l s)
  yld := fun W' S' H' i x H2 hi l s _ y => by
    obtain ⟨e, hx⟩ := walk_tup.yields i H' x H2 (by rw [Paired.length r]; exact hi) (hs W' S' H' l s) y
    have hi : i < its.length := hi
    obtain ⟨x', h1, h2⟩ := Paired.get (i := i) (y := its[i]) r (by simp [hi])
    rw [hx] at h1
    cases h1
    subst e
    exact ⟨W', its[i], .refl W', s, by simp [hi], h2.monoS l⟩
theorem rngOk_ok {i : Int} (h : rngOk i = true) : -(2 ^ 62) ≤ i ∧ i < 2 ^ 62 := by
  unfold rngOk at h
  have := of_decide_eq_true h
  omega
theorem rng_get {lo hi : Int} {i : Nat} (h : i < (hi - lo).toNat) : (rng lo hi)[i]? = some (.t (.int (lo + (i : Int)))) := by
  unfold rng
  rw [List.getElem?_map, List.getElem?_range h]
  rfl
theorem rng_len (lo hi : Int) : (rng lo hi).length = (hi - lo).toNat := by
  unfold rng
  rw [List.length_map, List.length_range]
theorem wlk_rng {lo hi : Int} : Wlk G W (Itr lo (hi - lo).toNat) (rng lo hi, none) where
  go := fun W' S' H' i hi2 l s _ => walk_range.goes i H' (by rw [rng_len] at hi2; exact hi2) trivial
  stop := fun W' S' H' l s _ => by rw [rng_len]; exact walk_range.stops H' trivial
  yld := fun W' S' H' i x H2 hi2 l s _ y => by
    rw [rng_len] at hi2
    obtain ⟨e, hx⟩ := walk_range.yields i H' x H2 hi2 trivial y
    subst e hx
    exact ⟨W', _, .refl W', s, rng_get hi2, (show Rep G W'.F _ (.int _) from .int _)⟩
/-! comprehensions -/
theorem alloc_seize {m : Bool} {ws : List Val} {vs : List V} {D : Addr} {Q : VK} (h : PostV G Wx σ W (alloc m ws S) Q) (s : Sim G W S H) (o : Out W S D) (hD : H D = some (.lst vs)) (r : Paired (RepV G W) vs ws) : Q (.ref D) H := by
  unfold alloc at h
  split at h
  · cases m with
    | true =>
      have h : PostV G Wx σ W (.ok (.r S.length) (S ++ [.lst ws])) Q := h
      refine h (W.addC D) (.ref D) H (Wd.le_addC W D) (s.seizeC o hD (.lst r)) ⟨?_, ?_⟩
      · show S.length < W.n + 1
        rw [s.len]
        exact Nat.lt_succ_self _
      · show V.ref D = V.ref (if S.length = W.n then D else _)
        rw [if_pos s.len]
    | false =>
      have h : PostV G Wx σ W (match allT ws with
        | some xs => .ok (.t (.lst xs)) S
        | none => .bad) Q := h
      cases e : allT ws with
      | none => rw [e] at h; exact (show False from h).elim
      | some xs =>
        rw [e] at h
        exact h (W.addF D (.lst vs)) (.ref D) H (le_seizeF o.f o.b _) (s.seizeF o hD) (.lst upd_same (RepL.mono (same_upd o.f) xs vs (allT_rep r e)))
  · exact (show False from h).elim
abbrev noW : WX := fun _ _ _ _ => False
noncomputable abbrev compF (tab : Tab) (call : Call) (env : Env) (many : Bool) (tg : List Nat) (ifs : ICs) (elt : IE) : Val → Store → R (Option Val) := fun v S => match target many tg v (wipeE env tg) S with
  | some env2 => (dAnd tab call ifs env2 S).bind fun k S => if k then (dE tab call elt env2 S).bind fun y S => .ok (some y) S else .ok none S
  | none => .bad
/-- what stands at a comprehension's turn -/
def Turn (G : Gd) (Wx : WX) (call : Call) (σ : L2.St) (env : Env) (W0 : Wd) (m many : Bool) (tg : List Nat) (ifs : ICs) (elt : IE) (its : List Val × Wk) (D : Addr) (Q : VK) (i : Nat) : Hp → Prop := fun H =>
  ∃ (W : Wd) (S : Store) (acc : List Val) (vs : List V), W0.le W ∧ Sim G W S H ∧ Out W S D ∧ H D = some (.lst vs) ∧ Paired (RepV G W) vs acc ∧ EnvRep G W σ env ∧
    PostV G Wx σ W ((compL its.2 (compF G.tab call env many tg ifs elt) (its.1.drop i) acc S).bind fun ys S => alloc m ys S) Q
theorem turn_end {W0 : Wd} {m many : Bool} {tg : List Nat} {ifs : ICs} {elt : IE} {its : List Val × Wk} {D : Addr} {Q : VK} (h : Turn G Wx call σ env W0 m many tg ifs elt its D Q its.1.length H) : Q (.ref D) H := by
  obtain ⟨W, S, acc, vs, l, s, o, hD, r, er, h⟩ := h
  rw [List.drop_length] at h
  rcases Classical.em (okW its.2 S) with hw | hw
  · rw [compL_nil hw] at h
    exact alloc_seize h s o hD r
  · rw [compL_bad hw] at h
    exact (show False from h).elim
theorem turn_ok {W0 : Wd} {m many : Bool} {tg : List Nat} {ifs : ICs} {elt : IE} {its : List Val × Wk} {D : Addr} {Q : VK} {i : Nat} (h : Turn G Wx call σ env W0 m many tg ifs elt its D Q i H) : ∃ W' S', W0.sub W' ∧ Sim G W' S' H ∧ okW its.2 S' := by
  obtain ⟨W, S, acc, vs, l, s, o, hD, r, er, h⟩ := h
  refine ⟨W, S, l.sub, s, Classical.byContradiction fun hw => ?_⟩
  rw [compL_bad hw] at h
  exact (show False from h).elim
theorem turn_step {W0 W9 : Wd} {m many : Bool} {tg : List Nat} {ifs : ICs} {elt : IE} {its : List Val × Wk} {D : Addr} {Q : VK} {J : It} {i : Nat} {x : V} {H2 : Hp} (wl : Wlk G W0 J its) (hi : i < its.1.length) (h : Turn G Wx call σ env W0 m many tg ifs elt its D Q i H) (y : J.yld i H x H2) :
    tTg G many tg x (L2.wipe σ tg) H2 fun σ2 H2 => L2.wipe σ2 tg = L2.wipe σ tg ∧ Den G (fun _ (b k : Bool) => b = k) noW (dAnd G.tab call ifs) σ2 H2 fun b H3 =>
      if b = true then Den G (RepV G) noW (dE G.tab call elt) σ2 H3 fun y H4 => ∃ acc, H4 D = some (.lst acc) ∧ acc.length < sizeLine ∧ Turn G Wx call σ env W0 m many tg ifs elt its D Q (i + 1) (upd H4 D (.lst (acc ++ [y]))) else Turn G Wx call σ env W0 m many tg ifs elt its D Q (i + 1) H3 := by
  obtain ⟨W, S, acc, vs, l, s, o, hD, r, er, h⟩ := h
  have hw : okW its.2 S := Classical.byContradiction fun hw => by
    rw [compL_bad hw] at h
    exact (show False from h).elim
  obtain ⟨W2, v, l2, s2, hv, rv⟩ := wl.yld (W.pin D (.lst vs)) S H i x H2 hi ⟨l.f, l.n, l.at_⟩ (s.pin o hD) hw y
  have ev : its.1[i] = v := (List.getElem?_eq_some_iff.mp hv).2
  rw [List.drop_eq_getElem_cons hi, ev] at h
  rw [compL_cons hw] at h
  unfold compF at h
  cases e : target many tg v (wipeE env tg) S with
  | none => rw [e] at h; exact (show False from h).elim
  | some env2 =>
    rw [e] at h
    have wip : ∀ σ : L2.St, L2.wipe (L2.wipe σ tg) tg = L2.wipe σ tg := fun σ => wipe_wipe σ tg
    have er2 : EnvRep G W2 (L2.wipe σ tg) (wipeE env tg) := (EnvRep.mono l2 (er.pinned)).wipe tg
    refine ⟨W2, S, _, env2, v, s2, er2, rv, e, fun σ2 er3 w2 => ⟨w2.trans (wip σ), W2, env2, S, s2, er3, ?_⟩⟩
    have h : PostV G Wx σ W ((((dAnd G.tab call ifs env2 S).bind fun k S => if k then (dE G.tab call elt env2 S).bind fun y S => .ok (some y) S else .ok none S).nob fun o S1 => match o with
      | some y => if acc.length < szLine then compL its.2 (compF G.tab call env many tg ifs elt) (its.1.drop (i + 1)) (acc ++ [y]) S1 else .bad
      | none => compL its.2 (compF G.tab call env many tg ifs elt) (its.1.drop (i + 1)) acc S1).bind fun ys S => alloc m ys S) Q := h
    cases e2 : dAnd G.tab call ifs env2 S with
    | bad => rw [e2] at h; exact h
    | ex _ _ => rw [e2] at h; exact h.elim
    | ok b S2 =>
      rw [e2] at h
      intro W3 b' H3 l3 s3 eb
      have eb : b' = b := eb
      subst eb
      cases b' with
      | false =>
        have h : PostV G Wx σ W ((compL its.2 (compF G.tab call env many tg ifs elt) (its.1.drop (i + 1)) acc S2).bind fun ys S => alloc m ys S) Q := h
        have l23 := l2.trans l3
        obtain ⟨u1, u2, u3⟩ := unpin_sim o.f o.b l23 s3
        have ul := unpin_le o.f l23
        exact iteF ⟨_, S2, acc, vs, l.trans ul, u1, u2, u3, RepVs.mono ul r, er.mono ul, h.mono ul⟩
      | true =>
        refine iteT ⟨W3, env2, S2, s3, er3.mono l3, ?_⟩
        have h : PostV G Wx σ W ((((dE G.tab call elt env2 S2).bind fun y S => .ok (some y) S).nob fun o S1 => match o with
          | some y => if acc.length < szLine then compL its.2 (compF G.tab call env many tg ifs elt) (its.1.drop (i + 1)) (acc ++ [y]) S1 else .bad
          | none => compL its.2 (compF G.tab call env many tg ifs elt) (its.1.drop (i + 1)) acc S1).bind fun ys S => alloc m ys S) Q := h
        cases e3 : dE G.tab call elt env2 S2 with
        | bad => rw [e3] at h; exact h
        | ex _ _ => rw [e3] at h; exact h.elim
        | ok y3 S3 =>
          rw [e3] at h
          have h : PostV G Wx σ W ((if acc.length < szLine then compL its.2 (compF G.tab call env many tg ifs elt) (its.1.drop (i + 1)) (acc ++ [y3]) S3 else .bad).bind fun ys S => alloc m ys S) Q := h
          split at h
          · rename_i c
            intro W4 y' H4 l4 s4 r4
            have l24 := (l2.trans l3).trans l4
            obtain ⟨u1, u2, u3⟩ := unpin_sim o.f o.b l24 s4
            have ul := unpin_le o.f l24
            exact ⟨vs, u3, by rw [Paired.length r]; exact c, _, S3, acc ++ [y3], vs ++ [y'], l.trans ul, u1.upd_out u2 _, u2, upd_same, Paired.app' (.cons r4.unpinned .nil) (RepVs.mono ul r), er.mono ul, h.mono ul⟩
          · exact h.elim
/-- a comprehension's source: what it walks -/
abbrev iSrc (G : Gd) (Wx : WX) (call : Call) (kk : ItK) (src : IEs) : TI := Den G (fun W J its => Wlk G W J its) Wx (fun env S => (dEs G.tab call src env S).bind fun vs S => items kk vs S)
theorem lc_post {m many : Bool} {kk : ItK} {src : IEs} {tg : List Nat} {ifs : ICs} {elt : IE} {Q : VK} (h : Den G (RepV G) Wx (dE G.tab call (.comp m kk src many tg ifs elt)) σ H Q) :
    tLc (iSrc G Wx call kk src) (tTg G many tg) (Den G (fun _ (b k : Bool) => b = k) noW (dAnd G.tab call ifs)) (Den G (RepV G) noW (dE G.tab call elt)) tg σ H Q := by
  obtain ⟨W, env, S, sm, er, q⟩ := h
  have q : PostV G Wx σ W ((dEs G.tab call src env S).bind fun vs S => (items kk vs S).bind fun its S => (compL its.2 (compF G.tab call env many tg ifs elt) its.1 [] S).bind fun ys S => alloc m ys S) Q := q
  have as : ∀ {α β γ : Type} (m : R α) (f : α → Store → R β) (g : β → Store → R γ), (m.bind fun a S => (f a S).bind g) = (m.bind f).bind g := fun m f g => by cases m <;> rfl
  rw [as (dEs G.tab call src env S) (fun vs S => items kk vs S)] at q
  refine Den.step (f := fun env S => (dEs G.tab call src env S).bind fun vs S => items kk vs S) q sm er fun its S1 W1 J H1 e1 l1 s1 n1 wl p1 D hD => ?_
  refine lc_it (G := fun H' => ∃ W' S', W1.sub W' ∧ Sim G W' S' H' ∧ okW its.2 S') (Y := fun i H' x H2 => J.yld i H' x H2) ⟨fun i H' hi ⟨W', S', l, s, w⟩ => wl.go W' S' H' i hi l s w, fun H' ⟨W', S', l, s, w⟩ => wl.stop W' S' H' l s w, fun i H' x H2 hi _ y => y⟩
    (fun i => Turn G Wx call σ env W1 m many tg ifs elt its D Q i) ?_ (fun i H' hi t => turn_ok t) (fun i x H' H2 hi t y => turn_step (W9 := W1) wl hi t y) fun H' t => turn_end t
  exact ⟨W1, S1, [], [], .refl W1, s1.upd_new hD _, s1.out hD, upd_same, .nil, n1, p1⟩
end
/-! ### dicts -/
section
variable {G : Gd} {X : Cx} {Wx : WX} {call : Call} {W : Wd} {S : Store} {H : Hp} {σ : L2.St} {env : Env}
theorem nodupK_ok : ∀ {ks : List Key}, nodupK ks = true → ks.Nodup
  | [], _ => List.nodup_nil
  | k :: ks, h => by
    obtain ⟨h1, h2⟩ := ba (show (!ks.any (fun j => keyEq j k) && nodupK ks) = true from h)
    refine List.nodup_cons.mpr ⟨fun hm => ?_, nodupK_ok h2⟩
    have e : ks.any (fun j => keyEq j k) = true := List.any_eq_true.mpr ⟨k, hm, by rw [keyEq_eq]; exact decide_eq_true rfl⟩
    rw [e] at h1
    cases h1
theorem valV_none : ∀ {kvs : List (Key × V)} {k : Key}, (∀ p ∈ kvs, p.1 ≠ k) → valV kvs k = none
  | [], _, _ => rfl
  | p :: r, k, h => by
    rw [valV_neg (h p List.mem_cons_self)]
    exact valV_none fun q hq => h q (List.mem_cons_of_mem _ hq)
theorem mergeK_new : ∀ (kvs acc : List (Key × V)), (kvs.map (·.1)).Nodup → (∀ p ∈ kvs, ∀ q ∈ acc, q.1 ≠ p.1) → mergeK acc kvs = acc ++ kvs
  | [], acc, _, _ => by
    rw [List.append_nil]
    rfl
  | p :: r, acc, hn, hd => by
    rw [List.map_cons] at hn
    obtain ⟨n1, n2⟩ := List.nodup_cons.mp hn
    show mergeK (putK acc p.1 p.2) r = _
    rw [putK_new p.2 (valV_none (hd p List.mem_cons_self)), mergeK_new r (acc ++ [(p.1, p.2)]) n2 fun q hq u hu => ?_, List.append_assoc]
    · rfl
    · rcases List.mem_append.mp hu with h | h
      · exact hd q (List.mem_cons_of_mem _ hq) u h
      · rw [List.mem_singleton] at h
        subst h
        exact fun z => n1 (List.mem_map.mpr ⟨q, hq, z.symm⟩)
theorem mergeK_nil {kvs : List (Key × V)} (h : (kvs.map (·.1)).Nodup) : mergeK [] kvs = kvs := by
  rw [mergeK_new kvs [] h fun _ _ _ hq => absurd hq List.not_mem_nil]
  rfl
theorem zip_rel : ∀ {ks : List Key} {xs : List V} {vs : List Val}, Paired (RepV G W) xs vs → Paired (DR G W) (ks.zip xs) (ks.zip vs)
  | [], _, _, _ => .nil
  | _ :: _, _, _, .nil => .nil
  | _ :: _, _, _, .cons r t => .cons ⟨rfl, r⟩ (zip_rel t)
theorem zip_repD {F : Hp} : ∀ {ks : List Key} {xs : List V} {ts : List T}, RepL G F xs ts → RepD G F (ks.zip xs) (ks.zip ts)
  | [], _, _, _ => .nil
  | _ :: _, _, _, .nil => .nil
  | _ :: _, _, _, .cons r t => .cons r (zip_repD t)
theorem zip_keys : ∀ {ks : List Key} {xs : List V}, ks.length = xs.length → (ks.zip xs).map (·.1) = ks
  | [], [], _ => rfl
  | k :: ks, x :: xs, h => by
    rw [List.zip_cons_cons, List.map_cons, zip_keys (Nat.succ.inj h)]
  | [], _ :: _, h => by cases h
  | _ :: _, [], h => by cases h
/-- the rules of a display's pairs -/
noncomputable def trsOf (G : Gd) (Wx : WX) (call : Call) : List Key → IEs → List (TE × TE)
  | k :: ks, .cons e es => (tC (kV k), Den G (RepV G) Wx (dE G.tab call e)) :: trsOf G Wx call ks es
  | _, _ => []
theorem pairs_post : ∀ (ks : List Key) (es : IEs) {W : Wd} {S : Store} {H : Hp} {vs : List Val} {S' : Store} {K : List (V × V) → Hp → Prop}, ks.length = es.len → Sim G W S H → EnvRep G W σ env → dEs G.tab call es env S = .ok vs S' →
    (∀ (W' : Wd) (H' : Hp) (xs : List V), W.le W' → Sim G W' S' H' → Paired (RepV G W') xs vs → xs.length = ks.length → K ((ks.zip xs).map fun p => (kV p.1, p.2)) H') → tPairs (trsOf G Wx call ks es) σ H K
  | [], .nil, W, S, H, vs, S', K, _, sm, er, h, q => by
    cases h
    exact q W H [] (.refl W) sm .nil rfl
  | k :: ks, .cons e es, W, S, H, vs, S', K, hl, sm, er, h, q => by
    have h : (dE G.tab call e env S).bind (fun v S => (dEs G.tab call es env S).bind fun vs S => .ok (v :: vs) S) = .ok vs S' := h
    show Den G (RepV G) Wx (dE G.tab call e) σ H fun y H2 => tPairs (trsOf G Wx call ks es) σ H2 fun ps H3 => K ((kV k, y) :: ps) H3
    refine ⟨W, env, S, sm, er, ?_⟩
    cases e1 : dE G.tab call e env S with
    | bad => rw [e1] at h; cases h
    | ex _ _ => rw [e1] at h; cases h
    | ok v S1 =>
      rw [e1] at h
      have h : (dEs G.tab call es env S1).bind (fun vs S => .ok (v :: vs) S) = .ok vs S' := h
      cases e2 : dEs G.tab call es env S1 with
      | bad => rw [e2] at h; cases h
      | ex _ _ => rw [e2] at h; cases h
      | ok vs2 S2 =>
        rw [e2] at h
        cases h
        intro W1 y H1 l1 s1 r1
        refine pairs_post ks es (Nat.succ.inj hl) s1 (er.mono l1) e2 fun W2 H2 xs l2 s2 r2 hx => ?_
        exact q W2 H2 (y :: xs) (l1.trans l2) s2 (.cons (r1.mono l2) r2) (by rw [List.length_cons, List.length_cons, hx])
  | [], .cons _ _, _, _, _, _, _, _, hl, _, _, _, _ => by cases hl
  | _ :: _, .nil, _, _, _, _, _, _, hl, _, _, _, _ => by cases hl
theorem dct_seize {m : Bool} {ks : List Key} {ws : List Val} {xs : List V} {D : Addr} {Q : VK} (h : PostV G Wx σ W (dctV m ks ws S) Q) (s : Sim G W S H) (o : Out W S D) (hD : H D = some (.dK (ks.zip xs))) (r : Paired (RepV G W) xs ws) : Q (.ref D) H := by
  unfold dctV at h
  cases m with
  | true =>
    have h : PostV G Wx σ W (.ok (.r S.length) (S ++ [.dct (ks.zip ws)])) Q := h
    refine h (W.addC D) (.ref D) H (Wd.le_addC W D) (s.seizeC o hD (.dct (zip_rel r))) ⟨?_, ?_⟩
    · show S.length < W.n + 1
      rw [s.len]
      exact Nat.lt_succ_self _
    · show V.ref D = V.ref (if S.length = W.n then D else _)
      rw [if_pos s.len]
  | false =>
    have h : PostV G Wx σ W (match allT ws with
      | some xs => .ok (.t (.dct (ks.zip xs))) S
      | none => .bad) Q := h
    cases e : allT ws with
    | none => rw [e] at h; exact (show False from h).elim
    | some ts =>
      rw [e] at h
      exact h (W.addF D (.dK (ks.zip xs))) (.ref D) H (le_seizeF o.f o.b _) (s.seizeF o hD) (.dct upd_same (RepD.mono (same_upd o.f) _ _ (zip_repD (allT_rep r e))))
theorem disp_post {m : Bool} {ks : List Key} {es : IEs} {Q : VK} (hl : ks.length = es.len) (hn : nodupK ks = true) (h15 : ks.length ≤ 15) (h : Den G (RepV G) Wx (dE G.tab call (.dctD m ks es)) σ H Q) : tDisp (trsOf G Wx call ks es) σ H Q := by
  obtain ⟨W, env, S, sm, er, q⟩ := h
  have q : PostV G Wx σ W ((dEs G.tab call es env S).nob fun vs S => dctV m ks vs S) Q := q
  intro p hp
  cases e : dEs G.tab call es env S with
  | bad => rw [e] at q; exact (show False from q).elim
  | ex _ _ => rw [e] at q; exact (show False from q).elim
  | ok vs S1 =>
    rw [e] at q
    have q : PostV G Wx σ W (dctV m ks vs S1) Q := q
    have o := sm.out hp
    have s0 := (sm.upd_new hp (.dK [])).pin (o := .dK []) o upd_same
    refine pairs_post ks es hl s0 er.pinned e fun W' H' xs l s1 r hx => ?_
    obtain ⟨u1, u2, u3⟩ := unpin_sim o.f o.b l s1
    have ul := unpin_le o.f l
    have hk : mergeK [] (ks.zip xs) = ks.zip xs := mergeK_nil (by rw [zip_keys hx.symm]; exact nodupK_ok hn)
    refine ⟨u3, ks.zip xs, rfl, by rw [List.length_zip, hx, Nat.min_self]; exact h15, ?_⟩
    rw [hk]
    have r2 : Paired (RepV G (W'.unpin W.B)) xs vs := Paired.mono (fun _ _ r => r.unpinned) r
    exact dct_seize (q.mono ul) (u1.upd_out u2 _) u2 upd_same r2
theorem repD_rel : ∀ {gs : List (Key × V)} {fs : List (Key × T)}, RepD G W.F gs fs → Paired (DR G W) gs (fs.map fun p => (p.1, Val.t p.2))
  | _, _, .nil => .nil
  | _, _, .cons r t => .cons ⟨rfl, r⟩ (repD_rel t)
/-- d.update(e) -/
def rUpd : V → List V → Hp → VK → Prop := fun x ys H Q => ∃ a b kvs more, x = .ref a ∧ ys = [.ref b] ∧ a ≠ b ∧ H a = some (.dK kvs) ∧ H b = some (.dK more) ∧ kvs.length + more.length ≤ sizeLine ∧ Q .non (upd H a (.dK (mergeK kvs more)))
theorem mt_update {X : Cx} : MtR X "dict.update" rUpd := by
  intro pins s σ H x xs v us Q I rx rs h
  obtain ⟨a, b, kvs, more, rfl, rfl, hne, ha, hb, hz, q⟩ := h
  cases rx
  obtain ⟨u, rfl, ru⟩ := Vals.one rs
  cases ru
  obtain ⟨z1, d1, vs1, rel1, dd1⟩ := dk_of I.hok ha
  obtain ⟨z2, d2, vs2, rel2, dd2⟩ := dk_of I.hok hb
  refine PySem.call_meetsIn PySem.F.slot_dict_update dd1.typeIs PySem.F.entry_dict_update (PySem.F.args_dict_update_2 _ _) (PySem.meets_dict_update (mixKind X.prog X.w) a b hne d2) ⟨vs1, vs2, dd1, dd2, by rw [← rel1.length, ← rel2.length]; exact hz, fun h' dd' _ hs => ?_⟩
  have he : ∃ q, h'.get? a = some q := let ⟨q, _, _, hq, _⟩ := dd'; ⟨q, hq⟩
  have hl : (mergeK kvs more).length ≤ sizeLine := Nat.le_trans (length_mergeK more kvs) hz
  exact ⟨.non, _, d_write (t' := s.toks) I (by rw [ha]; exact True.intro) hs he (dk_new hl d1 (rel2.merge rel1) dd'), rfl, q⟩
theorem upd_any {n : Nat} {p : Addr} {b : Val} {z : V} {Q : VK} (h : PostV G Wx σ W (updV (.r n) b S) Q) (s : Sim G W S H) (rx : n < W.n ∧ V.ref p = .ref (W.at_ n)) (ry : RepV G W z b) : rUpd (.ref p) [z] H Q := by
  obtain ⟨hn, ex⟩ := rx
  cases ex
  have h : PostV G Wx σ W (match S[n]? with
    | some (.dct kvs) => if sameR (.r n) b then .bad else (match dctOf S b with
      | some more => if kvs.length + more.length < 1000 then .ok (.t .non) (S.set n (.dct (mergeKV kvs more))) else .bad
      | none => .bad)
    | _ => .bad) Q := h
  split at h
  · rename_i kvs hc
    obtain ⟨gs, ho, hp⟩ := cell_dct s hc
    split at h
    · exact (show False from h).elim
    · rename_i hsame
      split at h
      · rename_i more hm
        split at h
        · rename_i hl
          have fin : ∀ {ad : Addr} {ms : List (Key × V)}, z = .ref ad → W.at_ n ≠ ad → H ad = some (.dK ms) → Paired (DR G W) ms more → rUpd (.ref (W.at_ n)) [z] H Q := fun {ad ms} ez hne hb hp2 => by
            subst ez
            refine ⟨_, ad, gs, ms, rfl, rfl, hne, ho, hb, ?_, h W .non _ (.refl W) (s.setC hc (by intro z; cases z) (.dct (mergeKV_rel hp2 hp))) (show Rep G W.F .non .non from .non)⟩
            rw [Paired.length hp, Paired.length hp2]
            exact Nat.le_of_lt (Nat.lt_trans hl line1000)
          cases b with
          | r m =>
            obtain ⟨hm1, ez⟩ := ry
            have hm : (match S[m]? with
              | some (.dct kvs) => some kvs
              | _ => none) = some more := hm
            split at hm
            · rename_i kv2 hc2
              cases hm
              obtain ⟨ms, ho2, hp2⟩ := cell_dct s hc2
              refine fin ez (fun e => ?_) ho2 hp2
              have := s.inj n m _ _ hc hc2 (by intro z; cases z) (by intro z; cases z) e
              subst this
              exact hsame (show (n == n) = true from beq_self_eq_true n)
            · cases hm
          | t t =>
            cases t with
            | dct fs =>
              cases hm
              cases ry with
              | dct hF r =>
                refine fin rfl (fun e => ?_) (s.fz _ _ hF) (repD_rel r)
                obtain ⟨f0, _⟩ := s.live n _ hc (by intro z; cases z)
                rw [e, hF] at f0
                cases f0
            | _ => cases hm
        · exact (show False from h).elim
      · exact (show False from h).elim
  · exact (show False from h).elim
end
end Rw

namespace Rw
open PySem PySem.Spec PyProof.Rows L2
/-! ### what the check says, form by form -/
section
variable {C : Ck} {e : Expr}
theorem iv_var {i : Nat} (h : chkE C (.var i) e = true) : ∃ x p, e = .Name x p ∧ C.N[i]? = some x ∧ visB C.sc x = true ∧ okN x = true ∧ C.hs ≠ some i := by
  cases e with
  | Name x p => exact ⟨x, p, rfl, of_decide_eq_true (ba h).1, (ba (ba h).2).1, (ba (ba (ba h).2).2).1, of_decide_eq_true (ba (ba (ba h).2).2).2⟩
  | _ => cases h
theorem iv_exIs {i : Nat} {many : Bool} {ts : List (Option Nat)} (h : chkE C (.exIs i many ts) e = true) : ∃ x zs, exP e = some (x, many, zs) ∧ C.hs = some i ∧ C.N[i]? = some x ∧ visB C.sc x = true ∧ okN x = true ∧ glB C.sc ("isinstance" : Str) = true ∧ exsB C ts zs = true ∧ noStar zs = true ∧ ts.length ≤ 1000 := by
  have h : (match exP e with
    | some (x, m, zs) => decide (C.hs = some i) && (decide (C.N[i]? = some x) && (visB C.sc x && (okN x && (glB C.sc ("isinstance" : Str) && (m == many && (exsB C ts zs && (noStar zs && decide (ts.length ≤ 1000))))))))
    | none => false) = true := h
  cases q : exP e with
  | none => rw [q] at h; cases h
  | some y =>
    obtain ⟨x, m, zs⟩ := y
    rw [q] at h
    obtain ⟨h1, h⟩ := ba h
    obtain ⟨h2, h⟩ := ba h
    obtain ⟨h3, h⟩ := ba h
    obtain ⟨h4, h⟩ := ba h
    obtain ⟨h5, h⟩ := ba h
    obtain ⟨h6, h⟩ := ba h
    obtain ⟨h7, h⟩ := ba h
    obtain ⟨h8, h9⟩ := ba h
    have e1 := eq_of_beq h6
    subst e1
    exact ⟨x, zs, rfl, of_decide_eq_true h1, of_decide_eq_true h2, h3, h4, h5, h7, h8, of_decide_eq_true h9⟩
theorem iv_dctD {m : Bool} {ks : List Key} {es : IEs} (h : chkE C (.dctD m ks es) e = true) : ∃ keys values p, e = .Dict keys values p ∧ keysB ks keys = true ∧ chkEs C es values = true ∧ keys.length = values.length ∧ nodupK ks = true ∧ ks.length ≤ 15 ∧ ks.isEmpty = false := by
  cases e with
  | Dict keys values p =>
    obtain ⟨h1, h⟩ := ba (show (keysB ks keys && (chkEs C es values && (decide (keys.length = values.length) && (nodupK ks && (decide (ks.length ≤ 15) && !ks.isEmpty))))) = true from h)
    obtain ⟨h2, h⟩ := ba h
    obtain ⟨h3, h⟩ := ba h
    obtain ⟨h4, h⟩ := ba h
    obtain ⟨h5, h6⟩ := ba h
    exact ⟨keys, values, p, rfl, h1, h2, of_decide_eq_true h3, h4, of_decide_eq_true h5, nb h6⟩
  | _ => cases h
theorem iv_upd {o a : IE} (h : chkE C (.upd o a) e = true) : ∃ x ap y cp, e = .Call (.Attribute x "update" ap) [y] [] cp ∧ chkE C o x = true ∧ isSup x = false ∧ chkE C a y = true ∧ isStar y = false ∧ (ap.endLine == cp.line) = true := by
  cases e with
  | Call f ys ks cp =>
    cases f with
    | Attribute x nm ap =>
      cases ys with
      | nil => cases h
      | cons y ys =>
        cases ys with
        | cons _ _ => cases ks <;> cases h
        | nil =>
          cases ks with
          | cons _ _ => cases h
          | nil =>
            obtain ⟨h1, h⟩ := ba (show (chkE C o x && (!isSup x && (decide (nm = ("update" : Str)) && (chkE C a y && (!isStar y && (ap.endLine == cp.line)))))) = true from h)
            obtain ⟨h2, h⟩ := ba h
            obtain ⟨h3, h⟩ := ba h
            obtain ⟨h4, h⟩ := ba h
            obtain ⟨h5, h6⟩ := ba h
            have e3 : nm = ("update" : Str) := of_decide_eq_true h3
            subst e3
            exact ⟨x, ap, y, cp, rfl, h1, nb h2, h4, nb h5, h6⟩
    | _ => cases h
  | _ => cases h
theorem keysB_len : ∀ {ks : List Key} {es : List (Option Expr)}, keysB ks es = true → es.length = ks.length ∧ es.all (·.isSome) = true
  | [], [], _ => ⟨rfl, rfl⟩
  | .inl i :: ks, some e :: es, h => by
    cases e with
    | Constant c a b =>
      cases c with
      | int j =>
        obtain ⟨h1, h2⟩ := keysB_len (ba (show (decide (i = j) && keysB ks es) = true from h)).2
        exact ⟨congrArg Nat.succ h1, by rw [List.all_cons, h2]; rfl⟩
      | _ => cases h
    | _ => cases h
  | .inr x :: ks, some e :: es, h => by
    cases e with
    | Constant c a b =>
      cases c with
      | str y =>
        obtain ⟨h1, h2⟩ := keysB_len (ba (show (decide (x = y) && keysB ks es) = true from h)).2
        exact ⟨congrArg Nat.succ h1, by rw [List.all_cons, h2]; rfl⟩
      | _ => cases h
    | _ => cases h
  | .inl _ :: _, none :: _, h => by cases h
  | .inr _ :: _, none :: _, h => by cases h
  | [], _ :: _, h => by cases h
  | .inl _ :: _, [], h => by cases h
  | .inr _ :: _, [], h => by cases h
theorem keysB_cons {X : Cx} : ∀ {k : Key} {ks : List Key} {o : Option Expr} {es : List (Option Expr)}, keysB (k :: ks) (o :: es) = true → ∃ c, o = some c ∧ PE X c (tC (kV k)) ∧ keysB ks es = true
  | .inl i, ks, some e, es, h => by
    cases e with
    | Constant c a b =>
      cases c with
      | int j =>
        obtain ⟨h1, h2⟩ := ba (show (decide (i = j) && keysB ks es) = true from h)
        have e1 : i = j := of_decide_eq_true h1
        subst e1
        exact ⟨_, rfl, pe_int, h2⟩
      | _ => cases h
    | _ => cases h
  | .inr i, ks, some e, es, h => by
    cases e with
    | Constant c a b =>
      cases c with
      | str j =>
        obtain ⟨h1, h2⟩ := ba (show (decide (i = j) && keysB ks es) = true from h)
        have e1 : i = j := of_decide_eq_true h1
        subst e1
        exact ⟨_, rfl, pe_str, h2⟩
      | _ => cases h
    | _ => cases h
  | .inl _, _, none, _, h => by cases h
  | .inr _, _, none, _, h => by cases h
theorem chkEs_ln : ∀ {es : IEs} {xs : List Expr}, chkEs C es xs = true → es.len = xs.length
  | .nil, [], _ => rfl
  | .cons e es, x :: xs, h => congrArg Nat.succ (chkEs_ln (ba (show (chkE C e x && chkEs C es xs) = true from h)).2)
  | .nil, _ :: _, h => by cases h
  | .cons _ _, [], h => by cases h
theorem iv_con {t : T} (h : chkE C (.con t) e = true) : ∃ c j p, e = .Constant c j p ∧ conB t c = true := by
  cases e with
  | Constant c j p => exact ⟨c, j, p, rfl, h⟩
  | _ => cases h
theorem iv_bin {op : Operator} {a b : IE} (h : chkE C (.bin op a b) e = true) : ∃ l r p, e = .BinOp l op r p ∧ chkE C a l = true ∧ chkE C b r = true := by
  cases e with
  | BinOp l o r p =>
    have e1 : op = o := of_decide_eq_true (ba h).1
    subst e1
    exact ⟨l, r, p, rfl, (ba (ba h).2).1, (ba (ba h).2).2⟩
  | _ => cases h
theorem iv_binM {op : Operator} {a b : IE} (h : chkE C (.binM op a b) e = true) : ∃ l r p, e = .BinOp l op r p ∧ chkE C a l = true ∧ chkE C b r = true := by
  cases e with
  | BinOp l o r p =>
    have e1 : op = o := of_decide_eq_true (ba h).1
    subst e1
    exact ⟨l, r, p, rfl, (ba (ba h).2).1, (ba (ba h).2).2⟩
  | _ => cases h
theorem iv_neg {a : IE} (h : chkE C (.neg a) e = true) : ∃ x p, e = .UnaryOp .USub x p ∧ chkE C a x = true := by
  cases e with
  | UnaryOp o x p =>
    cases o with
    | USub => exact ⟨x, p, rfl, h⟩
    | _ => cases h
  | _ => cases h
theorem iv_not {a : IE} (h : chkE C (.not a) e = true) : ∃ x p, e = .UnaryOp .Not x p ∧ chkE C a x = true := by
  cases e with
  | UnaryOp o x p =>
    cases o with
    | Not => exact ⟨x, p, rfl, h⟩
    | _ => cases h
  | _ => cases h
theorem iv_cmp {op : CmpOp} {a b : IE} (h : chkE C (.cmp op a b) e = true) : ∃ l r p, e = .Compare l [op] [r] p ∧ chkE C a l = true ∧ chkE C b r = true ∧ isSet r = false := by
  cases e with
  | Compare l os rs p =>
    cases os with
    | nil => cases h
    | cons o os =>
      cases os with
      | cons _ _ => cases h
      | nil =>
        cases rs with
        | nil => cases h
        | cons r rs =>
          cases rs with
          | cons _ _ => cases h
          | nil =>
            have e1 : op = o := of_decide_eq_true (ba h).1
            subst e1
            exact ⟨l, r, p, rfl, (ba (ba h).2).1, (ba (ba (ba h).2).2).1, nb (ba (ba (ba h).2).2).2⟩
  | _ => cases h
theorem iv_cmp2 {o p : CmpOp} {a b c : IE} (h : chkE C (.cmp2 o p a b c) e = true) : ∃ l m r q, e = .Compare l [o, p] [m, r] q ∧ chkE C a l = true ∧ chkE C b m = true ∧ chkE C c r = true ∧ isSet m = false ∧ isSet r = false := by
  cases e with
  | Compare l os rs q =>
    cases os with
    | nil => cases h
    | cons o1 os =>
      cases os with
      | nil => cases h
      | cons o2 os =>
        cases os with
        | cons _ _ => cases h
        | nil =>
          cases rs with
          | nil => cases h
          | cons m rs =>
            cases rs with
            | nil => cases h
            | cons r rs =>
              cases rs with
              | cons _ _ => cases h
              | nil =>
                obtain ⟨h1, h⟩ := ba h
                obtain ⟨h2, h⟩ := ba h
                obtain ⟨h3, h⟩ := ba h
                obtain ⟨h4, h⟩ := ba h
                obtain ⟨h5, h⟩ := ba h
                obtain ⟨h6, h7⟩ := ba h
                have e1 : o = o1 := of_decide_eq_true h1
                have e2 : p = o2 := of_decide_eq_true h2
                subst e1 e2
                exact ⟨l, m, r, q, rfl, h3, h4, h5, nb h6, nb h7⟩
  | _ => cases h
theorem iv_ands {es : IEs} (h : chkE C (.ands es) e = true) : ∃ vs p, e = .BoolOp .And vs p ∧ chkEs C es vs = true := by
  cases e with
  | BoolOp o vs p =>
    cases o with
    | And => exact ⟨vs, p, rfl, h⟩
    | Or => cases h
  | _ => cases h
theorem iv_ors {es : IEs} (h : chkE C (.ors es) e = true) : ∃ vs p, e = .BoolOp .Or vs p ∧ chkEs C es vs = true := by
  cases e with
  | BoolOp o vs p =>
    cases o with
    | Or => exact ⟨vs, p, rfl, h⟩
    | And => cases h
  | _ => cases h
theorem iv_ife {t : IC} {a b : IE} (h : chkE C (.ife t a b) e = true) : ∃ c x y p, e = .IfExp c x y p ∧ chkC C t c = true ∧ chkE C a x = true ∧ chkE C b y = true := by
  cases e with
  | IfExp c x y p => exact ⟨c, x, y, p, rfl, (ba h).1, (ba (ba h).2).1, (ba (ba h).2).2⟩
  | _ => cases h
theorem iv_tup {es : IEs} (h : chkE C (.tup es) e = true) : ∃ xs k p, e = .Tuple xs k p ∧ chkEs C es xs = true ∧ noStar xs = true := by
  cases e with
  | Tuple xs k p => exact ⟨xs, k, p, rfl, (ba h).1, (ba h).2⟩
  | _ => cases h
theorem iv_lst {m : Bool} {es : IEs} (h : chkE C (.lst m es) e = true) : ∃ xs p, e = .List xs p ∧ chkEs C es xs = true ∧ noStar xs = true := by
  cases e with
  | List xs p => exact ⟨xs, p, rfl, (ba h).1, (ba h).2⟩
  | _ => cases h
theorem iv_sub {a i : IE} (h : chkE C (.sub a i) e = true) : ∃ x y p, e = .Subscript x y p ∧ chkE C a x = true ∧ chkE C i y = true ∧ isSlc y = false := by
  cases e with
  | Subscript x y p => exact ⟨x, y, p, rfl, (ba h).1, (ba (ba h).2).1, nb (ba (ba h).2).2⟩
  | _ => cases h
theorem iv_call {f : Nat} {es : IEs} (h : chkE C (.call f es) e = true) : ∃ p ys q, e = .Call (.Name (C.nm.fnN f) p) ys [] q ∧ glB C.sc (C.nm.fnN f) = true ∧ okN (C.nm.fnN f) = true ∧ chkEs C es ys = true ∧ noStar ys = true ∧ arity C.tab f ys.length = true ∧ C.glF f = true ∧ C.calm = true := by
  cases e with
  | Call g ys kw q =>
    cases g with
    | Name x p =>
      cases kw with
      | cons _ _ => cases h
      | nil =>
        obtain ⟨h1, h⟩ := ba h
        obtain ⟨h2, h⟩ := ba h
        obtain ⟨h3, h⟩ := ba h
        obtain ⟨h4, h⟩ := ba h
        obtain ⟨h5, h⟩ := ba h
        obtain ⟨h6, h7⟩ := ba h
        have e1 := of_decide_eq_true h3
        subst e1
        exact ⟨p, ys, q, rfl, h1, h2, h4, h5, h6, (ba h7).1, (ba h7).2⟩
    | _ => cases h
  | _ => cases h
theorem iv_new {c : Nat} {es : IEs} (h : chkE C (.new c es) e = true) : ∃ p ys q, e = .Call (.Name (C.nm.clN c) p) ys [] q ∧ glB C.sc (C.nm.clN c) = true ∧ okN (C.nm.clN c) = true ∧ chkEs C es ys = true ∧ noStar ys = true ∧ newB C.tab c ys.length = true ∧ C.calm = true := by
  cases e with
  | Call g ys kw q =>
    cases g with
    | Name x p =>
      cases kw with
      | cons _ _ => cases h
      | nil =>
        obtain ⟨h1, h⟩ := ba h
        obtain ⟨h2, h⟩ := ba h
        obtain ⟨h3, h⟩ := ba h
        obtain ⟨h4, h⟩ := ba h
        obtain ⟨h5, h6⟩ := ba h
        have e1 := of_decide_eq_true h3
        subst e1
        exact ⟨p, ys, q, rfl, h1, h2, h4, h5, (ba h6).1, (ba h6).2⟩
    | _ => cases h
  | _ => cases h
theorem iv_glob {g : Nat} (h : chkE C (.glob g) e = true) : ∃ p, e = .Name (C.nm.coN g) p ∧ glB C.sc (C.nm.coN g) = true ∧ okN (C.nm.coN g) = true := by
  cases e with
  | Name x p =>
    obtain ⟨h1, h⟩ := ba h
    obtain ⟨h2, h⟩ := ba h
    obtain ⟨h3, h4⟩ := ba h
    have e1 := of_decide_eq_true h3
    subst e1
    exact ⟨p, rfl, h1, h2⟩
  | _ => cases h
theorem iv_fld {o : IE} {f : Nat} (h : chkE C (.fld o f) e = true) : ∃ x p, e = .Attribute x (C.nm.atN f) p ∧ chkE C o x = true ∧ isSup x = false := by
  cases e with
  | Attribute x n p =>
    obtain ⟨h1, h⟩ := ba h
    obtain ⟨h2, h3⟩ := ba h
    have e1 := of_decide_eq_true h2
    subst e1
    exact ⟨x, p, rfl, h1, nb h3⟩
  | _ => cases h
theorem iv_meth {o : IE} {f : Nat} {es : IEs} (h : chkE C (.meth o f es) e = true) : ∃ x ap ys q, e = .Call (.Attribute x (C.nm.atN f) ap) ys [] q ∧ chkE C o x = true ∧ isSup x = false ∧ chkEs C es ys = true ∧ noStar ys = true ∧ ys.length < 20 ∧ (ap.endLine == q.line) = true ∧ C.calm = true := by
  cases e with
  | Call g ys kw q =>
    cases g with
    | Attribute x n ap =>
      cases kw with
      | cons _ _ => cases h
      | nil =>
        obtain ⟨h1, h⟩ := ba h
        obtain ⟨h2, h⟩ := ba h
        obtain ⟨h3, h⟩ := ba h
        obtain ⟨h4, h⟩ := ba h
        obtain ⟨h5, h⟩ := ba h
        obtain ⟨h6, h7⟩ := ba h
        have e1 := of_decide_eq_true h3
        subst e1
        exact ⟨x, ap, ys, q, rfl, h1, nb h2, h4, h5, of_decide_eq_true h6, (ba h7).1, (ba h7).2⟩
    | _ => cases h
  | _ => cases h
theorem iv_bm {b : BM} {m : Bool} {o : IE} {es : IEs} (h : chkE C (.bm b m o es) e = true) : ∃ x ap ys q, e = .Call (.Attribute x (bmN b) ap) ys [] q ∧ chkE C o x = true ∧ isSup x = false ∧ chkEs C es ys = true ∧ noStar ys = true ∧ bmA b ys.length = true ∧ (ap.endLine == q.line) = true := by
  cases e with
  | Call g ys kw q =>
    cases g with
    | Attribute x n ap =>
      cases kw with
      | cons _ _ => cases h
      | nil =>
        obtain ⟨h1, h⟩ := ba h
        obtain ⟨h2, h⟩ := ba h
        obtain ⟨h3, h⟩ := ba h
        obtain ⟨h4, h⟩ := ba h
        obtain ⟨h5, h⟩ := ba h
        obtain ⟨h6, h7⟩ := ba h
        have e1 := of_decide_eq_true h3
        subst e1
        exact ⟨x, ap, ys, q, rfl, h1, nb h2, h4, h5, h6, h7⟩
    | _ => cases h
  | _ => cases h
theorem iv_cix {g : Nat} {a : IE} (h : chkE C (.cix g a) e = true) : ∃ p ap y q, e = .Call (.Attribute (.Name (C.nm.coN g) p) "index" ap) [y] [] q ∧ glB C.sc (C.nm.coN g) = true ∧ okN (C.nm.coN g) = true ∧ chkE C a y = true ∧ isStar y = false ∧ (ap.endLine == q.line) = true ∧ isStrs (C.tab.con g) = true := by
  unfold chkE at h
  cases q : cixP e with
  | none => rw [q] at h; cases h
  | some z =>
    obtain ⟨x, y⟩ := z
    rw [q] at h
    obtain ⟨p, ap, cp, e1, e2⟩ := cixP_ok q
    obtain ⟨h1, h⟩ := ba h
    obtain ⟨h2, h⟩ := ba h
    obtain ⟨h3, h⟩ := ba h
    obtain ⟨h5, h⟩ := ba h
    obtain ⟨h6, h7⟩ := ba h
    have e3 := of_decide_eq_true h3
    subst e3
    exact ⟨p, ap, y, cp, e1, h1, h2, h5, nb h6, e2, h7⟩
theorem iv_lenSet {a : IE} (h : chkE C (.lenSet a) e = true) : ∃ p p2 y q q2, e = .Call (.Name "len" p) [.Call (.Name "set" p2) [y] [] q] [] q2 ∧ glB C.sc ("len" : Str) = true ∧ glB C.sc ("set" : Str) = true ∧ chkE C a y = true ∧ isStar y = false ∧ C.calm = true := by
  unfold chkE at h
  cases q : lsP e with
  | none => rw [q] at h; cases h
  | some y =>
    rw [q] at h
    obtain ⟨p, p2, q, q2, e1⟩ := lsP_ok q
    obtain ⟨h3, h⟩ := ba h
    obtain ⟨h4, h⟩ := ba h
    obtain ⟨h5, h⟩ := ba h
    obtain ⟨h6, h7⟩ := ba h
    exact ⟨p, p2, y, q, q2, e1, h3, h4, h5, nb h6, h7⟩
def chkO (C : Ck) (ie : IE) (o : Option Expr) : Bool := match o with
  | none => isNo ie
  | some x => !isNo ie && chkE C ie x
theorem iv_slc {m : Bool} {a lo hi : IE} (h : chkE C (.slc m a lo hi) e = true) : ∃ x l u p q, e = .Subscript x (.Slice l u none p) q ∧ chkE C a x = true ∧ chkO C lo l = true ∧ chkO C hi u = true := by
  cases e with
  | Subscript x sl q =>
    cases sl with
    | Slice l u st p =>
      cases st with
      | some _ => cases h
      | none =>
        obtain ⟨h1, h⟩ := ba h
        obtain ⟨h2, h3⟩ := ba h
        exact ⟨x, l, u, p, q, rfl, h1, h2, h3⟩
    | _ => cases h
  | _ => cases h
theorem iv_rev {m : Bool} {a : IE} (h : chkE C (.rev m a) e = true) : ∃ x k p1 p2 p3 q, e = .Subscript x (.Slice none none (some (.UnaryOp .USub (.Constant (.int 1) k p1) p2)) p3) q ∧ chkE C a x = true := by
  cases e with
  | Subscript x sl q =>
    cases sl with
    | Slice l u st p3 =>
      cases l with
      | some _ => cases h
      | none =>
        cases u with
        | some _ => cases h
        | none =>
          cases st with
          | none => cases h
          | some st =>
            cases st with
            | UnaryOp op c p2 =>
              cases op with
              | USub =>
                cases c with
                | Constant c k p1 =>
                  cases c with
                  | int i =>
                    obtain ⟨h1, h2⟩ := ba h
                    have e1 : i = 1 := of_decide_eq_true h1
                    subst e1
                    exact ⟨x, k, p1, p2, p3, q, rfl, h2⟩
                  | _ => cases h
                | _ => cases h
              | _ => cases h
            | _ => cases h
    | _ => cases h
  | _ => cases h
theorem iv_comp {m many : Bool} {k : ItK} {src : IEs} {tg : List Nat} {ifs : ICs} {elt : IE} (h : chkE C (.comp m k src many tg ifs elt) e = true) : ∃ x t it xs scope p, e = .ListComp x [⟨t, it, xs, 0⟩] scope p ∧ chkIt C k src it = true ∧ L2.blkC C.N C.sc scope (ownOf C.N tg) = true ∧ chkT (C.blk scope) many tg t = true ∧ chkIfs (C.blk scope) ifs xs = true ∧ chkE (C.blk scope) elt x = true ∧ C.calm = true := by
  cases e with
  | ListComp x gs scope p =>
    cases gs with
    | nil => cases h
    | cons g gs =>
      obtain ⟨t, it, xs, n⟩ := g
      cases gs with
      | cons _ _ => cases h
      | nil =>
        obtain ⟨h1, h⟩ := ba h
        obtain ⟨h2, h⟩ := ba h
        obtain ⟨h3, h⟩ := ba h
        obtain ⟨h4, h⟩ := ba h
        obtain ⟨h5, h⟩ := ba h
        obtain ⟨h6, h7⟩ := ba h
        have e1 : n = 0 := of_decide_eq_true h1
        subst e1
        exact ⟨x, t, it, xs, scope, p, rfl, h2, h3, h4, h5, h6, h7⟩
  | _ => cases h
theorem iv_blt {b : Blt} {m : Bool} {es : IEs} (h : chkE C (.blt b m es) e = true) : ∃ p y ys q, e = .Call (.Name (bltN b) p) (y :: ys) [] q ∧ glB C.sc (bltN b) = true ∧ okN (bltN b) = true ∧ chkEs C es (y :: ys) = true ∧ noStar (y :: ys) = true ∧ (needCalm b = true → C.calm = true) := by
  cases e with
  | Call g as kw q =>
    cases g with
    | Name x p =>
      cases as with
      | nil => cases kw <;> cases h
      | cons y ys =>
        cases kw with
        | cons _ _ => cases h
        | nil =>
          obtain ⟨h1, h⟩ := ba h
          obtain ⟨h2, h⟩ := ba h
          obtain ⟨h3, h⟩ := ba h
          obtain ⟨h4, h⟩ := ba h
          obtain ⟨h5, h6⟩ := ba h
          have e1 := of_decide_eq_true h3
          subst e1
          exact ⟨p, y, ys, q, rfl, h1, h2, h4, h5, fun z => by rw [z] at h6; exact h6⟩
    | _ => cases h
  | _ => cases h
theorem iv_isi {a : IE} {many : Bool} {ts : List Ty} (h : chkE C (.isi a many ts) e = true) : (∃ t p y z q r, many = false ∧ ts = [t] ∧ e = .Call (.Name "isinstance" p) [y, .Name (tyN C.nm t) z] [] q ∧ r = tyN C.nm t ∧ glB C.sc ("isinstance" : Str) = true ∧ okN ("isinstance" : Str) = true ∧ chkE C a y = true ∧ isStar y = false ∧ glB C.sc r = true ∧ okN r = true ∧ isCl C.tab t = true) ∨
    (∃ p y zs k z q, many = true ∧ e = .Call (.Name "isinstance" p) [y, .Tuple zs k z] [] q ∧ glB C.sc ("isinstance" : Str) = true ∧ okN ("isinstance" : Str) = true ∧ chkE C a y = true ∧ isStar y = false ∧ tysB C ts zs = true ∧ noStar zs = true ∧ ts ≠ [] ∧ ts.length ≤ 1000) := by
  cases e with
  | Call g as kw q =>
    cases g with
    | Name x p =>
      cases as with
      | nil => cases many <;> (cases ts with | nil => cases h | cons _ ts => cases ts <;> cases h)
      | cons y ys =>
        cases ys with
        | nil => cases many <;> (cases ts with | nil => cases h | cons _ ts => cases ts <;> cases h)
        | cons ty ys =>
          cases ys with
          | cons _ _ => cases many <;> (cases ts with | nil => cases ty <;> cases h | cons _ ts => cases ts <;> cases ty <;> cases h)
          | nil =>
            cases kw with
            | cons _ _ => cases many <;> (cases ts with | nil => cases ty <;> cases h | cons _ ts => cases ts <;> cases ty <;> cases h)
            | nil =>
              cases many with
              | false =>
                cases ts with
                | nil => cases ty <;> cases h
                | cons t ts =>
                  cases ts with
                  | cons _ _ => cases ty <;> cases h
                  | nil =>
                    cases ty with
                    | Name z zp =>
                      obtain ⟨h1, h⟩ := ba h
                      obtain ⟨h2, h⟩ := ba h
                      obtain ⟨h3, h⟩ := ba h
                      obtain ⟨h4, h⟩ := ba h
                      obtain ⟨h5, h⟩ := ba h
                      obtain ⟨h6, h⟩ := ba h
                      obtain ⟨h7, h⟩ := ba h
                      obtain ⟨h8, h9⟩ := ba h
                      have e1 := of_decide_eq_true h3
                      have e2 := of_decide_eq_true h8
                      subst e1 e2
                      exact .inl ⟨t, p, y, zp, q, _, rfl, rfl, rfl, rfl, h1, h2, h4, nb h5, h6, h7, h9⟩
                    | _ => cases h
              | true =>
                cases ty with
                | Tuple zs k z =>
                  obtain ⟨h1, h⟩ := ba h
                  obtain ⟨h2, h⟩ := ba h
                  obtain ⟨h3, h⟩ := ba h
                  obtain ⟨h4, h⟩ := ba h
                  obtain ⟨h5, h⟩ := ba h
                  obtain ⟨h6, h⟩ := ba h
                  obtain ⟨h7, h⟩ := ba h
                  obtain ⟨h8, h9⟩ := ba h
                  have e1 := of_decide_eq_true h3
                  subst e1
                  exact .inr ⟨p, y, zs, k, z, q, rfl, rfl, h1, h2, h4, nb h5, h6, h7, (fun z => by subst z; cases h8), of_decide_eq_true h9⟩
                | _ => cases ts with | nil => cases h | cons _ ts => cases ts <;> cases h
    | _ => cases many <;> (cases ts with | nil => cases h | cons _ ts => cases ts <;> cases h)
  | _ => cases many <;> (cases ts with | nil => cases h | cons _ ts => cases ts <;> cases h)
end
section
variable {G : Gd} {C : Ck} {X : Cx} {Wx : WX} {k : Nat} {call : Call}
theorem nodupI_ok : ∀ {ns : List Int}, nodupI ns = true → ns.Nodup
  | [], _ => List.nodup_nil
  | i :: is, h => by
    obtain ⟨h1, h2⟩ := ba h
    refine List.nodup_cons.mpr ⟨fun hm => ?_, nodupI_ok h2⟩
    have z := nb h1
    rw [List.contains_iff_mem.mpr hm] at z
    cases z
theorem strsT_rep {F : Hp} : ∀ {ts : List T} {ys : List Str} {vs : List V}, strsT ts = some ys → RepL G F vs ts → vs = ys.map V.str
  | [], _, _, h, r => by cases h; cases r; rfl
  | .str x :: ts, _, _, h, r => by
    obtain ⟨zs, e1, e2⟩ := Option.map_eq_some_iff.mp (show (strsT ts).map (x :: ·) = some _ from h)
    subst e2
    cases r with
    | cons r rr =>
      cases r
      rw [strsT_rep e1 rr]
      rfl
  | .non :: _, _, _, h, _ => by cases h
  | .bl _ :: _, _, _, h, _ => by cases h
  | .int _ :: _, _, _, h, _ => by cases h
  | .tup _ :: _, _, _, h, _ => by cases h
  | .lst _ :: _, _, _, h, _ => by cases h
  | .ins _ _ :: _, _, _, h, _ => by cases h
  | .dct _ :: _, _, _, h, _ => by cases h
  | .fn _ :: _, _, _, h, _ => by cases h
  | .scr _ :: _, _, _, h, _ => by cases h
theorem pa_tys (ok : XOk G C X Wx k call) : ∀ {ts : List Ty} {zs : List Expr}, tysB C ts zs = true → noStar zs = true → PA X zs (fun σ H Q => Q (ts.map (tyW G)) H)
  | [], [], _, _ => pa_nil
  | t :: ts, z :: zs, h, hs => by
    cases z with
    | Name x p =>
      obtain ⟨h1, h⟩ := ba h
      obtain ⟨h2, h⟩ := ba h
      obtain ⟨h3, h⟩ := ba h
      obtain ⟨h4, h5⟩ := ba h
      have e1 := of_decide_eq_true h3
      rw [ok.nm] at e1
      subst e1
      rw [ok.tab] at h4
      exact PA.imp (pa_cons (pe_ty ok (ok.kindOf h1) h4 (okN_3 h2) (okN_1 h2)) (pa_tys ok h5 (ba hs).2) (star_cons X.env (nb (ba hs).1))) fun σ H Q q => q
    | _ => cases h
  | [], _ :: _, h, _ => by cases h
  | _ :: _, [], h, _ => by cases h
theorem tysB_ne {ts : List Ty} {zs : List Expr} (h : tysB C ts zs = true) (hz : zs ≠ []) : ts ≠ [] := by
  cases ts with
  | nil =>
    cases zs with
    | nil => exact absurd rfl hz
    | cons _ _ => cases h
  | cons _ _ => exact fun z => nomatch z
theorem bind_assoc {α β γ : Type} (m : R α) (f : α → Store → R β) (g : β → Store → R γ) : (m.bind f).bind g = m.bind fun a S => (f a S).bind g := by
  cases m <;> rfl
theorem cmpW_bind {γ δ : Type} {rep : Wd → δ → γ → Prop} {W : Wd} {σ : L2.St} {S : Store} {op : CmpOp} {v w : Val} {f : Val → Store → R γ} {Q : δ → Hp → Prop} (h : Post G rep Wx σ W ((cmpW op v w S).bind f) Q) :
    ∃ b, cmpW op v w S = .ok (.t (.bl b)) S ∧ Post G rep Wx σ W (f (.t (.bl b)) S) Q := by
  unfold cmpW at h ⊢
  split at h
  · rename_i x y e1 e2
    cases q : cmpT op x y with
    | none => rw [q] at h; exact (show False from h).elim
    | some b =>
      rw [q] at h
      exact ⟨b, rfl, h⟩
  · exact (show False from h).elim
theorem cmpV_bind {γ δ : Type} {rep : Wd → δ → γ → Prop} {W : Wd} {σ : L2.St} {S : Store} {op : CmpOp} {v w : Val} {f : Val → Store → R γ} {Q : δ → Hp → Prop} (h : Post G rep Wx σ W ((cmpV op v w S).bind f) Q) :
    ∃ b, cmpV op v w S = .ok (.t (.bl b)) S ∧ Post G rep Wx σ W (f (.t (.bl b)) S) Q := by
  unfold cmpV at h ⊢
  split at h
  · exact ⟨false, rfl, h⟩
  · exact ⟨true, rfl, h⟩
  · exact cmpW_bind h
theorem lm_false {o p : CmpOp} {m r : Expr} (h : isSet r = false) : lastMarks [o, p] [m, r] = false := isSet_ok (op := p) h
theorem iv_rng1 {C : Ck} {a : IE} {e : Expr} (h : chkIt C .range (.cons a .nil) e = true) : ∃ p y q, e = .Call (.Name "range" p) [y] [] q ∧ glB C.sc ("range" : Str) = true ∧ chkE C a y = true ∧ isStar y = false := by
  cases e with
  | Call f es kw q =>
    cases f with
    | Name x p =>
      cases es with
      | nil => cases kw <;> cases h
      | cons y ys =>
        cases ys with
        | cons _ _ => cases kw <;> cases h
        | nil =>
          cases kw with
          | cons _ _ => cases h
          | nil =>
            obtain ⟨h1, h⟩ := ba h
            obtain ⟨h2, h⟩ := ba h
            obtain ⟨h3, h4⟩ := ba h
            have e1 := of_decide_eq_true h1
            subst e1
            exact ⟨p, y, q, rfl, h2, h3, nb h4⟩
    | _ => cases h
  | _ => cases h
theorem iv_rng2 {C : Ck} {a b : IE} {e : Expr} (h : chkIt C .range (.cons a (.cons b .nil)) e = true) : ∃ p y z q, e = .Call (.Name "range" p) [y, z] [] q ∧ glB C.sc ("range" : Str) = true ∧ chkE C a y = true ∧ chkE C b z = true ∧ isStar y = false ∧ isStar z = false := by
  cases e with
  | Call f es kw q =>
    cases f with
    | Name x p =>
      cases es with
      | nil => cases kw <;> cases h
      | cons y ys =>
        cases ys with
        | nil => cases kw <;> cases h
        | cons z ys =>
          cases ys with
          | cons _ _ => cases kw <;> cases h
          | nil =>
            cases kw with
            | cons _ _ => cases h
            | nil =>
              obtain ⟨h1, h⟩ := ba h
              obtain ⟨h2, h⟩ := ba h
              obtain ⟨h3, h⟩ := ba h
              obtain ⟨h4, h⟩ := ba h
              obtain ⟨h5, h6⟩ := ba h
              have e1 := of_decide_eq_true h1
              subst e1
              exact ⟨p, y, z, q, rfl, h2, h3, h4, nb h5, nb h6⟩
    | _ => cases h
  | _ => cases h
theorem no_it (C : Ck) {kk : ItK} {src : IEs} {it : Expr} (h : kk = .enum ∨ kk = .zip) : ¬ chkIt C kk src it = true := by
  intro z
  rcases h with rfl | rfl
  · cases src with
    | nil => cases it <;> cases z
    | cons a as => cases as with
      | nil => cases it <;> cases z
      | cons b bs => cases bs <;> (cases it <;> cases z)
  · cases src with
    | nil => cases it <;> cases z
    | cons a as => cases as with
      | nil => cases it <;> cases z
      | cons b bs => cases bs <;> (cases it <;> cases z)
theorem it_noset {C : Ck} : ∀ {kk : ItK} {src : IEs} {it : Expr}, chkIt C kk src it = true → ∀ (env : PySem.Env) x, foldedSetIterable it env x = pure x
  | .seq, .cons a .nil, it, h, env, x => by
    have z := nb (ba (show (chkE C a it && !isSet it) = true from h)).2
    cases it <;> first | rfl | cases z
  | .range, .cons a .nil, it, h, env, x => by
    obtain ⟨p, y, q, rfl, _⟩ := iv_rng1 h
    rfl
  | .range, .cons a (.cons b .nil), it, h, env, x => by
    obtain ⟨p, y, z, q, rfl, _⟩ := iv_rng2 h
    rfl
  | .seq, .nil, _, h, _, _ => by cases h
  | .seq, .cons _ (.cons _ _), _, h, _, _ => by cases h
  | .range, .nil, _, h, _, _ => by cases h
  | .range, .cons _ (.cons _ (.cons _ _)), _, h, _, _ => by cases h
  | .enum, src, it, h, _, _ => absurd h (no_it C (.inl rfl))
  | .zip, src, it, h, _, _ => absurd h (no_it C (.inr rfl))
theorem look_blk {sc : Scope} {kd : NameKind} (hk : kd ≠ .free) : ∀ {names : List (Str × NameKind)} {x : Str}, names.lookup x = some kd →
    (names.map fun (n, k) => if (k == NameKind.free && sc.kind == .function && sc.names.lookup n == some .cell) then (n, NameKind.cell) else (n, k)).lookup x = some kd
  | [], _, h => by simp at h
  | (n, k) :: r, x, h => by
    have ih := @look_blk sc kd hk r x
    show List.lookup x ((if (k == NameKind.free && sc.kind == .function && sc.names.lookup n == some .cell) = true then (n, NameKind.cell) else (n, k)) :: _) = _
    by_cases z : x == n
    · have e : k = kd := by
        simp only [List.lookup, z] at h
        exact Option.some.inj h
      subst e
      have e2 : (k == NameKind.free) = false := beq_eq_false_iff_ne.mpr hk
      rw [e2]
      simp only [Bool.false_and, Bool.false_eq_true, if_false, List.lookup, z]
    · have z : (x == n) = false := by simpa using z
      simp only [List.lookup, z] at h
      split <;> (simp only [List.lookup, z]; exact ih h)
theorem scope_blk {env : PySem.Env} {sc scope : Scope} (h : env.scope = sc) : relabel scope env = blkSc sc scope := by
  subst h
  rfl
theorem XOk.blk {C : Ck} {X : Cx} {Wx : WX} (ok : XOk G C X Wx k call) (hcm : C.calm = true) (s : Shared) (H : Hp) (c : Addr) (cl : List (Str × Addr)) (fp : List Addr) (scope : Scope) : XOk G (C.blk scope) (X.blk s H scope (compEnvC scope cl c X.env) fp) noW k call :=
  { prog := ok.prog, w := ok.w, K := ok.K, mg := ok.mg, N := ok.N, nd := ok.nd, sc := scope_blk ok.sc, room := ok.room, roomH := ok.roomH, fnsH := ok.fnsH, hu := ok.hu, hs := ok.hs, cs := ok.cs, hx := fun i a c e => absurd ((congrArg (Option.map fun h => h.1) e).symm.trans (ok.hs.trans (ok.cs hcm))) (fun z => nomatch z), stk := fun z => absurd (show false = true from z) Bool.false_ne_true, calm := ok.calm, tk := takes0, pas := PassesOwn.never, tab := ok.tab, nm := ok.nm, free := ok.free, gl := ok.gl, cls := ok.cls, fns := ok.fns, okf := ok.okf, con := ok.con, exc := ok.exc,
    can := fun i x hi hx => by
      have hx : locB scope x = true := hx
      have lk : ∀ {kd : NameKind}, kd ≠ .free → scope.names.lookup x = some kd → (X.blk s H scope (compEnvC scope cl c X.env) fp).env.scope.names.lookup x = some kd := fun {kd} hk h => by
        show (relabel scope X.env).names.lookup x = _
        rw [scope_blk ok.sc]
        exact look_blk hk h
      unfold locB at hx
      cases q : scope.names.lookup x with
      | none => rw [q] at hx; cases hx
      | some kd =>
        rw [q] at hx
        cases kd with
        | «local» => exact ⟨.inl (lk (nomatch ·) q), .inr (lk (nomatch ·) q)⟩
        | cell => exact ⟨.inr (lk (nomatch ·) q), .inl (by show (scope.names.lookup x == some .cell) = true; rw [q]; rfl)⟩
        | _ => cases hx }
theorem bmA_len {b : BM} {n : Nat} (h : bmA b n = true) : n ≤ 1 := by
  cases b with
  | append => have := of_decide_eq_true (p := n = 1) h; omega
  | pop => have := of_decide_eq_true (p := n = 0) h; omega
  | popi => have := of_decide_eq_true (p := n = 1) h; omega
  | index => have := of_decide_eq_true (p := n = 1) h; omega
  | count => have := of_decide_eq_true (p := n = 1) h; omega
  | _ => cases h
theorem sO {C : Ck} {X : Cx} {Wx : WX} : ∀ (ie : IE) (o : Option Expr), (∀ x, chkE C ie x = true → PE X x (tE G Wx call ie)) → chkO C ie o = true → PO X o (Den G (fun _ (a b : Option Int) => a = b) Wx (fun env S => if isNo ie then .ok none S else (dE G.tab call ie env S).bind fun y S => optI y S))
  | ie, none, _, h => by
    have h : isNo ie = true := h
    refine ⟨fun pins s σ H Q I ⟨W, env, S, sm, er, q⟩ => po_none.run pins s σ H Q I ?_⟩
    rw [h] at q
    exact Post.ok (rep := fun _ (a b : Option Int) => a = b) q sm rfl
  | ie, some x, hE, h => by
    obtain ⟨h1, h2⟩ := ba h
    refine ⟨fun pins s σ H Q I ⟨W, env, S, sm, er, q⟩ => (po_some (hE x h2)).run pins s σ H Q I ?_⟩
    rw [nb h1] at q
    refine Den.step (show Post G (fun _ (a b : Option Int) => a = b) Wx σ W ((dE G.tab call ie env S).bind fun y S => optI y S) Q from q) sm er fun v S1 W1 x H1 e1 l1 s1 n1 r1 p1 => ?_
    cases v with
    | r n => exact (show False from p1).elim
    | t t =>
      cases t with
      | int i => cases r1; exact ⟨i, rfl, Post.ok (rep := fun _ (a b : Option Int) => a = b) p1 s1 rfl⟩
      | _ => exact (show False from p1).elim
theorem pa1 {X : Cx} {Wx : WX} {a : IE} {y : Expr} (h : PE X y (tE G Wx call a)) (hs : isStar y = false) : PA X [y] (tEs G Wx call (.cons a .nil)) :=
  PA.imp (pa_cons h pa_nil (star_cons X.env hs)) fun σ H Q ⟨W, env, S, sm, er, q⟩ => Den.step q sm er fun v S1 W1 x H1 e1 l1 s1 n1 r1 p1 => Post.ok (rep := fun W => Paired (RepV G W)) p1 s1 (.cons r1 .nil)
theorem pa2 {X : Cx} {Wx : WX} {a b : IE} {y z : Expr} (h : PE X y (tE G Wx call a)) (h2 : PE X z (tE G Wx call b)) (hs : isStar y = false) (hs2 : isStar z = false) : PA X [y, z] (tEs G Wx call (.cons a (.cons b .nil))) :=
  PA.imp (pa_cons h (pa1 h2 hs2) (star_cons X.env hs)) fun σ H Q ⟨W, env, S, sm, er, q⟩ =>
      Den.step q sm er fun v S1 W1 x H1 e1 l1 s1 n1 r1 p1 => Den.step p1 s1 n1 fun ws S2 W2 ys H2 e2 l2 s2 n2 r2 p2 => Post.ok (rep := fun W => Paired (RepV G W)) p2 s2 (.cons (r1.mono l2) r2)
/-! ### isinstance of the handled exception -/
def exV (G : Gd) : Option Nat → V
  | none => .ty "ValueError"
  | some d => .ref (G.eA d)
def exO (G : Gd) : Option Nat → Value
  | none => .type "ValueError"
  | some d => .ref (G.eA d)
theorem ex_cls (G : Gd) (t : Option Nat) : ClsV (exV G t) (exO G t) := by
  cases t <;> first | exact .ty _ | exact .own _
theorem ex_rel (G : Gd) (t : Option Nat) : RelV (exV G t) (exO G t) := by
  cases t <;> rfl
/-- isinstance(e, (c1, c2, ..)), e the exception that the suite holds -/
def rIsET (K : PySem.W.Frag) (D a : Addr) : List V → Hp → VK → Prop := fun xs H Q => ∃ (tp : Addr) (cs : List V) (us : List Value) (b : Bool), xs = [.ref a, .ref tp] ∧ H tp = some (.tup cs) ∧ Paired ClsV cs us ∧ PySem.W.kitAny K (.ref D) us = some b ∧ Q (.bl b) H
theorem is_eT {X : Cx} {a D : Addr} {oe : Obj} (C : ExcC X.K D) (hpn : (a, oe) ∈ X.pn) (hz : Zc (.ref D) none oe) (hf : ∃ vs, oe.data = .fields vs) : CallR X (.builtin "isinstance") (rIsET X.K D a) := by
  intro pins s σ H xs us Q I r h
  obtain ⟨tp, cs, ws, b, rfl, hT, kk, e, q⟩ := h
  obtain ⟨u1, u2, rfl, r1, r2⟩ := vals2 r
  cases (show u1 = Value.ref a from r1)
  cases (show u2 = Value.ref tp from r2)
  obtain ⟨_, its, rv, o, h1, h2, n, h3⟩ := (show ObjOk X.prog X.w H s.heap tp (.tup cs) from I.hok tp _ hT)
  have e3 := ClsV.all kk rv
  subst e3
  obtain ⟨oc, od, dt, sl⟩ := o
  simp only at h2 h3
  subst h2 h3
  obtain ⟨hget, _⟩ := I.pin (a, oe) (List.mem_append.mpr (.inl hpn))
  obtain ⟨vs, hv⟩ := hf
  have J : PySem.W.InstAt s.heap a oe D none := by
    obtain ⟨oc, od, oda, osl⟩ := oe
    obtain ⟨h1, h2⟩ := hz
    dsimp only at h1 h2 hv
    subst h1 h2 hv
    exact ⟨hget, rfl, rfl, trivial⟩
  exact PySem.W.kia_tup (PySem.W.handS_kitx_exc C.hg C.hk C.hs C.hd C.ha C.hn C.ht C.hm) I.kIn J h1 e (fun z => nomatch z) fun tk => ⟨.bl b, H, I.kept (t' := tk) fun _ _ z => z, rfl, q⟩
/-- one class, asked of the exception that is handled -/
theorem is_e {X : Cx} {a D : Addr} {oe : Obj} (C : ExcC X.K D) (hpn : (a, oe) ∈ X.pn) (hz : Zc (.ref D) none oe) (hf : ∃ vs, oe.data = .fields vs) : CallR X (.builtin "isinstance") (rIsE X.K D a) := by
  intro pins s σ H xs us Q I r h
  obtain ⟨c, cv, b, rfl, hcv, e, q⟩ := h
  obtain ⟨u1, u2, rfl, r1, r2⟩ := vals2 r
  cases (show u1 = Value.ref a from r1)
  cases hcv _ r2
  obtain ⟨hget, _⟩ := I.pin (a, oe) (List.mem_append.mpr (.inl hpn))
  obtain ⟨vs, hv⟩ := hf
  have J : PySem.W.InstAt s.heap a oe D none := by
    obtain ⟨oc, od, oda, osl⟩ := oe
    obtain ⟨h1, h2⟩ := hz
    dsimp only at h1 h2 hv
    subst h1 h2 hv
    exact ⟨hget, rfl, rfl, trivial⟩
  exact PySem.W.kia_one (PySem.W.handS_kitx_exc C.hg C.hk C.hs C.hd C.ha C.hn C.ht C.hm) I.kIn J e (fun z => nomatch z) fun tk => ⟨.bl b, H, I.kept (t' := tk) fun _ _ z => z, rfl, q⟩
section
variable {C : Ck} {X : Cx} {Wx : WX} {call : Call} {G : Gd} {k : Nat}
theorem ex_free : ("ValueError" : Str) ∈ ["len", "int", "str", "min", "max", "abs", "list", "tuple", "all", "any", "sum", "divmod", "sorted", "bool", "isinstance", "range", "enumerate", "zip", "dict", "set", "ValueError"].map Str.ofString := by decide +kernel
theorem pa_exs (ok : XOk G C X Wx k call) : ∀ {ts : List (Option Nat)} {zs : List Expr}, exsB C ts zs = true → noStar zs = true → PA X zs (fun σ H Q => Q (ts.map (exV G)) H)
  | [], [], _, _ => pa_nil
  | none :: ts, z :: zs, h, hs => by
    cases z with
    | Name x p =>
      obtain ⟨h1, h⟩ := ba h
      obtain ⟨h2, h⟩ := ba h
      obtain ⟨h3, h4⟩ := ba h
      have e1 := of_decide_eq_true h3
      subst e1
      exact PA.imp (pa_cons (pe_bltn (ok.kindOf h1) (by rw [ok.mg]; exact ok.free _ ex_free) (by show bootBuiltins (Str.ofString "ValueError") = some (.type "ValueError"); decide +kernel) (ex_rel G none) (okN_3 h2) (okN_1 h2)) (pa_exs ok h4 (ba hs).2) (star_cons X.env (nb (ba hs).1))) fun σ H Q q => q
    | _ => cases h
  | some d :: ts, z :: zs, h, hs => by
    cases z with
    | Name x p =>
      obtain ⟨h1, h⟩ := ba h
      obtain ⟨h2, h⟩ := ba h
      obtain ⟨h3, h⟩ := ba h
      obtain ⟨h4, h5⟩ := ba h
      have e1 := of_decide_eq_true h3
      rw [ok.nm] at e1
      subst e1
      rw [ok.tab] at h4
      obtain ⟨l, hl⟩ := Option.isSome_iff_exists.mp h4
      exact PA.imp (pa_cons (pe_glob (ok.kindOf h1) (by rw [ok.mg]; exact (ok.exc d l hl).mg) (ex_rel G (some d)) (okN_1 h2)) (pa_exs ok h5 (ba hs).2) (star_cons X.env (nb (ba hs).1))) fun σ H Q q => q
    | _ => cases h
  | [], _ :: _, h, _ => by cases h
  | none :: _, [], h, _ => by cases h
  | some _ :: _, [], h, _ => by cases h
theorem ex_many (ok : XOk G C X Wx k call) {c : Nat} {lc : List Nat} (hc : G.tab.exc c = some lc) : ∀ {ts : List (Option Nat)} {b : Bool}, exAny G.tab c ts = some b → PySem.W.kitAny G.K (.ref (G.eA c)) (ts.map (exO G)) = some b
  | [], b, h => by cases h; rfl
  | none :: ts, b, h => by
    have h : some true = some b := h
    cases h
    exact kitAny_cons (ok.exc c lc hc).ve (fun z => nomatch z) (fun _ => rfl)
  | some d :: ts, b, h => by
    have h : (match G.tab.exc c with
      | some l => if (G.tab.exc d).isSome then (if l.contains d then some true else exAny G.tab c ts) else none
      | none => none) = some b := h
    rw [hc] at h
    have h : (if (G.tab.exc d).isSome then (if lc.contains d then some true else exAny G.tab c ts) else none) = some b := h
    cases q : G.tab.exc d with
    | none => rw [q] at h; cases h
    | some l =>
      rw [q] at h
      have h : (if lc.contains d then some true else exAny G.tab c ts) = some b := h
      refine kitAny_cons ((ok.exc c lc hc).kO lc hc d l q).1 (fun z => ?_) (fun z => ?_)
      · rw [z] at h
        exact ex_many ok hc h
      · rw [z] at h
        cases h
        rfl
theorem ex_one (ok : XOk G C X Wx k call) {c : Nat} {lc : List Nat} (hc : G.tab.exc c = some lc) {t : Option Nat} {b : Bool} (h : exAny G.tab c [t] = some b) : PySem.W.kitOne G.K (.ref (G.eA c)) (exO G t) = some b := by
  cases t with
  | none =>
    have h : some true = some b := h
    cases h
    exact (ok.exc c lc hc).ve
  | some d =>
    have h : (match G.tab.exc c with
      | some l => if (G.tab.exc d).isSome then (if l.contains d then some true else some false) else none
      | none => none) = some b := h
    rw [hc] at h
    have h : (if (G.tab.exc d).isSome then (if lc.contains d then some true else some false) else none) = some b := h
    cases q : G.tab.exc d with
    | none => rw [q] at h; cases h
    | some l =>
      rw [q] at h
      have h : (if lc.contains d then some true else some false) = some b := h
      have e : (if lc.contains d then some true else some false) = some (lc.contains d) := by cases lc.contains d <;> rfl
      rw [e] at h
      cases h
      exact ((ok.exc c lc hc).kO lc hc d l q).1
/-- what the small language's test asks -/
theorem ex_post {i : Nat} {ts : List (Option Nat)} {W : Wd} {σ : L2.St} {env : Env} {S : Store} {Q : VK} {a : Addr} {c : Nat} (hG : G.hs = some (i, a, c)) (er : EnvRep G W σ env) (q : PostV G Wx σ W (exIsV G.tab ts env[i]? S) Q) : σ[i]? = some (some (.ref a)) ∧ ∃ b, exAny G.tab c ts = some b ∧ PostV G Wx σ W (.ok (.t (.bl b)) S) Q := by
  unfold exIsV at q
  split at q
  · rename_i c' e
    obtain ⟨x, h1, h2⟩ := er.2 i _ e
    rcases h2 with h2 | ⟨a2, c2, e2, e3, e4⟩
    · cases h2
    · rw [hG] at e2
      cases e2
      cases e3
      subst e4
      refine ⟨h1, ?_⟩
      cases z : exAny G.tab c ts with
      | none => rw [z] at q; exact (show False from q).elim
      | some b =>
        rw [z] at q
        exact ⟨b, rfl, q⟩
  · exact (show False from q).elim
theorem pe_exIs (ok : XOk G C X Wx k call) {i : Nat} {many : Bool} {ts : List (Option Nat)} {e : Expr} (h : chkE C (.exIs i many ts) e = true) : PE X e (tE G Wx call (.exIs i many ts)) := by
  obtain ⟨x, zs, h0, h1, h2, h3, h4, h5, h6, h7, h8⟩ := iv_exIs h
  have hh := ok.hs
  rw [h1] at hh
  obtain ⟨⟨i', a, c⟩, hG, ei⟩ := Option.map_eq_some_iff.mp hh
  have ei : i' = i := ei
  subst ei
  obtain ⟨oe, hpn, hz, hf, lc, hc⟩ := ok.hx i' a c hG
  have fr : X.mg ("isinstance" : Str) = none := by
    rw [ok.mg]
    exact ok.free _ (by decide +kernel)
  have hE : ExcC X.K (G.eA c) := by rw [ok.K]; exact (ok.exc c lc hc).isE
  have hv := fun pos => pe_var (X := X) (pos := pos) (i := i') (x := x) (by rw [ok.N]; exact h2) (ok.vis h3) (okN_1 h4) (okN_2 h4)
  rcases exP_ok h0 with ⟨rfl, p, p2, z, zp, q, rfl, rfl⟩ | ⟨rfl, p, p2, kk, tp, q, rfl⟩
  · cases ts with
    | nil => cases h6
    | cons t ts =>
      have hts : ts = [] := by
        cases ts with
        | nil => rfl
        | cons _ _ => cases t <;> (have h6 := h6; simp [exsB] at h6)
      subst hts
      have hr : CallR X (.builtin "isinstance") (rIsE G.K (G.eA c) a) := by
        rw [← ok.K]
        exact is_e hE hpn hz hf
      refine PE.imp (pe_callB hr (ok.kindOf h5) fr (by decide +kernel) (pa_cons (hv _) (pa_exs ok h6 h7) rfl) (by decide +kernel) (by decide +kernel) rfl rfl) ?_
      rintro σ H Q ⟨W, env, S, sm, er, q⟩
      obtain ⟨e1, b, e2, p1⟩ := ex_post hG er q
      exact ⟨.ref a, e1, exV G t, exO G t, b, rfl, fun u r => (ex_cls G t).eq r, ex_one ok hc e2, post_t p1 sm (.bl b)⟩
  · have hr : CallR X (.builtin "isinstance") (rIsET G.K (G.eA c) a) := by
      rw [← ok.K]
      exact is_eT hE hpn hz hf
    refine PE.imp (pe_callB hr (ok.kindOf h5) fr (by decide +kernel) (pa_cons (hv _) (pa_cons (pe_tup (pa_exs ok h6 h7)) pa_nil rfl) rfl) (by decide +kernel) (by decide +kernel) rfl rfl) ?_
    rintro σ H Q ⟨W, env, S, sm, er, q⟩
    obtain ⟨e1, b, e2, p1⟩ := ex_post hG er q
    refine ⟨.ref a, e1, by rw [List.length_map]; exact Nat.le_trans h8 (by decide), fun tp htp => ?_⟩
    exact ⟨tp, ts.map (exV G), ts.map (exO G), b, rfl, upd_same, paired_map (ex_cls G) ts, ex_many ok hc e2, post_t (p1.mono (Wd.le_addF sm htp _)) (sm.addF htp _) (.bl b)⟩
end
theorem iv_hot {C : Ck} {f i : Nat} {e : Expr} (h : chkE C (.hot f i) e = true) : ∃ p x p2 q, e = .Call (.Name (C.nm.fnN f) p) [.Name x p2] [] q ∧ C.hs = some i ∧ C.N[i]? = some x ∧ visB C.sc x = true ∧ okN x = true ∧ glB C.sc (C.nm.fnN f) = true ∧ okN (C.nm.fnN f) = true ∧ hotB C.tab f = true ∧ C.glF f = true := by
  cases e with
  | Call g ys kw q =>
    cases g with
    | Name g p =>
      cases ys with
      | nil => cases h
      | cons y ys =>
        cases y with
        | Name x p2 =>
          cases ys with
          | cons _ _ => cases h
          | nil =>
            cases kw with
            | cons _ _ => cases h
            | nil =>
              obtain ⟨h1, h⟩ := ba h
              obtain ⟨h2, h⟩ := ba h
              obtain ⟨h3, h⟩ := ba h
              obtain ⟨h4, h⟩ := ba h
              obtain ⟨h5, h⟩ := ba h
              obtain ⟨h6, h⟩ := ba h
              obtain ⟨h7, h⟩ := ba h
              obtain ⟨h8, h9⟩ := ba h
              have e := of_decide_eq_true h7
              subst e
              exact ⟨p, x, p2, q, rfl, of_decide_eq_true h1, of_decide_eq_true h2, h3, h4, h5, h6, h8, h9⟩
        | _ => cases h
    | _ => cases h
  | _ => cases h
theorem hot_post {G : Gd} {Wx : WX} {call : Call} {f i : Nat} {W : Wd} {σ : L2.St} {env : Env} {S : Store} {Q : VK} {a : Addr} {c : Nat} (hG : G.hs = some (i, a, c)) (er : EnvRep G W σ env) (q : PostV G Wx σ W (hotV call f env[i]? S) Q) : σ[i]? = some (some (.ref a)) ∧ PostV G Wx σ W ((call f [.t (.exn c [])] S).nob fun v S => .ok v S) Q := by
  unfold hotV at q
  split at q
  · rename_i c' e
    obtain ⟨x, h1, h2⟩ := er.2 i _ e
    rcases h2 with h2 | ⟨a2, c2, e2, e3, e4⟩
    · cases h2
    · rw [hG] at e2
      cases e2
      cases e3
      subst e4
      exact ⟨h1, q⟩
  · exact (show False from q).elim
/-- a def that is handed the handled exception -/
theorem pe_hot {G : Gd} {C : Ck} {X : Cx} {Wx : WX} {k : Nat} {call : Call} (ok : XOk G C X Wx k call) {f i : Nat} {e : Expr} (h : chkE C (.hot f i) e = true) : PE X e (tE G Wx call (.hot f i)) := by
  obtain ⟨p, x, p2, q, rfl, h1, h2, h3, h4, h5, h6, h7, h8⟩ := iv_hot h
  have hh := ok.hs
  rw [h1] at hh
  obtain ⟨⟨i', a, c⟩, hG, ei⟩ := Option.map_eq_some_iff.mp hh
  have ei : i' = i := ei
  subst ei
  obtain ⟨oe, hpn, hz, hf, lc, hc⟩ := ok.hx i' a c hG
  unfold hotB at h7
  rw [ok.tab] at h7
  cases hd : G.tab.fn f with
  | none => rw [hd] at h7; cases h7
  | some d =>
    rw [hd] at h7
    obtain ⟨d1, d2⟩ := ba h7
    have d2 := of_decide_eq_true d2
    obtain ⟨run, hcall, F⟩ := ok.fnsH f d hd d1
    obtain ⟨fd, y, hb, F⟩ := F.ex d2
    obtain ⟨g1, g2⟩ := ok.gl f h8
    have ha : PA X [.Name x p2] _ := pa_cons (pe_var (X := X) (pos := p2) (i := i') (x := x) (by rw [ok.N]; exact h2) (ok.vis h3) (okN_1 h4) (okN_2 h4)) pa_nil rfl
    refine ⟨fun pins s σ H Q I ⟨W, env, S, sm, er, qq⟩ => ?_⟩
    obtain ⟨e1, pq⟩ := hot_post hG er qq
    rw [hcall] at pq
    have e0 : dflV d [Val.t (.exn c [])].length = [] := by
      unfold dflV
      rw [d2]
      show List.map Val.t (d.dfl.drop (d.dfl.length - 0)) = []
      rw [Nat.sub_zero, List.drop_length]
      rfl
    rw [e0, List.append_nil] at pq
    refine wpAny_Call_Name_kw (ld_glob I (ok.kindOf h5) (by rw [ok.mg, ok.nm]; exact g1) ?_ (okN_1 h6))
    refine PySem.W.callWith_K (h₀ := X.base) I.ok.mod.kin (by rw [ok.K]; exact g2) (thn (ha.run q pins s σ H (fun vs H1 => vs = [V.ref a] ∧ H = H1) I ⟨.ref a, e1, rfl, rfl⟩) fun us s1 ⟨vs, H1, I1, r, ev, eH⟩ => ⟨I1.kIn, ?_⟩) rfl rfl
    subst ev
    rw [← eH] at I1
    cases r with
    | cons ru rn =>
      cases rn
      cases ru
      have b := hb s1 [.ref a] (by rw [← ok.K]; exact I1.kIn) rfl
      have P1 := I1.pin (a, oe) (List.mem_append_left _ hpn)
      have hpin : L2H.PinOk X.stack H s1 (a, oe) := ⟨P1.1, P1.2.1, fun hm => (List.mem_cons.mp (I1.stkSub a hm)).elim P1.2.2.1 P1.2.2.2.1, P1.2.2.2.2⟩
      have E0 := I1.env0
      rw [ok.prog, ok.w, ok.K, ok.mg] at E0
      have z := F G.hs X.A X.stack s1 H ⟨[.ref a], []⟩ W S a oe c lc Q ⟨by have := ok.roomH.dp; omega, by have := ok.roomH.un; omega⟩ hpin E0 b hz hf hc sm ?_
      · refine wpAny_call (codeAny_mono (by rw [ok.prog, ok.w]; exact z) fun r s' hq => ?_)
        cases r with
        | error e =>
          obtain ⟨_, _, _, _, _, _, _, _, _, _, _, _, z⟩ := (show L2.CX G.prog G.w X.stack H s1 (fun _ _ _ => False) e s' from hq)
          exact z.elim
        | ok fl =>
          cases fl with
          | ret u => exact I1.after (by rw [ok.prog, ok.w]; exact hq)
          | next => exact False.elim hq
          | brk => exact False.elim hq
          | cont => exact False.elim hq
      · cases hr : run [.t (.exn c [])] S with
        | ok v S1 => rw [hr] at pq; exact pq
        | ex x S1 => rw [hr] at pq; exact (show False from pq).elim
        | bad => rw [hr] at pq; exact pq
theorem iv_inRg {C : Ck} {a b : IE} {e : Expr} {neg : Bool} (h : chkE C (.inRg neg a b) e = true) : ∃ l p2 y q p, e = .Compare l [if neg then .NotIn else .In] [.Call (.Name "range" p2) [y] [] q] p ∧ glB C.sc ("range" : Str) = true ∧ chkE C a l = true ∧ chkE C b y = true ∧ isStar y = false := by
  have h : (match irP e with
    | some (n2, l, y) => (n2 == neg) && (glB C.sc ("range" : Str) && (chkE C a l && (chkE C b y && !isStar y)))
    | none => false) = true := h
  cases q : irP e with
  | none => rw [q] at h; cases h
  | some z =>
    obtain ⟨n2, l, y⟩ := z
    rw [q] at h
    obtain ⟨h0, g⟩ := ba (show (n2 == neg && (glB C.sc ("range" : Str) && (chkE C a l && (chkE C b y && !isStar y)))) = true from h)
    clear h
    have h0 := eq_of_beq h0
    subst h0
    obtain ⟨p2, q, p, e1⟩ := irP_ok q
    obtain ⟨h3, g⟩ := ba g
    obtain ⟨h4, g⟩ := ba g
    obtain ⟨h5, h6⟩ := ba g
    exact ⟨l, p2, y, q, p, e1, h3, h4, h5, nb h6⟩
theorem iv_listRg {C : Ck} {a : IE} {e : Expr} (h : chkE C (.listRg a) e = true) : ∃ p p2 y q q2, e = .Call (.Name "list" p) [.Call (.Name "range" p2) [y] [] q] [] q2 ∧ glB C.sc ("list" : Str) = true ∧ glB C.sc ("range" : Str) = true ∧ chkE C a y = true ∧ isStar y = false ∧ C.calm = true := by
  have h : (match lrP e with
    | some y => glB C.sc ("list" : Str) && (glB C.sc ("range" : Str) && (chkE C a y && (!isStar y && C.calm)))
    | none => false) = true := h
  cases q : lrP e with
  | none => rw [q] at h; cases h
  | some y =>
    rw [q] at h
    obtain ⟨p, p2, q, q2, e1⟩ := lrP_ok q
    obtain ⟨h3, h⟩ := ba h
    obtain ⟨h4, h⟩ := ba h
    obtain ⟨h5, h⟩ := ba h
    obtain ⟨h6, h7⟩ := ba h
    exact ⟨p, p2, y, q, q2, e1, h3, h4, h5, nb h6, h7⟩
theorem rg_rep {G : Gd} {W : Wd} (n : Int) : Paired (RepV G W) (rgV 0 n) (rng 0 n) := by
  unfold rgV rng
  have key : ∀ l : List Nat, Paired (RepV G W) (l.map fun i => V.int (0 + (i : Nat))) (l.map fun (i : Nat) => Val.t (T.int (0 + Int.ofNat i))) := fun l => by
    induction l with
    | nil => exact .nil
    | cons i l ih => exact .cons (show Rep G W.F _ _ from .int _) ih
  exact key _
mutual
theorem sE {C : Ck} {X : Cx} {Wx : WX} (ok : XOk G C X Wx k call) : ∀ (ie : IE) (e : Expr), chkE C ie e = true → PE X e (tE G Wx call ie)
  | .var i, e, h => by
    obtain ⟨x, p, rfl, h1, h2, h3, h6⟩ := iv_var h
    refine PE.imp (pe_var (i := i) (by rw [ok.N]; exact h1) (ok.vis h2) (okN_1 h3) (okN_2 h3)) ?_
    rintro σ H Q ⟨W, env, S, sm, er, q⟩
    have q : PostV G Wx σ W (match env[i]? with
      | some (some v) => .ok v S
      | _ => .bad) Q := q
    cases z : env[i]? with
    | none => rw [z] at q; exact (show False from q).elim
    | some o =>
      cases o with
      | none => rw [z] at q; exact (show False from q).elim
      | some v =>
        rw [z] at q
        obtain ⟨x, h4, h5⟩ := er.2 i v z
        refine ⟨x, h4, Post.ok q sm ?_⟩
        rcases h5 with h5 | ⟨a, c, hg, _⟩
        · exact h5
        · have y := ok.hs
          rw [hg] at y
          exact absurd y.symm h6
  | .con t, e, h => by
    obtain ⟨c, j, p, rfl, h1⟩ := iv_con h
    cases t with
    | non =>
      cases c with
      | none => exact PE.imp pe_non fun σ H Q ⟨W, env, S, sm, er, q⟩ => post_t q sm .non
      | _ => cases h1
    | bl b =>
      cases c with
      | bool d =>
        have e1 : b = d := eq_of_beq h1
        subst e1
        exact PE.imp pe_bl fun σ H Q ⟨W, env, S, sm, er, q⟩ => post_t q sm (.bl b)
      | _ => cases h1
    | int i =>
      cases c with
      | int d =>
        have e1 : i = d := of_decide_eq_true h1
        subst e1
        exact PE.imp pe_int fun σ H Q ⟨W, env, S, sm, er, q⟩ => post_t q sm (.int i)
      | _ => cases h1
    | str x =>
      cases c with
      | str d =>
        have e1 : x = d := of_decide_eq_true h1
        subst e1
        exact PE.imp pe_str fun σ H Q ⟨W, env, S, sm, er, q⟩ => post_t q sm (.str x)
      | _ => cases h1
    | _ => cases h1
  | .glob g, e, h => by
    obtain ⟨p, rfl, h1, h2⟩ := iv_glob h
    refine ⟨fun pins s σ H Q I ⟨W, env, S, sm, er, q⟩ => ?_⟩
    have q : PostV G Wx σ W (ofT (G.tab.con g) S) Q := q
    cases z : G.tab.con g with
    | none => rw [z] at q; exact (show False from q).elim
    | some t =>
      rw [z] at q
      obtain ⟨v, u, e1, e2, e3, _⟩ := ok.con g t z
      rw [ok.nm] at h1 h2 ⊢
      exact (pe_glob (ok.kindOf h1) (by rw [ok.mg]; exact e1) e2 (okN_1 h2)).run pins s σ H Q I (post_t q sm (e3 _))
  | .bin op a b, e, h => by
    obtain ⟨l, r, p, rfl, h1, h2⟩ := iv_bin h
    exact PE.imp (pe_op (OpR.any _) (sE ok a l h1) (sE ok b r h2)) fun σ H Q ⟨W, env, S, sm, er, q⟩ =>
      Den.step q sm er fun v S1 W1 x H1 e1 l1 s1 n1 r1 p1 => Den.step p1 s1 n1 fun w S2 W2 y H2 e2 l2 s2 n2 r2 p2 => bin_any ok.K p2 s2 (r1.mono l2) r2
  | .binM op a b, e, h => by
    obtain ⟨l, r, p, rfl, h1, h2⟩ := iv_binM h
    exact PE.imp (pe_op (OpR.any _) (sE ok a l h1) (sE ok b r h2)) fun σ H Q ⟨W, env, S, sm, er, q⟩ =>
      Den.step q sm er fun v S1 W1 x H1 e1 l1 s1 n1 r1 p1 => Den.step p1 s1 n1 fun w S2 W2 y H2 e2 l2 s2 n2 r2 p2 => binL_any p2 s2 (r1.mono l2) r2
  | .neg a, e, h => by
    obtain ⟨x, p, rfl, h1⟩ := iv_neg h
    refine PE.imp (pe_un un_neg (sE ok a x h1)) fun σ H Q ⟨W, env, S, sm, er, q⟩ => Den.step q sm er fun v S1 W1 x H1 e1 l1 s1 n1 r1 p1 => ?_
    cases v with
    | r n => exact (show False from p1).elim
    | t t =>
      cases t with
      | int i => cases r1; exact ⟨i, rfl, post_t p1 s1 (.int _)⟩
      | _ => exact (show False from p1).elim
  | .cmp op a b, e, h => by
    obtain ⟨l, r, p, rfl, h1, h2, h3⟩ := iv_cmp h
    exact PE.imp (pe_cmpR (OpR.any _) (sE ok a l h1) (sE ok b r h2) (isSet_ok h3)) fun σ H Q ⟨W, env, S, sm, er, q⟩ =>
      Den.step q sm er fun v S1 W1 x H1 e1 l1 s1 n1 r1 p1 => Den.step p1 s1 n1 fun w S2 W2 y H2 e2 l2 s2 n2 r2 p2 => cmp_any ok.K ok.hu p2 s2 (r1.mono l2) r2
  | .cmp2 o p a b c, e, h => by
    obtain ⟨l, m, r, pos, rfl, h1, h2, h3, h4, h5⟩ := iv_cmp2 h
    refine PE.imp (pe_chain (OpR.any _) (OpR.any _) (sE ok a l h1) (sE ok b m h2) (sE ok c r h3) (lm_false h5)) fun σ H Q ⟨W, env, S, sm, er, q⟩ =>
      Den.step q sm er fun v S1 W1 x H1 e1 l1 s1 n1 r1 p1 => Den.step p1 s1 n1 fun w S2 W2 y H2 e2 l2 s2 n2 r2 p2 => ?_
    obtain ⟨b1, e3, p3⟩ := cmpV_bind p2
    refine cmp_any (op := o) (a := v) (b := w) (W := W2) (Wx := Wx) (σ := σ) (S := S2) ok.K ok.hu ?_ s2 (r1.mono l2) r2
    rw [e3]
    intro W3 z H3 l3 s3 r3
    cases r3
    refine ⟨b1, rfl, ?_⟩
    have p4 := p3.mono l3
    cases b1 with
    | true => exact iteT (Den.step p4 s3 (n2.mono l3) fun u S4 W4 z H4 e4 l4 s4 n4 r4 p4 => cmp_any ok.K ok.hu p4 s4 (r2.mono (l3.trans l4)) r4)
    | false => exact iteF (post_t p4 s3 (.bl false))
  | .not a, e, h => by
    obtain ⟨x, p, rfl, h1⟩ := iv_not h
    refine PE.imp (pe_notT (sE ok a x h1)) fun σ H Q ⟨W, env, S, sm, er, q⟩ => Den.step q sm er fun v S1 W1 x H1 e1 l1 s1 n1 r1 p1 => ?_
    obtain ⟨b, hb, p2⟩ := truV_st p1 s1 r1
    exact ⟨b, by rw [ok.K]; exact hb, post_t p2 s1 (.bl _)⟩
  | .ands es, e, h => by
    obtain ⟨vs, p, rfl, h1⟩ := iv_ands h
    exact sAndE ok es vs p h1
  | .ors es, e, h => by
    obtain ⟨vs, p, rfl, h1⟩ := iv_ors h
    exact sOrE ok es vs p h1
  | .ife t a b, e, h => by
    obtain ⟨c, x, y, p, rfl, h1, h2, h3⟩ := iv_ife h
    refine PE.imp (pe_ifExp (sC ok t c h1) (sE ok a x h2) (sE ok b y h3)) fun σ H Q ⟨W, env, S, sm, er, q⟩ => Den.step q sm er fun v S1 W1 b1 H1 e1 l1 s1 n1 r1 p1 => ?_
    have r1 : b1 = v := r1
    subst r1
    cases b1 with
    | true => exact iteT (Den.last p1 s1 n1)
    | false => exact iteF (Den.last p1 s1 n1)
  | .tup es, e, h => by
    obtain ⟨xs, kk, p, rfl, h1, h2⟩ := iv_tup h
    exact PE.imp (pe_tup (sEs ok es xs h1 h2)) fun σ H Q ⟨W, env, S, sm, er, q⟩ => Den.step q sm er fun vs S1 W1 ys H1 e1 l1 s1 n1 r1 p1 => tupV_post p1 s1 r1
  | .lst m es, e, h => by
    obtain ⟨xs, p, rfl, h1, h2⟩ := iv_lst h
    exact PE.imp (pe_lst (sEs ok es xs h1 h2)) fun σ H Q ⟨W, env, S, sm, er, q⟩ => Den.step q sm er fun vs S1 W1 ys H1 e1 l1 s1 n1 r1 p1 => dispL_post p1 s1 r1
  | .sub a i, e, h => by
    obtain ⟨x, y, p, rfl, h1, h2, h3⟩ := iv_sub h
    exact PE.imp (pe_ix IxR.any (sE ok a x h1) (sE ok i y h2) (isSlc_ok h3)) fun σ H Q ⟨W, env, S, sm, er, q⟩ =>
      Den.step q sm er fun v S1 W1 x H1 e1 l1 s1 n1 r1 p1 => Den.step p1 s1 n1 fun w S2 W2 y H2 e2 l2 s2 n2 r2 p2 => sub_any ok.K (by have := ok.hu; omega) p2 s2 (r1.mono l2) r2
  | .slc m a lo hi, e, h => by
    obtain ⟨x, l, u, p, q, rfl, h1, h2, h3⟩ := iv_slc h
    refine PE.imp (pe_slice (SlR.any X) (sE ok a x h1) (sO lo l (fun x h => sE ok lo x h) h2) (sO hi u (fun x h => sE ok hi x h) h3)) fun σ H Q ⟨W, env, S, sm, er, q⟩ =>
      Den.step q sm er fun v S1 W1 x H1 e1 l1 s1 n1 r1 p1 => Den.step (f := fun env S => if isNo lo then .ok none S else (dE G.tab call lo env S).bind fun y S => optI y S) p1 s1 n1 fun w S2 W2 y H2 e2 l2 s2 n2 r2 p2 =>
        Den.step (f := fun env S => if isNo hi then .ok none S else (dE G.tab call hi env S).bind fun y S => optI y S) p2 s2 n2 fun w2 S3 W3 y2 H3 e3 l3 s3 n3 r3 p3 => ?_
    have r2 : y = w := r2
    have r3 : y2 = w2 := r3
    subst r2 r3
    exact slc_any ok p3 s3 (r1.mono (l2.trans l3))
  | .rev m a, e, h => by
    obtain ⟨x, k, p1, p2, p3, q, rfl, h1⟩ := iv_rev h
    exact PE.imp (pe_revL (sE ok a x h1)) fun σ H Q ⟨W, env, S, sm, er, q⟩ => Den.step q sm er fun v S1 W1 x H1 e1 l1 s1 n1 r1 p1 => rev_post ok p1 s1 r1
  | .fld o f, e, h => by
    obtain ⟨x, p, rfl, h1, h2⟩ := iv_fld h
    rw [ok.nm]
    refine PE.imp (pe_fld (sE ok o x h1) (abase h2)) fun σ H Q ⟨W, env, S, sm, er, q⟩ => Den.step q sm er fun v S1 W1 x H1 e1 l1 s1 n1 r1 p1 => ?_
    rcases fldV_no (tab := G.tab) (f := f) (a := v) (S := S1) with ⟨w, e⟩ | e
    · have p1 : PostV G Wx σ W1 (fldV G.tab v f S1) Q := p1
      rw [e] at p1
      obtain ⟨ad, Cc, dx, gs, y, z1, z2, z3, z4, z5, z6, _⟩ := fld_any ok e s1 r1
      exact ⟨ad, _, dx, gs, y, z1, z2, z3, z4, z5, Post.ok p1 s1 z6⟩
    · have p1 : PostV G Wx σ W1 (fldV G.tab v f S1) Q := p1
      rw [e] at p1
      exact (show False from p1).elim
  | .call f es, e, h => by
    obtain ⟨p, ys, q, rfl, h1, h2, h3, h4, h5, h6, hcm⟩ := iv_call h
    rw [ok.nm] at h1 h2 ⊢
    cases ys with
    | nil => exact pe_def0 ok hcm (ok.kindOf h1) h6 h5 h3 (okN_1 h2)
    | cons y ys => exact pe_def ok hcm (ok.kindOf h1) h6 h5 (sEs ok es (y :: ys) h3 h4) h4 h3 (okN_1 h2)
  | .new c es, e, h => by
    obtain ⟨p, ys, q, rfl, h1, h2, h3, h4, h5, hcm⟩ := iv_new h
    rw [ok.nm] at h1 h2 ⊢
    exact pe_newR ok hcm (ok.kindOf h1) h5 (sEs ok es ys h3 h4) h4 h3 (okN_1 h2)
  | .meth o f es, e, h => by
    obtain ⟨x, ap, ys, q, rfl, h1, h2, h3, h4, h5, h6, hcm⟩ := iv_meth h
    rw [ok.nm]
    exact pe_methR ok hcm (sE ok o x h1) (sEs ok es ys h3 h4) h2 h4 h3 (by omega) h6
  | .blt b m es, e, h => by
    obtain ⟨p, y, ys, q, rfl, h1, h2, h3, h4, h5⟩ := iv_blt h
    exact PE.imp (pe_blt ok (CallR.any _) (ok.kindOf h1) (sEs ok es (y :: ys) h3 h4) h4 (okN_3 h2) (okN_1 h2)) fun σ H Q ⟨W, env, S, sm, er, q⟩ =>
      Den.step q sm er fun vs S1 W1 xs H1 e1 l1 s1 n1 r1 p1 => blt_any ok (fun z => ok.calm (h5 z)) p1 s1 r1
  | .isi a many ts, e, h => by
    have fr : X.mg ("isinstance" : Str) = none := by
      rw [ok.mg]
      exact ok.free _ (by decide +kernel)
    rcases iv_isi h with ⟨t, p, y, z, q, r, rfl, rfl, rfl, hr, h1, h2, h3, h4, h5, h6, h7⟩ | ⟨p, y, zs, kk, z, q, rfl, rfl, h1, h2, h3, h4, h5, h6, hne, hsz⟩
    · subst hr
      rw [ok.nm] at h5 h6 ⊢
      rw [ok.tab] at h7
      refine PE.imp (pe_callB (CallR.any (.builtin "isinstance")) (ok.kindOf h1) fr (by decide +kernel) (pa_cons (sE ok a y h3) (pa_cons (pe_ty ok (ok.kindOf h5) h7 (okN_3 h6) (okN_1 h6)) pa_nil rfl) (star_cons X.env h4)) (okN_3 h2) (okN_1 h2) (star_cons X.env h4) rfl) ?_
      rintro σ H Q ⟨W, env, S, sm, er, q⟩
      exact Den.step q sm er fun v S1 W1 x H1 e1 l1 s1 n1 r1 p1 => ⟨_, call_isi, by rw [ok.K]; exact isi_1 ok p1 s1 r1⟩
    · refine PE.imp (pe_callB (CallR.any (.builtin "isinstance")) (ok.kindOf h1) fr (by decide +kernel) (pa_cons (sE ok a y h3) (pa_cons (pe_tup (pa_tys ok h5 h6)) pa_nil rfl) (star_cons X.env h4)) (okN_3 h2) (okN_1 h2) (star_cons X.env h4) rfl) ?_
      rintro σ H Q ⟨W, env, S, sm, er, q⟩
      refine Den.step q sm er fun v S1 W1 x H1 e1 l1 s1 n1 r1 p1 => ⟨by rw [List.length_map]; exact Nat.le_trans hsz (by decide), fun tp htp => ⟨_, call_isiT, ?_⟩⟩
      rw [ok.K]
      exact isi_t ok hne (p1.mono (Wd.le_addF s1 htp (.tup (ts.map (tyW G))))) (s1.addF htp _) (r1.mono (Wd.le_addF s1 htp _)) upd_same
  | .exIs i many ts, e, h => pe_exIs ok h
  | .hot f i, e, h => pe_hot ok h
  | .dct0, e, h => by
    obtain ⟨p, rfl⟩ := dct0P_ok h
    exact PE.imp pe_dnewK fun σ H Q ⟨W, env, S, sm, er, q⟩ => fun a ha => q (W.addF a (.dK [])) (.ref a) _ (Wd.le_addF sm ha _) (sm.addF ha _) (.dct upd_same .nil)
  | .dct1 k v, e, h => by
    obtain ⟨a, b, c, d, p, rfl⟩ := dct1P_ok (of_decide_eq_true h)
    refine PE.imp (pe_disp (trs := [(tC (.int k), tC (.int v))]) (pps_cons pe_int pe_int pps_nil) rfl rfl (fun z => nomatch z) (by show 1 ≤ 15; decide)) fun σ H Q ⟨W, env, S, sm, er, q⟩ => fun a ha => ?_
    show _ ∧ _
    refine ⟨upd_same, [(.inl k, .int v)], rfl, (by show 1 ≤ 15; decide), ?_⟩
    rw [upd_upd]
    exact q (W.addF a (.dK [(.inl k, .int v)])) (.ref a) _ (Wd.le_addF sm ha _) (sm.addF ha _) (.dct upd_same (.cons (.int v) .nil))
  | .dctD m ks es, e, h => by
    obtain ⟨keys, values, p, rfl, h1, h2, h3, h4, h5, h6⟩ := iv_dctD h
    obtain ⟨l1, l2⟩ := keysB_len h1
    refine PE.imp (pe_disp (sPP ok p es ks keys values h1 h2 h3) l2 h3 (fun z => ?_) (by rw [l1]; exact h5)) fun σ H Q d => disp_post (by rw [← l1, h3, chkEs_ln h2]) h4 h5 d
    rw [z] at l1
    rw [List.length_eq_zero_iff.mp l1.symm] at h6
    cases h6
  | .upd o a, e, h => by
    obtain ⟨x, ap, y, q, rfl, h1, h2, h3, h4, h5⟩ := iv_upd h
    have hn : noStar [y] = true := by show (!isStar y && true) = true; rw [h4]; rfl
    refine PE.imp (pe_bm PySem.F.plainAttrs_dict PySem.F.slot_dict_update PySem.F.type_dict_update mt_update (sE ok o x h1) (pa_cons (sE ok a y h3) pa_nil (star_cons X.env h4)) (abase h2) (few_ok hn (by show 1 < 30; decide)) h5 (star_cons X.env h4) rfl) fun σ H Q ⟨W, env, S, sm, er, q⟩ =>
      Den.step q sm er fun v S1 W1 x H1 e1 l1 s1 n1 r1 p1 => ?_
    have p1 : PostV G Wx σ W1 (if dctB v S1 then (dE G.tab call a env S1).bind fun y S => updV v y S else .bad) Q := p1
    cases v with
    | t t => exact (show False from p1).elim
    | r n =>
      obtain ⟨hn1, ex⟩ := r1
      subst ex
      split at p1
      · rename_i c
        have c : (match S1[n]? with
          | some (.dct _) => true
          | _ => false) = true := c
        refine ⟨?_, Den.step p1 s1 n1 fun w S2 W2 z H2 e2 l2 s2 n2 r2 p2 => ?_⟩
        · split at c
          · rename_i kvs hc
            obtain ⟨gs, ho, _⟩ := cell_dct s1 hc
            exact .inr (.inr (.inl ⟨rfl, .inl ⟨gs, ho⟩⟩))
          · cases c
        · exact upd_any p2 s2 ⟨Nat.lt_of_lt_of_le hn1 l2.n, by rw [l2.at_ n hn1]⟩ r2
      · exact (show False from p1).elim
  | .inRg neg a b, e, h => by
    obtain ⟨l, p2, y, q, p, rfl, h1, h2, h3, h4⟩ := iv_inRg h
    have fr : X.mg ("range" : Str) = none := by
      rw [ok.mg]
      exact ok.free _ (by decide +kernel)
    refine PE.imp (pe_cmpR (op_rg neg) (sE ok a l h2) (pe_callTy cr_range1 (ok.kindOf h1) fr (by decide +kernel) (pa_cons (sE ok b y h3) pa_nil (star_cons X.env h4)) (by decide +kernel) (by decide +kernel) (star_cons X.env h4) rfl) (by cases neg <;> rfl)) fun σ H Q ⟨W, env, S, sm, er, q⟩ =>
      Den.step q sm er fun v S1 W1 x H1 e1 l1 s1 n1 r1 p1 => Den.step p1 s1 n1 fun w S2 W2 y H2 e2 l2 s2 n2 r2 p2 => ?_
    have p2 : PostV G Wx σ W2 (inRgV neg v w S2) Q := p2
    unfold inRgV at p2
    split at p2
    · cases r1
      cases r2
      refine ⟨_, rfl, fun p hp => ⟨_, _, _, _, rfl, rfl, upd_same, ?_⟩⟩
      exact post_t (p2.mono (Wd.le_addF s2 hp _)) (s2.addF hp _) (.bl _)
    · exact (show False from p2).elim
  | .listRg a, e, h => by
    obtain ⟨p, p2, y, q, q2, rfl, h1, h2, h3, h4, h5⟩ := iv_listRg h
    have fr : ∀ x : Str, x ∈ ["list", "range"].map Str.ofString → X.mg x = none := fun x hx => by
      rw [ok.mg]
      refine ok.free x ?_
      have : ∀ y ∈ ["list", "range"].map Str.ofString, y ∈ ["len", "int", "str", "min", "max", "abs", "list", "tuple", "all", "any", "sum", "divmod", "sorted", "bool", "isinstance", "range", "enumerate", "zip", "dict", "set", "ValueError"].map Str.ofString := by decide +kernel
      exact this x hx
    refine PE.imp (pe_listRg (ok.calm h5) (ok.kindOf h1) (fr _ (by decide +kernel)) (prg_1 (ok.kindOf h2) (fr _ (by decide +kernel)) (sE ok a y h3) (star_cons X.env h4)) rfl) fun σ H Q ⟨W, env, S, sm, er, q⟩ =>
      Den.step q sm er fun v S1 W1 x H1 e1 l1 s1 n1 r1 p1 => ?_
    have p1 : PostV G Wx σ W1 (match (generalizing := false) v with
      | .t (.int n) => if 0 ≤ n ∧ n ≤ 16777216 then alloc false (rng 0 n) S1 else .bad
      | _ => .bad) Q := p1
    cases v with
    | r n => exact (show False from p1).elim
    | t t =>
      cases t with
      | int n =>
        cases r1
        have p1 : PostV G Wx σ W1 (if 0 ≤ n ∧ n ≤ 16777216 then alloc false (rng 0 n) S1 else .bad) Q := p1
        by_cases c : 0 ≤ n ∧ n ≤ 16777216
        · rw [if_pos c] at p1
          exact ⟨n, rfl, RgOk.of_le (by decide) c.2 (by decide) c.1, (alloc_post p1 s1 (rg_rep n)).2⟩
        · rw [if_neg c] at p1
          exact (show False from p1).elim
      | _ => exact (show False from p1).elim
  | .cix g a, e, h => by
    obtain ⟨p, ap, y, cp, rfl, h1, h2, h3, h4, h5, h6⟩ := iv_cix h
    rw [ok.nm] at h1 h2 ⊢
    rw [ok.tab] at h6
    obtain ⟨ts, ys, z, hs⟩ := isStrs_ok h6
    obtain ⟨v, u, e1, e2, e3, e4⟩ := ok.con g _ z
    obtain ⟨p0, o, rfl, k1, k2, k3⟩ := e4 ts rfl
    have hn : noStar [y] = true := by show (!isStar y && true) = true; rw [h4]; rfl
    refine PE.imp (pe_bm PySem.F.plainAttrs_tuple PySem.F.slot_tuple_index PySem.F.type_tuple_index mt_tup_index (pe_glob (ok.kindOf h1) (by rw [ok.mg]; exact e1) e2 (okN_1 h2)) (pa_cons (sE ok a y h3) pa_nil (star_cons X.env h4)) rfl (few_ok hn (by show 1 < 30; decide)) h5 (star_cons X.env h4) rfl) fun σ H Q ⟨W, env, S, sm, er, q⟩ => ?_
    refine ⟨.inr (.inl ⟨rfl, o, by rw [ok.K]; exact k1, k2, k3⟩), ?_⟩
    refine Den.step q sm er fun v S1 W1 x H1 e1 l1 s1 n1 r1 p1 => ?_
    have p1 : PostV G Wx σ W1 (cixV (G.tab.con g) v S1) Q := p1
    rw [z] at p1
    unfold cixV at p1
    split at p1
    · rename_i ts' z' heq _
      cases heq
      cases r1
      rw [hs] at p1
      have p1 : PostV G Wx σ W1 (match ys.findIdx? (fun y => y == z') with
        | some j => .ok (.t (.int (j : Nat))) S1
        | none => .bad) Q := p1
      cases hj : ys.findIdx? (fun y => y == z') with
      | none => rw [hj] at p1; exact (show False from p1).elim
      | some j =>
        rw [hj] at p1
        obtain ⟨hl, j1, j2⟩ := List.findIdx?_eq_some_iff_getElem.mp hj
        have er := e3 W1.F
        cases er with
        | tup hF rl =>
          have ev := strsT_rep hs rl
          subst ev
          refine ⟨p0, ys, z', j, rfl, rfl, by rw [ok.K]; exact sameT s1.fz hF, ?_, fun m hm hz => ?_, post_t p1 s1 (.int _)⟩
          · rw [List.getElem?_eq_getElem hl]
            exact congrArg some (eq_of_beq j1)
          · have hml : m < ys.length := by omega
            rw [List.getElem?_eq_getElem hml] at hz
            have := j2 m hm
            rw [Option.some.inj hz] at this
            simp at this
    · exact (show False from p1).elim
  | .lenSet a, e, h => by
    obtain ⟨p, p2, y, q, q2, rfl, h1, h2, h3, h4, h5⟩ := iv_lenSet h
    have fr : ∀ x : Str, x ∈ ["len", "set"].map Str.ofString → X.mg x = none := fun x hx => by
      rw [ok.mg]
      refine ok.free x ?_
      have : ∀ y ∈ ["len", "set"].map Str.ofString, y ∈ ["len", "int", "str", "min", "max", "abs", "list", "tuple", "all", "any", "sum", "divmod", "sorted", "bool", "isinstance", "range", "enumerate", "zip", "dict", "set", "ValueError"].map Str.ofString := by decide +kernel
      exact this x hx
    refine PE.imp (RZ.pe_lenSetI (ok.kindOf h1) (fr _ (by decide +kernel)) (ok.kindOf h2) (fr _ (by decide +kernel)) (sE ok a y h3) (ok.calm h5) (star_cons X.env h4)) fun σ H Q ⟨W, env, S, sm, er, q⟩ =>
      Den.step q sm er fun v S1 W1 x H1 e1 l1 s1 n1 r1 p1 => ?_
    have p1 : PostV G Wx σ W1 (lenSetV v S1) Q := p1
    unfold lenSetV at p1
    cases e2 : listV S1 v with
    | none => rw [e2] at p1; exact (show False from p1).elim
    | some ws =>
      rw [e2] at p1
      obtain ⟨l, us, rfl, hs, rp⟩ := listV_rep s1 r1 e2
      cases e3 : allI ws with
      | none =>
        have p1 : PostV G Wx σ W1 (match allI ws with
          | some ns => if nodupI ns && decide (ns.length ≤ 4000) then .ok (.t (.int ns.length)) S1 else .bad
          | none => .bad) Q := p1
        rw [e3] at p1
        exact (show False from p1).elim
      | some ns =>
        have p1 : PostV G Wx σ W1 (match allI ws with
          | some ns => if nodupI ns && decide (ns.length ≤ 4000) then .ok (.t (.int ns.length)) S1 else .bad
          | none => .bad) Q := p1
        rw [e3] at p1
        have p1 : PostV G Wx σ W1 (if nodupI ns && decide (ns.length ≤ 4000) then .ok (.t (.int ns.length)) S1 else .bad) Q := p1
        split at p1
        · rename_i c
          have e4 := allI_rep rp e3
          subst e4
          exact ⟨l, ns, rfl, by rw [ok.K]; exact hs, nodupI_ok (ba c).1, of_decide_eq_true (ba c).2, post_t p1 s1 (.int _)⟩
        · exact (show False from p1).elim
  | .bm b m o es, e, h => by
    obtain ⟨x, ap, ys, q, rfl, h1, h2, h3, h4, h5, h6⟩ := iv_bm h
    obtain ⟨slot, ty⟩ := bm_rule b
    cases ys with
    | nil =>
      cases es with
      | cons _ _ => cases h3
      | nil =>
        refine PE.imp (pe_bm0 PySem.F.plainAttrs_list slot ty (MtR.any X _) (sE ok o x h1) (abase h2) h6) fun σ H Q ⟨W, env, S, sm, er, q⟩ => Den.step q sm er fun v S1 W1 x H1 e1 l1 s1 n1 r1 p1 => ?_
        have p1 : PostV G Wx σ W1 (if cellB v S1 then bmV b v [] S1 else .bad) Q := p1
        split at p1
        · rename_i c
          exact ⟨cell_ty ok.K c s1 r1, bm_any (ws := []) p1 s1 r1 .nil⟩
        · exact (show False from p1).elim
    | cons y ys =>
      refine PE.imp (pe_bm PySem.F.plainAttrs_list slot ty (MtR.any X _) (sE ok o x h1) (sEs ok es (y :: ys) h3 h4) (abase h2) (few_ok h4 (by have := bmA_len h5; omega)) h6 (star_cons X.env (nb (ba h4).1)) (star_any (ba h4).2)) fun σ H Q ⟨W, env, S, sm, er, q⟩ => Den.step q sm er fun v S1 W1 x H1 e1 l1 s1 n1 r1 p1 => ?_
      have p1 : PostV G Wx σ W1 (if cellB v S1 then (dEs G.tab call es env S1).bind fun vs S => bmV b v vs S else .bad) Q := p1
      split at p1
      · rename_i c
        exact ⟨cell_ty ok.K c s1 r1, Den.step p1 s1 n1 fun vs S2 W2 ys H2 e2 l2 s2 n2 r2 p2 => bm_any p2 s2 (r1.mono l2) r2⟩
      · exact (show False from p1).elim
  | .comp m kk src many tg ifs elt, e, h => by
    obtain ⟨x, t, it, xs, scope, p, rfl, h1, h2, h3, h4, h5, h6⟩ := iv_comp h
    have own : (ownOf C.N tg).map (·.2) = tg := by
      unfold ownOf
      rw [List.map_map]
      exact List.map_id tg
    have z := pe_lc (pos := p) (ok.calm h6) ok.nd (sIt ok kk src it h1 t) (blkOk_by (by rw [ok.N, ok.sc]; exact h2)) (fun s H c cl fp => sTg (ok.blk h6 s H c cl fp scope) h3) (fun s H c cl fp => sIfs (ok.blk h6 s H c cl fp scope) ifs xs h4) (fun s H c cl fp => sE (ok.blk h6 s H c cl fp scope) elt x h5) (it_noset h1 X.env)
    rw [own] at z
    exact PE.imp z fun σ H Q d => lc_post d
theorem sIfs {C : Ck} {X : Cx} {Wx : WX} (ok : XOk G C X Wx k call) : ∀ (cs : ICs) (es : List Expr), chkIfs C cs es = true → PTs X es (tAndC G Wx call cs)
  | .nil, [], _ => ⟨fun pins s σ H Q I ⟨W, env, S, sm, er, q⟩ => pts_nil.run pins s σ H Q I (Post.ok (rep := fun _ (b k : Bool) => b = k) q sm rfl)⟩
  | .cons c .nil, [x], h => ⟨fun pins s σ H Q I ⟨W, env, S, sm, er, q⟩ => (pts_one (sC ok c x h)).run pins s σ H Q I (by
      refine Den.step q sm er fun v S1 W1 b1 H1 e1 l1 s1 n1 r1 p1 => ?_
      have r1 : b1 = v := r1
      subst r1
      cases b1 <;> exact Post.ok (rep := fun _ (b k : Bool) => b = k) p1 s1 rfl)⟩
  | .nil, _ :: _, h => by cases h
  | .cons _ .nil, [], h => by cases h
  | .cons _ .nil, _ :: _ :: _, h => by cases h
  | .cons _ (.cons _ _), _, h => by cases h
theorem sIt {C : Ck} {X : Cx} {Wx : WX} (ok : XOk G C X Wx k call) : ∀ (kk : ItK) (src : IEs) (it : Expr), chkIt C kk src it = true → ∀ tg : Expr, PI X tg it (iSrc G Wx call kk src)
  | .seq, .cons a .nil, it, h, tg => by
    have h : (chkE C a it && !isSet it) = true := h
    refine ⟨fun pins s σ H R I ⟨W, env, S, sm, er, q⟩ => ?_⟩
    have q : Post G (fun W J its => Wlk G W J its) Wx σ W (((dE G.tab call a env S).bind fun v S => .ok [v] S).bind fun vs S => items .seq vs S) R := q
    rw [bind_assoc] at q
    rcases Classical.em (∃ xs S1, dE G.tab call a env S = .ok (.t (.tup xs)) S1) with ⟨us, U1, eu⟩ | nt
    · refine (pi_tup (sE ok a it (ba h).1)).run pins s σ H R I ?_
      refine Den.step q sm er fun v S1 W1 x H1 e1 l1 s1 n1 r1 p1 => ?_
      rw [eu] at e1
      cases e1
      cases r1 with
      | @tup ad vs _ hF rl =>
        refine ⟨ad, rfl, ⟨vs, by rw [ok.K]; exact sameT s1.fz hF⟩, ?_⟩
        rw [ok.K]
        exact Post.ok (rep := fun W J its => Wlk G W J its) p1 s1 (wlk_tup (fun W' S' H' l s => sameT (l.f.trans s.fz) hF) (vals_repL (vs := []) rl))
    · refine (pi_list (sE ok a it (ba h).1)).run pins s σ H R I ?_
      refine Den.step q sm er fun v S1 W1 x H1 e1 l1 s1 n1 r1 p1 => ?_
      cases v with
      | r n =>
        obtain ⟨hn, ex⟩ := r1
        subst ex
        have p1 : Post G (fun W J its => Wlk G W J its) Wx σ W1 (match S1[n]? with
          | some (.lst ws) => .ok (ws, some (n, ws)) S1
          | _ => .bad) R := p1
        cases qn : S1[n]? with
        | none => rw [qn] at p1; exact (show False from p1).elim
        | some c =>
          rw [qn] at p1
          cases c with
          | lst ws =>
            obtain ⟨_, _, o, ho, okc⟩ := s1.live n _ qn (by intro z; cases z)
            cases okc with
            | @lst vs _ hp =>
              refine ⟨_, rfl, ⟨vs, SqL.of ho⟩, ?_⟩
              rw [ok.K]
              exact Post.ok (rep := fun W J its => Wlk G W J its) p1 s1 (wlk_cell hn)
          | _ => exact (show False from p1).elim
      | t t =>
        cases t with
        | lst us =>
          cases r1 with
          | @lst ad vs _ hF rl =>
            refine ⟨ad, rfl, ⟨vs, SqL.of (s1.fz _ _ hF)⟩, ?_⟩
            rw [ok.K]
            exact Post.ok (rep := fun W J its => Wlk G W J its) p1 s1 (wlk_list (fun W' S' H' l s => SqL.of ((l.f.trans s.fz) _ _ hF)) (vals_repL (vs := []) rl))
        | scr ns =>
          cases r1 with
          | @scr ad _ hF =>
            refine ⟨ad, rfl, ⟨_, by rw [ok.K]; exact s1.fz.seq hF⟩, ?_⟩
            rw [ok.K]
            exact Post.ok (rep := fun W J its => Wlk G W J its) p1 s1 (wlk_list (fun W' S' H' l s => (l.f.trans s.fz).seq hF) (vals_ints ns))
        | tup us => exact (nt ⟨us, S1, e1⟩).elim
        | _ => exact (show False from p1).elim
  | .range, .cons a .nil, it, h, tg => by
    obtain ⟨p, y, q, rfl, h1, h2, h3⟩ := iv_rng1 h
    have hfree : X.mg ("range" : Str) = none := by
      rw [ok.mg]
      exact ok.free _ (by decide +kernel)
    have hn : noStar [y] = true := by show (!isStar y && true) = true; rw [h3]; rfl
    refine ⟨fun pins s σ H R I ⟨W, env, S, sm, er, q⟩ => (pi_range1 (ok.kindOf h1) hfree (pa1 (sE ok a y h2) h3) (star_cons X.env h3)).run pins s σ H R I ?_⟩
    refine Den.step q sm er fun ws S1 W1 xs H1 e1 l1 s1 n1 r1 p1 => ?_
    have hl := dEs_len e1
    cases ws with
    | nil => cases hl
    | cons w ws =>
      cases ws with
      | cons _ _ => cases hl
      | nil =>
        obtain ⟨v, rfl, rv⟩ := one_arg r1
        cases w with
        | r n => exact (show False from p1).elim
        | t t =>
          cases t with
          | int n =>
            cases rv
            have p1 : Post G (fun W J its => Wlk G W J its) Wx σ W1 (if rngOk n then .ok (rng 0 n, none) S1 else .bad) R := p1
            split at p1
            · rename_i c
              obtain ⟨b1, b2⟩ := rngOk_ok c
              refine ⟨n, rfl, b1, b2, ?_⟩
              have z := wlk_rng (G := G) (W := W1) (lo := 0) (hi := n)
              rw [Int.sub_zero] at z
              exact Post.ok (rep := fun W J its => Wlk G W J its) p1 s1 z
            · exact (show False from p1).elim
          | _ => exact (show False from p1).elim
  | .range, .cons a (.cons b .nil), it, h, tg => by
    obtain ⟨p, y, z, q, rfl, h1, h2, h3, h4, h5⟩ := iv_rng2 h
    have hfree : X.mg ("range" : Str) = none := by
      rw [ok.mg]
      exact ok.free _ (by decide +kernel)
    have hn : noStar [y, z] = true := by show (!isStar y && (!isStar z && true)) = true; rw [h4, h5]; rfl
    refine ⟨fun pins s σ H R I ⟨W, env, S, sm, er, q⟩ => (pi_range2 (ok.kindOf h1) hfree (pa2 (sE ok a y h2) (sE ok b z h3) h4 h5) (by rw [star_cons X.env h4, star_cons X.env h5]; rfl) (star_cons X.env h5)).run pins s σ H R I ?_⟩
    refine Den.step q sm er fun ws S1 W1 xs H1 e1 l1 s1 n1 r1 p1 => ?_
    have hl := dEs_len e1
    cases ws with
    | nil => cases hl
    | cons w ws =>
      cases ws with
      | nil => cases hl
      | cons w2 ws =>
        cases ws with
        | cons _ _ => cases hl
        | nil =>
          obtain ⟨v, u, rfl, rv, ru⟩ := two_args r1
          cases w with
          | r n => exact (show False from p1).elim
          | t t =>
            cases t with
            | int m =>
              cases w2 with
              | r n => exact (show False from p1).elim
              | t t2 =>
                cases t2 with
                | int n =>
                  cases rv
                  cases ru
                  have p1 : Post G (fun W J its => Wlk G W J its) Wx σ W1 (if rngOk m && rngOk n then .ok (rng m n, none) S1 else .bad) R := p1
                  split at p1
                  · rename_i c
                    obtain ⟨b1, b2⟩ := rngOk_ok (ba c).1
                    obtain ⟨b3, b4⟩ := rngOk_ok (ba c).2
                    exact ⟨m, n, rfl, ⟨b1, b2, b3, b4⟩, Post.ok (rep := fun W J its => Wlk G W J its) p1 s1 wlk_rng⟩
                  · exact (show False from p1).elim
                | _ => exact (show False from p1).elim
            | _ => exact (show False from p1).elim
  | .seq, .nil, _, h, _ => by cases h
  | .seq, .cons _ (.cons _ _), _, h, _ => by cases h
  | .range, .nil, _, h, _ => by cases h
  | .range, .cons _ (.cons _ (.cons _ _)), _, h, _ => by cases h
  | .enum, src, it, h, _ => absurd h (no_it C (.inl rfl))
  | .zip, src, it, h, _ => absurd h (no_it C (.inr rfl))
theorem sEs {C : Ck} {X : Cx} {Wx : WX} (ok : XOk G C X Wx k call) : ∀ (ies : IEs) (es : List Expr), chkEs C ies es = true → noStar es = true → PA X es (tEs G Wx call ies)
  | .nil, [], _, _ => PA.imp pa_nil fun σ H Q ⟨W, env, S, sm, er, q⟩ => Post.ok (rep := fun W => Paired (RepV G W)) q sm .nil
  | .cons e es, x :: xs, h, hs => PA.imp (pa_cons (sE ok e x (ba h).1) (sEs ok es xs (ba h).2 (ba hs).2) (star_cons X.env (nb (ba hs).1))) fun σ H Q ⟨W, env, S, sm, er, q⟩ =>
      Den.step q sm er fun v S1 W1 x H1 e1 l1 s1 n1 r1 p1 => Den.step p1 s1 n1 fun ws S2 W2 ys H2 e2 l2 s2 n2 r2 p2 => Post.ok (rep := fun W => Paired (RepV G W)) p2 s2 (.cons (r1.mono l2) r2)
  | .nil, _ :: _, h, _ => by cases h
  | .cons _ _, [], h, _ => by cases h
theorem sPP {C : Ck} {X : Cx} {Wx : WX} (ok : XOk G C X Wx k call) (pos : Pos) : ∀ (ies : IEs) (ks : List Key) (keys : List (Option Expr)) (es : List Expr), keysB ks keys = true → chkEs C ies es = true → keys.length = es.length → PPs X pos keys es (trsOf G Wx call ks ies)
  | .nil, ks, keys, [], h1, _, h3 => by
    rw [List.length_eq_zero_iff.mp h3] at h1 ⊢
    cases ks with
    | nil => exact pps_nil
    | cons k ks => cases k <;> cases h1
  | .cons e es, [], [], _ :: _, _, _, h3 => by cases h3
  | .cons e es, [], _ :: _, _, h1, _, _ => by cases h1
  | .cons e es, k :: ks, key :: keys, x :: xs, h1, h2, h3 => by
    obtain ⟨c, rfl, hc, h4⟩ := keysB_cons (X := X) h1
    exact pps_cons hc (sE ok e x (ba h2).1) (sPP ok pos es ks keys xs h4 (ba h2).2 (Nat.succ.inj h3))
  | .cons e es, .inl _ :: _, [], _, h1, _, _ => by cases h1
  | .cons e es, .inr _ :: _, [], _, h1, _, _ => by cases h1
  | .nil, _, _, _ :: _, _, h2, _ => by cases h2
  | .cons _ _, _, _, [], _, h2, _ => by cases h2
theorem sAndE {C : Ck} {X : Cx} {Wx : WX} (ok : XOk G C X Wx k call) : ∀ (ies : IEs) (es : List Expr) (pos : Pos), chkEs C ies es = true → PE X (.BoolOp .And es pos) (Den G (RepV G) Wx (dAndE G.tab call ies))
  | .nil, [], _, _ => ⟨fun pins s σ H Q I ⟨W, env, S, sm, er, q⟩ => (show False from q).elim⟩
  | .cons e .nil, [x], pos, h => pe_one (sE ok e x (ba h).1)
  | .cons e (.cons f fs), x :: y :: ys, pos, h => PE.imp (pe_andT (sE ok e x (ba h).1) (sAndE ok (.cons f fs) (y :: ys) pos (ba h).2)) fun σ H Q ⟨W, env, S, sm, er, q⟩ =>
      Den.step q sm er fun v S1 W1 x H1 e1 l1 s1 n1 r1 p1 => by
        obtain ⟨b, hb, p2⟩ := truV_st p1 s1 r1
        refine ⟨b, by rw [ok.K]; exact hb, ?_⟩
        cases b with
        | true => exact iteT (Den.last p2 s1 n1)
        | false => exact iteF (Post.ok (rep := RepV G) p2 s1 r1)
  | .nil, _ :: _, _, h => by cases h
  | .cons _ .nil, [], _, h => by cases h
  | .cons _ .nil, _ :: _ :: _, _, h => by cases (ba h).2
  | .cons _ (.cons _ _), [], _, h => by cases h
  | .cons _ (.cons _ _), [_], _, h => by cases (ba h).2
theorem sOrE {C : Ck} {X : Cx} {Wx : WX} (ok : XOk G C X Wx k call) : ∀ (ies : IEs) (es : List Expr) (pos : Pos), chkEs C ies es = true → PE X (.BoolOp .Or es pos) (Den G (RepV G) Wx (dOrE G.tab call ies))
  | .nil, [], _, _ => ⟨fun pins s σ H Q I ⟨W, env, S, sm, er, q⟩ => (show False from q).elim⟩
  | .cons e .nil, [x], pos, h => pe_one (sE ok e x (ba h).1)
  | .cons e (.cons f fs), x :: y :: ys, pos, h => PE.imp (pe_orT (sE ok e x (ba h).1) (sOrE ok (.cons f fs) (y :: ys) pos (ba h).2)) fun σ H Q ⟨W, env, S, sm, er, q⟩ =>
      Den.step q sm er fun v S1 W1 x H1 e1 l1 s1 n1 r1 p1 => by
        obtain ⟨b, hb, p2⟩ := truV_st p1 s1 r1
        refine ⟨b, by rw [ok.K]; exact hb, ?_⟩
        cases b with
        | true => exact iteT (Post.ok (rep := RepV G) p2 s1 r1)
        | false => exact iteF (Den.last p2 s1 n1)
  | .nil, _ :: _, _, h => by cases h
  | .cons _ .nil, [], _, h => by cases h
  | .cons _ .nil, _ :: _ :: _, _, h => by cases (ba h).2
  | .cons _ (.cons _ _), [], _, h => by cases h
  | .cons _ (.cons _ _), [_], _, h => by cases (ba h).2
theorem sC {C : Ck} {X : Cx} {Wx : WX} (ok : XOk G C X Wx k call) : ∀ (c : IC) (e : Expr), chkC C c e = true → PT X e (tB G Wx call c)
  | .val ie, e, h => by
    obtain ⟨h1, h2⟩ := ba h
    have gen : isCmpI ie = false → PT X e (tB G Wx call (.val ie)) := fun z => by
      rw [z, Bool.or_false] at h2
      exact PT.imp (pt_truth (sE ok ie e h1) (plainT_ok h2)) fun σ H Q ⟨W, env, S, sm, er, q⟩ => Den.step q sm er fun v S1 W1 x H1 e1 l1 s1 n1 r1 p1 => by rw [ok.K]; exact tru_post p1 s1 r1
    cases ie with
    | cmp op a b =>
      obtain ⟨l, r, p, rfl, h1, h2, h3⟩ := iv_cmp h1
      refine PT.imp (pt_cmpR (OpR.any _) (sE ok a l h1) (sE ok b r h2) (isSet_ok h3)) fun σ H Q ⟨W, env, S, sm, er, q⟩ => ?_
      have q : Post G (fun _ (b k : Bool) => b = k) Wx σ W (((dE G.tab call a env S).bind fun x S => (dE G.tab call b env S).bind fun y S => cmpV op x y S).bind fun v S => truV v S) Q := q
      rw [bind_assoc] at q
      refine Den.step q sm er fun v S1 W1 x H1 e1 l1 s1 n1 r1 p1 => ?_
      rw [bind_assoc] at p1
      refine Den.step p1 s1 n1 fun w S2 W2 y H2 e2 l2 s2 n2 r2 p2 => ?_
      obtain ⟨b1, e3, p3⟩ := cmpV_bind p2
      refine cmp_any (op := op) (a := v) (b := w) (W := W2) (Wx := Wx) (σ := σ) (S := S2) ok.K ok.hu ?_ s2 (r1.mono l2) r2
      rw [e3]
      intro W3 z H3 l3 s3 r3
      cases r3
      exact ⟨b1, rfl, Post.ok (rep := fun _ (b k : Bool) => b = k) (p3.mono l3) s3 rfl⟩
    | inRg neg a b =>
      obtain ⟨l, p2, y, q, p, rfl, h1, h2, h3, h4⟩ := iv_inRg h1
      have fr : X.mg ("range" : Str) = none := by
        rw [ok.mg]
        exact ok.free _ (by decide +kernel)
      refine PT.imp (pt_cmpR (op_rg neg) (sE ok a l h2) (pe_callTy cr_range1 (ok.kindOf h1) fr (by decide +kernel) (pa_cons (sE ok b y h3) pa_nil (star_cons X.env h4)) (by decide +kernel) (by decide +kernel) (star_cons X.env h4) rfl) (by cases neg <;> rfl)) fun σ H Q ⟨W, env, S, sm, er, q⟩ => ?_
      have q : Post G (fun _ (b k : Bool) => b = k) Wx σ W (((dE G.tab call a env S).bind fun x S => (dE G.tab call b env S).bind fun y S => inRgV neg x y S).bind fun v S => truV v S) Q := q
      rw [bind_assoc] at q
      refine Den.step q sm er fun v S1 W1 x H1 e1 l1 s1 n1 r1 p1 => ?_
      rw [bind_assoc] at p1
      refine Den.step p1 s1 n1 fun w S2 W2 y H2 e2 l2 s2 n2 r2 p2 => ?_
      have p2 : Post G (fun _ (b k : Bool) => b = k) Wx σ W2 ((inRgV neg v w S2).bind fun v S => truV v S) Q := p2
      unfold inRgV at p2
      split at p2
      · cases r1
        cases r2
        refine ⟨_, rfl, fun p hp => ⟨_, _, _, _, rfl, rfl, upd_same, _, rfl, ?_⟩⟩
        exact Post.ok (rep := fun _ (b k : Bool) => b = k) (p2.mono (Wd.le_addF s2 hp _)) (s2.addF hp _) rfl
      · exact (show False from p2).elim
    | cmp2 o p a b c =>
      obtain ⟨l, m, r, pos, rfl, h1, h2, h3, h4, h5⟩ := iv_cmp2 h1
      refine PT.imp (pt_chain (OpR.any _) (OpR.any _) (sE ok a l h1) (sE ok b m h2) (sE ok c r h3) (lm_false h5)) fun σ H Q ⟨W, env, S, sm, er, q⟩ => ?_
      have q : Post G (fun _ (b k : Bool) => b = k) Wx σ W (((dE G.tab call a env S).bind fun x S => (dE G.tab call b env S).bind fun y S => (cmpV o x y S).bind fun z S => (truV z S).bind fun k S =>
        if k then (dE G.tab call c env S).bind fun w S => cmpV p y w S else .ok (.t (.bl false)) S).bind fun v S => truV v S) Q := q
      rw [bind_assoc] at q
      refine Den.step q sm er fun v S1 W1 x H1 e1 l1 s1 n1 r1 p1 => ?_
      rw [bind_assoc] at p1
      refine Den.step p1 s1 n1 fun w S2 W2 y H2 e2 l2 s2 n2 r2 p2 => ?_
      rw [bind_assoc] at p2
      obtain ⟨b1, e3, p3⟩ := cmpV_bind p2
      refine cmp_any (op := o) (a := v) (b := w) (W := W2) (Wx := Wx) (σ := σ) (S := S2) ok.K ok.hu ?_ s2 (r1.mono l2) r2
      rw [e3]
      intro W3 z H3 l3 s3 r3
      cases r3
      refine ⟨b1, rfl, ?_⟩
      have p4 := p3.mono l3
      cases b1 with
      | true =>
        have p4 : Post G (fun _ (b k : Bool) => b = k) Wx σ W3 (((dE G.tab call c env S2).bind fun w2 S => cmpV p w w2 S).bind fun v S => truV v S) Q := p4
        rw [bind_assoc] at p4
        refine iteT (Den.step p4 s3 (n2.mono l3) fun u S4 W4 z H4 e4 l4 s4 n4 r4 p5 => ?_)
        obtain ⟨b2, e6, p6⟩ := cmpV_bind p5
        refine cmp_any (op := p) (a := w) (b := u) (W := W4) (Wx := Wx) (σ := σ) (S := S4) ok.K ok.hu ?_ s4 (r2.mono (l3.trans l4)) r4
        rw [e6]
        intro W7 z H7 l7 s7 r7
        cases r7
        exact ⟨b2, rfl, Post.ok (rep := fun _ (b k : Bool) => b = k) (p6.mono l7) s7 rfl⟩
      | false => exact iteF ⟨false, rfl, Post.ok (rep := fun _ (b k : Bool) => b = k) p4 s3 rfl⟩
    | _ => exact gen rfl
  | .not c, e, h => by
    cases e with
    | UnaryOp o x p =>
      cases o with
      | Not =>
        refine PT.imp (pt_not (sC ok c x h)) fun σ H Q ⟨W, env, S, sm, er, q⟩ => Den.step q sm er fun v S1 W1 b1 H1 e1 l1 s1 n1 r1 p1 => ?_
        have r1 : b1 = v := r1
        subst r1
        exact Post.ok (rep := fun _ (b k : Bool) => b = k) p1 s1 rfl
      | _ => cases h
    | _ => cases h
  | .ands cs, e, h => by
    cases e with
    | BoolOp o vs p =>
      cases o with
      | And => exact (sAnd ok cs vs p (ba h).1 (by intro z; subst z; cases (ba h).2)).pt
      | Or => cases h
    | _ => cases h
  | .ors cs, e, h => by
    cases e with
    | BoolOp o vs p =>
      cases o with
      | Or => exact (sOr ok cs vs p (ba h).1 (by intro z; subst z; cases (ba h).2)).pt
      | And => cases h
    | _ => cases h
theorem sAnd {C : Ck} {X : Cx} {Wx : WX} (ok : XOk G C X Wx k call) : ∀ (cs : ICs) (es : List Expr) (pos : Pos), chkCs C cs es = true → es ≠ [] → PW X (.BoolOp .And es pos) (tAndC G Wx call cs)
  | .nil, [], _, _, hn => absurd rfl hn
  | .cons c .nil, [x], pos, h, _ => PW.imp (pw_and1 (sC ok c x (ba h).1)) fun σ H Q ⟨W, env, S, sm, er, q⟩ => Den.step q sm er fun v S1 W1 b1 H1 e1 l1 s1 n1 r1 p1 => by
      have r1 : b1 = v := r1
      subst r1
      cases b1 <;> exact Post.ok (rep := fun _ (b k : Bool) => b = k) p1 s1 rfl
  | .cons c (.cons d ds), x :: y :: ys, pos, h, _ => PW.imp (pw_and (sC ok c x (ba h).1) (sAnd ok (.cons d ds) (y :: ys) pos (ba h).2 (fun z => nomatch z))) fun σ H Q ⟨W, env, S, sm, er, q⟩ => Den.step q sm er fun v S1 W1 b1 H1 e1 l1 s1 n1 r1 p1 => by
      have r1 : b1 = v := r1
      subst r1
      cases b1 with
      | true => exact iteT (Den.last p1 s1 n1)
      | false => exact iteF (Post.ok (rep := fun _ (b k : Bool) => b = k) p1 s1 rfl)
  | .nil, _ :: _, _, h, _ => by cases h
  | .cons _ .nil, [], _, h, _ => by cases h
  | .cons _ .nil, _ :: _ :: _, _, h, _ => by cases (ba h).2
  | .cons _ (.cons _ _), [], _, h, _ => by cases h
  | .cons _ (.cons _ _), [_], _, h, _ => by cases (ba h).2
theorem sOr {C : Ck} {X : Cx} {Wx : WX} (ok : XOk G C X Wx k call) : ∀ (cs : ICs) (es : List Expr) (pos : Pos), chkCs C cs es = true → es ≠ [] → PW X (.BoolOp .Or es pos) (tOrC G Wx call cs)
  | .nil, [], _, _, hn => absurd rfl hn
  | .cons c .nil, [x], pos, h, _ => PW.imp (pw_or1 (sC ok c x (ba h).1)) fun σ H Q ⟨W, env, S, sm, er, q⟩ => Den.step q sm er fun v S1 W1 b1 H1 e1 l1 s1 n1 r1 p1 => by
      have r1 : b1 = v := r1
      subst r1
      cases b1 <;> exact Post.ok (rep := fun _ (b k : Bool) => b = k) p1 s1 rfl
  | .cons c (.cons d ds), x :: y :: ys, pos, h, _ => PW.imp (pw_or (sC ok c x (ba h).1) (sOr ok (.cons d ds) (y :: ys) pos (ba h).2 (fun z => nomatch z))) fun σ H Q ⟨W, env, S, sm, er, q⟩ => Den.step q sm er fun v S1 W1 b1 H1 e1 l1 s1 n1 r1 p1 => by
      have r1 : b1 = v := r1
      subst r1
      cases b1 with
      | true => exact iteT (Post.ok (rep := fun _ (b k : Bool) => b = k) p1 s1 rfl)
      | false => exact iteF (Den.last p1 s1 n1)
  | .nil, _ :: _, _, h, _ => by cases h
  | .cons _ .nil, [], _, h, _ => by cases h
  | .cons _ .nil, _ :: _ :: _, _, h, _ => by cases (ba h).2
  | .cons _ (.cons _ _), [], _, h, _ => by cases h
  | .cons _ (.cons _ _), [_], _, h, _ => by cases (ba h).2
end
end
end Rw

namespace Rw
open PySem PySem.Spec PyProof.Rows L2
/-! ### statements -/
def isLc : Expr → Bool
  | .ListComp _ _ _ _ => true
  | .SetComp _ _ _ _ => true
  | .DictComp _ _ _ _ _ => true
  | _ => false
def augOk : Operator → Bool
  | .Add => true
  | .Sub => true
  | _ => false
def isTup : Expr → Bool
  | .Tuple _ _ _ => true
  | _ => false
/-- try: .. except C: ..; except C as e: .. -/
def tryP : Stmt → Option (List Stmt × Str × Option Str × Stmt × List Stmt)
  | .Try bd [.ExceptHandler (some (.Name y _)) n (s0 :: ss) _] [] [] _ => some (bd, y, n, s0, ss)
  | _ => none
theorem tryP_ok {st : Stmt} {bd : List Stmt} {y : Str} {n : Option Str} {s0 : Stmt} {ss : List Stmt} (h : tryP st = some (bd, y, n, s0, ss)) : ∃ np p1 p2, st = .Try bd [.ExceptHandler (some (.Name y np)) n (s0 :: ss) p1] [] [] p2 := by
  unfold tryP at h
  split at h
  · cases h
    exact ⟨_, _, _, rfl⟩
  · cases h
/-- o[l:h] = v -/
def slP : Stmt → Option (Expr × Expr × Expr × Expr)
  | .Assign [.Subscript o (.Slice (some l) (some h) none _) _] v _ => some (o, l, h, v)
  | _ => none
theorem slP_ok {st : Stmt} {o l h v : Expr} (e : slP st = some (o, l, h, v)) : ∃ p1 p2 p3, st = .Assign [.Subscript o (.Slice (some l) (some h) none p1) p2] v p3 := by
  unfold slP at e
  split at e
  · cases e
    exact ⟨_, _, _, rfl⟩
  · cases e
theorem pg_slc {X : Cx} {o l h : Expr} {p1 p2 : Pos} {to tl th : TE} (ho : PE X o to) (hl : PE X l tl) (hh : PE X h th) : PG X (.Subscript o (.Slice (some l) (some h) none p1) p2) (fun v σ H Q => to σ H fun x H1 => tl σ H1 fun y H2 => th σ H2 fun z H3 =>
    ∃ a b xs ys i j, x = .ref a ∧ v = .ref b ∧ y = .int i ∧ z = .int j ∧ H3 a = some (.lst xs) ∧ H3 b = some (.lst ys) ∧ a ≠ b ∧ 0 ≤ i ∧ i ≤ j ∧ j ≤ (xs.length : Int) ∧ xs.length + ys.length ≤ sizeLine ∧ Q σ (upd H3 a (.lst (xs.take i.toNat ++ ys ++ xs.drop j.toNat)))) := by
  refine ⟨fun pins s σ H v u Q I r hq => ?_⟩
  rw [assign_Subscript]
  refine wpAny_bind (wpAny_holding (thn (ho.run pins s σ H _ I hq) fun ov s1 ⟨x, H1, I1, r1, q1⟩ => ?_))
  refine wpAny_bind (wpAny_holding (wpAny_Slice ?_))
  rw [evalPart_some]
  refine thn (hl.run pins s1 σ H1 _ I1 q1) fun vl s2 ⟨y, H2, I2, r2, q2⟩ => ?_
  rw [evalPart_some]
  refine thn (hh.run pins s2 σ H2 _ I2 q2) fun vh s3 ⟨z, H3, I3, r3, q3⟩ => ?_
  rw [evalPart_none]
  refine wpAny_pure ?_
  have I4 : Inv X pins σ H3 { s3 with heap := s3.heap.push { cls := .type "slice", data := .fields #[vl, vh, .none] } } := I3.kept (t' := s3.toks) fun b ob q => Heap.get?_push_of_some _ q
  obtain ⟨a, b, xs, ys, i, j, rfl, rfl, rfl, rfl, hA, hB, hne, h0, hij, hj, hz, q⟩ := q3
  cases (show ov = Value.ref a from r1)
  cases (show u = Value.ref b from r)
  refine wpAny_bind (wpAny_standAt (wpAny_bind (wpAny_holding (set_slice (Q := fun _ s5 => wpAny (model X.prog X.w) X.A (release [.ref s3.heap.objs.size, .ref b, .ref a] []) (fun _ s' => ∃ σ' H', Inv X pins σ' H' s' ∧ Q σ' H') X.xe s5) I4 hA hB hne (Heap.IsSliceOf.new ..) r2 r3 h0 hij hj hz fun s5 I5 => ?_))))
  exact wpAny_release ⟨σ, _, I5, q⟩
abbrev Ck.su (C : Ck) (h : Option Nat) : Ck := { C with calm := false, hs := h }
mutual
def chkS (C : Ck) : IS → Stmt → Bool
  | .pass, .Pass _ => true
  | .expr e, .Expr x _ => chkE C e x && !isLc x
  | .set i e, .Assign [.Name x _] v _ => decide (C.N[i]? = some x) && (C.can x && (chkE C e v && (!isLc v || decide (C.sc.kind = .function))))
  | .setF o f e, .Assign [.Attribute x n _] v _ => chkE C o x && (decide (n = C.nm.atN f) && chkE C e v)
  | .setS o i e, .Assign [.Subscript x y _] v _ => chkE C o x && (chkE C i y && (!isSlc y && chkE C e v))
  | .augF o f op e, .AugAssign (.Attribute x n _) o2 v _ => chkE C o x && (decide (n = C.nm.atN f) && (decide (op = o2) && (augOk o2 && chkE C e v)))
  | .setT is e, .Assign [t] v _ => chkT C true is t && (chkE C e v && (!isLc v && !isTup v))
  | .aug i op e, .AugAssign (.Name x _) o v _ => decide (C.N[i]? = some x) && (C.can x && (chkE C e v && (decide (op = o) && (augOk o && decide (C.hs ≠ some i)))))
  | .ife t a b, .If c x y _ => chkC C t c && (chkSs C a x && chkSs C b y)
  | .for_ k src many tg body, .For t it b [] _ => chkIt C k src it && (chkT C many tg t && (chkSs C body b && C.calm))
  | .while_ _ t body, .While c b [] _ => chkC C t c && chkSs C body b
  | .ret e, .Return (some x) _ => chkE C e x
  | .retN, .Return none _ => true
  | .raise c _, .Raise (some (.Call (.Name x _) [.Constant (.str _) _ _] [] _)) none _ => glB C.sc x && (okN x && (decide (x = C.nm.exN c) && C.calm))
  | .setL o lo hi e, st => match slP st with
    | some (x, l, h, v) => chkE C o x && (chkE C lo l && (chkE C hi h && (chkE C e v && !isLc v)))
    | none => false
  | .try_ b cs nm su, st => match tryP st with
    | some (bd, y, n, s0, ss) => C.top && (decide (C.hs = none) && (chkSs C b bd && (glB C.sc y && (okN y && (match cs with
      | [d] => decide (y = C.nm.exN d) && ((C.tab.exc d).isSome && (match nm, n with
        | none, none => chkSs (C.su none) su (s0 :: ss)
        | some i, some z => decide (C.N[i]? = some z) && (decide (C.sc.names.lookup z = some .local) && chkSs (C.su (some i)) su (s0 :: ss))
        | _, _ => false))
      | _ => false)))))
    | none => false
  | .cont, .Continue _ => true
  | .brk, .Break _ => true
  | _, _ => false
def chkSs (C : Ck) : ISs → List Stmt → Bool
  | .nil, [] => true
  | .cons s ss, x :: xs => chkS C s x && chkSs C ss xs
  | _, _ => false
end
section
variable {G : Gd} {C : Ck} {X : Cx} {Wx : WX} {k : Nat} {call : Call} {W : Wd} {S : Store} {H : Hp} {σ : L2.St} {env : Env}
abbrev tS (G : Gd) (Wx : WX) (call : Call) (s : IS) : TS := DenS G Wx (dS G.tab call s)
abbrev tSs (G : Gd) (Wx : WX) (call : Call) (ss : ISs) : TS := DenS G Wx (dSs G.tab call ss)
theorem lc_no {v : Expr} {t : Option Expr} {l : Nat} {env : PySem.Env} (h : isLc v = false) : swapsWith v t l env = pure false := by
  cases v <;> first | rfl | cases h
theorem post_st {α : Type} {rep : Wd → V → α → Prop} (s : Sim G W S H) : True := trivial
/-- one turn -/
theorem turn_of {w : Wk} {many : Bool} {tg : List Nat} {body : ISs} {v : Val} {vs : List Val} {x : V} {D : Ends} {P : L2.St → Hp → Prop} (h : PostS G Wx W (forL w many tg (fun env S => dSs G.tab call body env S) (v :: vs) env S) D) (hw : okW w S) (s : Sim G W S H) (er : EnvRep G W σ env) (r : RepV G W x v)
    (hP : ∀ (W' : Wd) (env' : Env) (S' : Store) (σ' : L2.St) (H' : Hp), W.le W' → Sim G W' S' H' → EnvRep G W' σ' env' → PostS G Wx W' (forL w many tg (fun env S => dSs G.tab call body env S) vs env' S') D → P σ' H') :
    tTg G many tg x σ H fun σ2 H2 => tSs G Wx call body { D with nx := P, ct := P, bk := D.nx } σ2 H2 := by
  rw [forL_cons hw] at h
  cases e : target many tg v env S with
  | none => rw [e] at h; exact (show False from h).elim
  | some env1 =>
    rw [e] at h
    refine ⟨W, S, env, env1, v, s, er, r, e, fun σ2 er2 _ => ⟨W, env1, S, s, er2, ?_⟩⟩
    have h : PostS G Wx W (match dSs G.tab call body env1 S with
      | .nx env2 S2 => forL w many tg (fun env S => dSs G.tab call body env S) vs env2 S2
      | .ct env2 S2 => forL w many tg (fun env S => dSs G.tab call body env S) vs env2 S2
      | .bk env2 S2 => .nx env2 S2
      | m => m) D := h
    cases q : dSs G.tab call body env1 S with
    | nx env2 S2 =>
      rw [q] at h
      exact fun W' σ' H' l s' e' => hP W' env2 S2 σ' H' l s' e' (PostS.mono h l)
    | ct env2 S2 =>
      rw [q] at h
      exact fun W' σ' H' l s' e' => hP W' env2 S2 σ' H' l s' e' (PostS.mono h l)
    | bk env2 S2 =>
      rw [q] at h
      exact h
    | rt v S2 =>
      rw [q] at h
      exact h
    | ex x env2 S2 =>
      rw [q] at h
      exact h
    | bad =>
      rw [q] at h
      exact h
/-- the word of a for's turns: what is left of it -/
def Left (G : Gd) (Wx : WX) (call : Call) (W0 : Wd) (many : Bool) (tg : List Nat) (body : ISs) (its : List Val × Wk) (D : Ends) (i : Nat) : L2.St → Hp → Prop := fun σ H =>
  ∃ (W : Wd) (env : Env) (S : Store), W0.le W ∧ Sim G W S H ∧ EnvRep G W σ env ∧ PostS G Wx W (forL its.2 many tg (fun env S => dSs G.tab call body env S) (its.1.drop i) env S) D
theorem left_turn {W0 : Wd} {many : Bool} {tg : List Nat} {body : ISs} {its : List Val × Wk} {D : Ends} {J : It} {i : Nat} {x : V} {H' : Hp} (wl : Wlk G W0 J its) (hi : i < its.1.length) (h : Left G Wx call W0 many tg body its D i σ H) (y : J.yld i H x H') :
    tTg G many tg x σ H' fun σ2 H2 => tSs G Wx call body { D with nx := Left G Wx call W0 many tg body its D (i + 1), ct := Left G Wx call W0 many tg body its D (i + 1), bk := D.nx } σ2 H2 := by
  obtain ⟨W, env, S, l, s, er, q⟩ := h
  have hw : okW its.2 S := Classical.byContradiction fun hw => by
    rw [forL_bad hw] at q
    exact (show False from q).elim
  obtain ⟨W2, v, l2, s2, hv, r2⟩ := wl.yld W S H i x H' hi l.sub s hw y
  have ev : its.1[i] = v := (List.getElem?_eq_some_iff.mp hv).2
  rw [List.drop_eq_getElem_cons hi, ev] at q
  exact turn_of (PostS.mono q l2) hw s2 (er.mono l2) r2 fun W' env' S' σ' H' l' s' e' q' => ⟨W', env', S', (l.trans l2).trans l', s', e', q'⟩
theorem left_end {W0 : Wd} {many : Bool} {tg : List Nat} {body : ISs} {its : List Val × Wk} {D : Ends} {i : Nat} (hi : its.1.length ≤ i) (h : Left G Wx call W0 many tg body its D i σ H) : D.nx σ H := by
  obtain ⟨W, env, S, l, s, er, q⟩ := h
  have hw : okW its.2 S := Classical.byContradiction fun hw => by
    rw [forL_bad hw] at q
    exact (show False from q).elim
  rw [List.drop_of_length_le hi, forL_nil hw] at q
  exact q W σ H (.refl W) s er
theorem left_ok {W0 : Wd} {many : Bool} {tg : List Nat} {body : ISs} {its : List Val × Wk} {D : Ends} {i : Nat} (h : Left G Wx call W0 many tg body its D i σ H) : ∃ W' S', W0.sub W' ∧ Sim G W' S' H ∧ okW its.2 S' := by
  obtain ⟨W, env, S, l, s, er, q⟩ := h
  refine ⟨W, S, l.sub, s, Classical.byContradiction fun hw => ?_⟩
  rw [forL_bad hw] at q
  exact (show False from q).elim
theorem st_assoc {α β : Type} (m : R α) (f : α → Store → R β) (env : Env) (k : β → Store → RS) : (m.st env fun a S => (f a S).st env k) = (m.bind f).st env k := by
  cases m <;> rfl
/-- a for's source and what comes of it -/
theorem for_src (ok : XOk G C X Wx k call) (hc : X.calm = true) {kk : ItK} {src : IEs} {many : Bool} {tg : List Nat} {body : ISs} {t it : Expr} {b : List Stmt} {pos : Pos} (h : chkIt C kk src it = true) (hg : PG X t (tTg G many tg)) (hb : PSs X b (tSs G Wx call body)) :
    PS X (.For t it b [] pos) (tS G Wx call (.for_ kk src many tg body)) := by
  refine PS.imp (ps_for ok.pas hc (sIt ok kk src it h t) hg hb (it_noset h X.env)) fun D σ H ⟨W, env, S, sm, er, q⟩ => ?_
  have q : PostS G Wx W ((dEs G.tab call src env S).st env fun vs S => (items kk vs S).st env fun its S => forL its.2 many tg (fun env S => dSs G.tab call body env S) its.1 env S) D := q
  rw [st_assoc] at q
  refine Den.stepS (f := fun env S => (dEs G.tab call src env S).bind fun vs S => items kk vs S) q sm er fun its S1 W1 J H1 e1 l1 s1 n1 wl p1 => ?_
  exact L2.for_it (G := fun H' => ∃ W' S', W1.sub W' ∧ Sim G W' S' H' ∧ okW its.2 S') (Y := fun i H' x H2 => J.yld i H' x H2) ⟨fun i H' hi ⟨W', S', l, s, w⟩ => wl.go W' S' H' i hi l s w, fun H' ⟨W', S', l, s, w⟩ => wl.stop W' S' H' l s w, fun i H' x H2 hi _ y => y⟩
    (fun i => Left G Wx call W1 many tg body its D i) ⟨W1, env, S1, .refl W1, s1, n1, p1⟩ (fun i σ' H' hi t => left_ok t) (fun i x σ' H' H2 hi t y => left_turn wl hi t y) fun σ' H' t => left_end (Nat.le_refl _) t
theorem ip_any (op : Operator) : PIp X op (fun x y H Q => ∃ r : TIp, PIp X op r ∧ r x y H Q) := fun pins s σ H x y v u Q I rx ry ⟨_, h, q⟩ => h pins s σ H x y v u Q I rx ry q
theorem ip_str : PIp X .Add (fun x y H Q => ∃ i j, x = .str i ∧ y = .str j ∧ i.length + j.length ≤ sizeLine ∧ Q (.str (i ++ j)) H) := iop_add_str
theorem aug_any {op : Operator} {x y : V} {a b : Val} {Q : VK} (hop : augOk op = true) (h : PostV G Wx σ W (binA op a b S) Q) (s : Sim G W S H) (rx : RepV G W x a) (ry : RepV G W y b) : ∃ r : TIp, PIp X op r ∧ r x y H Q := by
  cases a with
  | r n => exact (show False from h).elim
  | t a =>
    cases b with
    | r n =>
      have h' : PostV G Wx σ W .bad Q := h
      exact (show False from h').elim
    | t b =>
      have rx : Rep G W.F x a := rx
      have ry : Rep G W.F y b := ry
      have h : PostV G Wx σ W (ofT (binT op a b) S) Q := h
      have no : binT op a b = none → False := fun z => by rw [z] at h; exact h
      cases a with
      | int i =>
        cases b with
        | int j =>
          cases rx
          cases ry
          cases op with
          | Add => exact ⟨_, ip_add, i, j, rfl, rfl, post_t h s (.int _)⟩
          | Sub => exact ⟨_, ip_sub, i, j, rfl, rfl, post_t h s (.int _)⟩
          | _ => cases hop
        | _ => exact (no rfl).elim
      | str u =>
        cases b with
        | str v =>
          cases rx
          cases ry
          have h2 : PostV G Wx σ W (ofT (if op = .Add ∧ u.length + v.length ≤ szLine then some (.str (u ++ v)) else none) S) Q := h
          by_cases c : op = .Add ∧ u.length + v.length ≤ szLine
          · rw [if_pos c] at h2
            obtain ⟨c1, c2⟩ := c
            subst c1
            exact ⟨_, ip_str, u, v, rfl, rfl, c2, post_t h2 s (.str _)⟩
          · rw [if_neg c] at h2
            exact (show False from h2).elim
        | _ => exact (no rfl).elim
      | _ => exact (no rfl).elim
theorem while_den {t : IC} {body : ISs} {D : Ends} : ∀ (n : Nat) {σ : L2.St} {H : Hp}, DenS G Wx (fun env S => whileL (fun env S => dB G.tab call t env S) (fun env S => dSs G.tab call body env S) n env S) D σ H →
    tB G Wx call t σ H fun b H1 => if b = true then ∃ N : L2.St → Hp → Prop, (∀ σ' H', N σ' H' → ∃ m, m < n ∧ DenS G Wx (fun env S => whileL (fun env S => dB G.tab call t env S) (fun env S => dSs G.tab call body env S) m env S) D σ' H') ∧
      tSs G Wx call body { D with nx := N, ct := N, bk := D.nx } σ H1 else D.nx σ H1
  | 0, σ, H, ⟨W, env, S, sm, er, q⟩ => (show False from q).elim
  | n + 1, σ, H, ⟨W, env, S, sm, er, q⟩ => by
    have q : PostS G Wx W ((dB G.tab call t env S).st env fun k S => if k then (match dSs G.tab call body env S with
      | .nx env2 S2 => whileL (fun env S => dB G.tab call t env S) (fun env S => dSs G.tab call body env S) n env2 S2
      | .ct env2 S2 => whileL (fun env S => dB G.tab call t env S) (fun env S => dSs G.tab call body env S) n env2 S2
      | .bk env2 S2 => .nx env2 S2
      | m => m) else .nx env S) D := q
    refine Den.stepS q sm er fun v S1 W1 b H1 e1 l1 s1 n1 r1 p1 => ?_
    have r1 : b = v := r1
    subst r1
    cases b with
    | false =>
      exact iteF (p1 W1 σ H1 (.refl W1) s1 n1)
    | true =>
      refine iteT ⟨DenS G Wx (fun env S => whileL (fun env S => dB G.tab call t env S) (fun env S => dSs G.tab call body env S) n env S) D, fun σ' H' h => ⟨n, Nat.lt_succ_self n, h⟩, W1, env, S1, s1, n1, ?_⟩
      have p1 : PostS G Wx W1 (match dSs G.tab call body env S1 with
        | .nx env2 S2 => whileL (fun env S => dB G.tab call t env S) (fun env S => dSs G.tab call body env S) n env2 S2
        | .ct env2 S2 => whileL (fun env S => dB G.tab call t env S) (fun env S => dSs G.tab call body env S) n env2 S2
        | .bk env2 S2 => .nx env2 S2
        | m => m) D := p1
      cases q : dSs G.tab call body env S1 with
      | nx env2 S2 =>
        rw [q] at p1
        exact fun W' σ' H' l s' e' => ⟨W', env2, S2, s', e', PostS.mono p1 l⟩
      | ct env2 S2 =>
        rw [q] at p1
        exact fun W' σ' H' l s' e' => ⟨W', env2, S2, s', e', PostS.mono p1 l⟩
      | bk env2 S2 =>
        rw [q] at p1
        exact p1
      | rt v S2 =>
        rw [q] at p1
        exact p1
      | ex x env2 S2 =>
        rw [q] at p1
        exact p1
      | bad =>
        rw [q] at p1
        exact p1
theorem seq_st {m : RS} {f : Env → Store → RS} {D : Ends} (h : PostS G Wx W (m.seq f) D) : PostS G Wx W m { D with nx := DenS G Wx f D } := by
  cases m with
  | nx env S => exact fun W' σ H l s e => ⟨W', env, S, s, e, PostS.mono (show PostS G Wx W (f env S) D from h) l⟩
  | rt v S => exact h
  | bk env S => exact h
  | ct env S => exact h
  | ex x env S => exact h
  | bad => exact h
theorem chkT_tup {tg : List Nat} {e : Expr} (h : chkT C true tg e = true) : ∃ es kk p, e = .Tuple es kk p := by
  cases e with
  | Tuple es kk p => exact ⟨es, kk, p, rfl⟩
  | _ => cases tg <;> cases h
theorem iv_raise {C : Ck} {c : Nat} {es : IEs} {st : Stmt} (h : chkS C (.raise c es) st = true) : ∃ x p m j p2 q p3, st = .Raise (some (.Call (.Name x p) [.Constant (.str m) j p2] [] q)) none p3 ∧ glB C.sc x = true ∧ okN x = true ∧ x = C.nm.exN c ∧ C.calm = true := by
  cases st with
  | Raise e f p3 =>
    cases e with
    | none => cases h
    | some e =>
      cases e with
      | Call g as kw q =>
        cases g with
        | Name x p =>
          cases as with
          | nil => cases h
          | cons a as =>
            cases as with
            | cons _ _ =>
              cases a with
              | Constant k j p2 => cases k <;> (cases kw <;> (cases f <;> cases h))
              | _ => cases h
            | nil =>
              cases a with
              | Constant k j p2 =>
                cases k with
                | str m =>
                  cases kw with
                  | cons _ _ => cases h
                  | nil =>
                    cases f with
                    | some _ => cases h
                    | none =>
                      obtain ⟨h1, h⟩ := ba h
                      obtain ⟨h2, h⟩ := ba h
                      obtain ⟨h3, h4⟩ := ba h
                      exact ⟨x, p, m, j, p2, q, p3, rfl, h1, h2, of_decide_eq_true h3, h4⟩
                | _ => cases h
              | _ => cases h
        | _ => cases h
      | _ => cases h
  | _ => cases h
theorem sw_attr {v o : Expr} {f : Str} {p : Pos} {l : Nat} {env : PySem.Env} : swapsWith v (some (.Attribute o f p)) l env = pure false := by
  cases v <;> rfl
theorem sw_sub {v o i : Expr} {p : Pos} {l : Nat} {env : PySem.Env} : swapsWith v (some (.Subscript o i p)) l env = pure false := by
  cases v <;> rfl
theorem sw_name {elt : Expr} {gs : List Comprehension} {scope : Scope} {pos py : Pos} {y : Str} {l : Nat} {env : PySem.Env} : swapsWith (.ListComp elt gs scope pos) (some (.Name y py)) l env =
    pure (env.blockKind == .function && env.kindOf y == some .local && py.line == pos.line && !(scope.names.any fun (n, k) => n == y && (k == .local || k == .cell))) := rfl
def isCall : Expr → Bool
  | .Call _ _ _ _ => true
  | _ => false
theorem no_isi {C : Ck} {a : IE} {many : Bool} {ts : List Ty} {v : Expr} (hv : isCall v = false) (h : chkE C (.isi a many ts) v = true) : False := by
  rcases iv_isi h with ⟨t, p, y, z, q, r, _, _, rfl, _⟩ | ⟨p, y, zs, kk, z, q, _, rfl, _⟩
  · cases hv
  · cases hv
theorem set_lc (ok : XOk G C X Wx k call) {i : Nat} {x : Str} {px p : Pos} {e : IE} {v : Expr} (h1 : X.N[i]? = some x) (c1 : Loc X.env.scope x) (c2 : X.fn x = true ∨ X.env.scope.names.lookup x = some .local) (hk : X.env.scope.kind = .function) (h : chkE C e v = true) :
    PS X (.Assign [.Name x px] v p) (tAsg (tE G Wx call e) (gName i)) := by
  cases v with
  | ListComp elt gs scope pos =>
    cases hb : (X.env.blockKind == .function && X.env.kindOf x == some .local && px.line == pos.line && !(scope.names.any fun (n, k) => n == x && (k == .local || k == .cell))) with
    | false => exact ps_set (i := i) ok.nd h1 c1 (sE ok e _ h) (by rw [sw_name, hb]) c2
    | true =>
      have hy : X.env.scope.names.lookup x = some .local := by
        simp only [Bool.and_eq_true, beq_iff_eq] at hb
        exact hb.1.1.2
      cases e with
      | comp m kk src many tg ifs ielt =>
        obtain ⟨y, t, it, xs, sc2, p2, e1, h1', h2, h3, h4, h5, h6⟩ := iv_comp h
        cases e1
        have own : (ownOf C.N tg).map (·.2) = tg := by
          unfold ownOf
          rw [List.map_map]
          exact List.map_id tg
        have z := ps_setLc (i := i) (y := x) (py := px) (pos := pos) (spos := p) (ok.calm h6) ok.nd h1 hy (by rw [sw_name, hb]) (sIt ok kk src it h1' t) (blkOk_by (by rw [ok.N, ok.sc]; exact h2)) (fun s H c cl fp => sTg (ok.blk h6 s H c cl fp scope) h3) (fun s H c cl fp => sIfs (ok.blk h6 s H c cl fp scope) ifs xs h4) (fun s H c cl fp => sE (ok.blk h6 s H c cl fp scope) ielt elt h5) (it_noset h1' X.env)
        rw [own] at z
        exact PS.imp z fun D σ H d => lc_post d
      | isi a many ts => exact (no_isi rfl h).elim
      | _ => cases h
  | SetComp elt gs scope pos =>
    cases e with
    | isi a many ts => exact (no_isi rfl h).elim
    | _ => cases h
  | DictComp ke va gs scope pos =>
    cases e with
    | isi a many ts => exact (no_isi rfl h).elim
    | _ => cases h
  | _ => exact ps_set (i := i) ok.nd h1 c1 (sE ok e _ h) rfl c2
/-! ### try -/
theorem Gd.hd_none {G : Gd} (h : G.hs = none) : G.hd none = G := by
  cases G
  cases h
  rfl
theorem iv_try {C : Ck} {b : ISs} {cs : List Nat} {nm : Option Nat} {su : ISs} {st : Stmt} (h : chkS C (.try_ b cs nm su) st = true) : ∃ bd y n s0 ss d, tryP st = some (bd, y, n, s0, ss) ∧ cs = [d] ∧ C.top = true ∧ C.hs = none ∧ chkSs C b bd = true ∧ glB C.sc y = true ∧ okN y = true ∧ y = C.nm.exN d ∧ (C.tab.exc d).isSome = true ∧
    ((nm = none ∧ n = none ∧ chkSs (C.su none) su (s0 :: ss) = true) ∨ ∃ i z, nm = some i ∧ n = some z ∧ C.N[i]? = some z ∧ C.sc.names.lookup z = some .local ∧ chkSs (C.su (some i)) su (s0 :: ss) = true) := by
  have h : (match (generalizing := false) tryP st with
    | some (bd, y, n, s0, ss) => C.top && (decide (C.hs = none) && (chkSs C b bd && (glB C.sc y && (okN y && (match (generalizing := false) cs with
      | [d] => decide (y = C.nm.exN d) && ((C.tab.exc d).isSome && (match (generalizing := false) nm, n with
        | none, none => chkSs (C.su none) su (s0 :: ss)
        | some i, some z => decide (C.N[i]? = some z) && (decide (C.sc.names.lookup z = some .local) && chkSs (C.su (some i)) su (s0 :: ss))
        | _, _ => false))
      | _ => false)))))
    | none => false) = true := by
    cases st <;> exact h
  cases q : tryP st with
  | none => rw [q] at h; cases h
  | some r =>
    obtain ⟨bd, y, n, s0, ss⟩ := r
    rw [q] at h
    obtain ⟨h1, h⟩ := ba h
    obtain ⟨h2, h⟩ := ba h
    obtain ⟨h3, h⟩ := ba h
    obtain ⟨h4, h⟩ := ba h
    obtain ⟨h5, h⟩ := ba h
    cases cs with
    | nil => cases h
    | cons d ds =>
      cases ds with
      | cons _ _ => cases h
      | nil =>
        obtain ⟨h6, h⟩ := ba h
        obtain ⟨h7, h⟩ := ba h
        refine ⟨bd, y, n, s0, ss, d, rfl, rfl, h1, of_decide_eq_true h2, h3, h4, h5, of_decide_eq_true h6, h7, ?_⟩
        cases nm with
        | none =>
          cases n with
          | none => exact .inl ⟨rfl, rfl, h⟩
          | some _ => cases h
        | some i =>
          cases n with
          | none => cases h
          | some z =>
            obtain ⟨h8, h⟩ := ba h
            obtain ⟨h9, h⟩ := ba h
            exact .inr ⟨i, z, rfl, rfl, of_decide_eq_true h8, of_decide_eq_true h9, h⟩
theorem iv_setL {C : Ck} {o lo hi e : IE} {st : Stmt} (h : chkS C (.setL o lo hi e) st = true) : ∃ x l hh v, slP st = some (x, l, hh, v) ∧ chkE C o x = true ∧ chkE C lo l = true ∧ chkE C hi hh = true ∧ chkE C e v = true ∧ isLc v = false := by
  have h : (match (generalizing := false) slP st with
    | some (x, l, h, v) => chkE C o x && (chkE C lo l && (chkE C hi h && (chkE C e v && !isLc v)))
    | none => false) = true := by
    cases st <;> exact h
  cases q : slP st with
  | none => rw [q] at h; cases h
  | some r =>
    obtain ⟨x, l, hh, v⟩ := r
    rw [q] at h
    obtain ⟨h1, h⟩ := ba h
    obtain ⟨h2, h⟩ := ba h
    obtain ⟨h3, h⟩ := ba h
    obtain ⟨h4, h5⟩ := ba h
    exact ⟨x, l, hh, v, rfl, h1, h2, h3, h4, nb h5⟩
theorem roomH_suite {k : Nat} {A : Around} {a : Addr} (r : L2H.RoomH k A) : L2H.RoomH k (A.mark (some (.ref a))) := ⟨r.dp, r.un⟩
theorem XOk.tr {X : Cx} (ok : XOk G C X Wx k call) (hn : C.hs = none) {W' : WX} {pn : List (Addr × Obj)} {xe : Value → Shared → Prop} (tk : Takes (X.tr pn xe) W') (pas : PassesOwn (model X.prog X.w) X.A X.env xe) : XOk G C (X.tr pn xe) W' k call :=
  { prog := ok.prog, w := ok.w, K := ok.K, mg := ok.mg, N := ok.N, nd := ok.nd, sc := ok.sc, room := ok.room, roomH := ok.roomH, fnsH := ok.fnsH, hu := ok.hu, hs := ok.hs, cs := ok.cs,
    hx := fun i a c e => absurd ((congrArg (Option.map fun h => h.1) e).symm.trans (ok.hs.trans hn)) (fun z => nomatch z),
    stk := ok.stk, calm := ok.calm, tk := tk, pas := pas, tab := ok.tab, nm := ok.nm, free := ok.free, gl := ok.gl, cls := ok.cls, fns := ok.fns, okf := ok.okf, con := ok.con, exc := ok.exc, can := ok.can }
theorem XOk.suO {X : Cx} (ok : XOk G C X Wx k call) (hn : C.hs = none) (a : Addr) (pn : List (Addr × Obj)) : XOk G (C.su none) (X.suite a pn) (fun _ _ _ _ => False) k call :=
  { prog := ok.prog, w := ok.w, K := ok.K, mg := ok.mg, N := ok.N, nd := ok.nd, sc := ok.sc, room := fun z => absurd (show false = true from z) Bool.false_ne_true, roomH := roomH_suite ok.roomH, fnsH := ok.fnsH, hu := ok.hu, hs := ok.hs.trans hn, cs := fun _ => rfl,
    hx := fun i a c e => absurd ((congrArg (Option.map fun h => h.1) e).symm.trans (ok.hs.trans hn)) (fun z => nomatch z),
    stk := ok.stk, calm := fun z => absurd (show false = true from z) Bool.false_ne_true, tk := takes0, pas := PassesOwn.never, tab := ok.tab, nm := ok.nm, free := ok.free, gl := ok.gl, cls := ok.cls, fns := fun z => absurd (show false = true from z) Bool.false_ne_true, okf := ok.okf, con := ok.con, exc := ok.exc, can := ok.can }
theorem XOk.suA {X : Cx} (ok : XOk G C X Wx k call) (i : Nat) (a : Addr) (c : Nat) (oe : Obj) (pn : List (Addr × Obj)) (hz : Zc (.ref (G.eA c)) none oe) (hf : ∃ vs, oe.data = .fields vs) {l : List Nat} (hl : G.tab.exc c = some l) :
    XOk (G.hd (some (i, a, c))) (C.su (some i)) (X.suite a ((a, oe) :: pn)) (fun _ _ _ _ => False) k call :=
  { prog := ok.prog, w := ok.w, K := ok.K, mg := ok.mg, N := ok.N, nd := ok.nd, sc := ok.sc, room := fun z => absurd (show false = true from z) Bool.false_ne_true, roomH := roomH_suite ok.roomH, fnsH := fun f d h1 h2 => let ⟨run, e, F⟩ := ok.fnsH f d h1 h2; ⟨run, e, ⟨F.ex⟩⟩, hu := ok.hu, hs := rfl, cs := fun z => absurd (show false = true from z) Bool.false_ne_true,
    hx := fun i' a' c' e => by
      have e : some (i, a, c) = some (i', a', c') := e
      cases e
      exact ⟨oe, List.mem_cons_self, hz, hf, l, hl⟩
    stk := ok.stk, calm := fun z => absurd (show false = true from z) Bool.false_ne_true, tk := takes0, pas := PassesOwn.never, tab := ok.tab, nm := ok.nm, free := ok.free, gl := ok.gl,
    cls := fun c cl h => let D := ok.cls c cl h; { cls := D.cls, ha := D.ha, hn := D.hn, htk := D.htk, hm := D.hm, isB := fun t ht => by have z := D.isB t ht; cases t <;> exact z, isC := D.isC, isD := D.isD, mg := D.mg, na := D.na, mt := D.mt, mkf := D.mkf }
    fns := fun z => absurd (show false = true from z) Bool.false_ne_true, okf := ok.okf,
    con := fun g t h => by
      obtain ⟨v, u, h1, h2, h3, h4⟩ := ok.con g t h
      exact ⟨v, u, h1, h2, fun F => (h3 F).hd, h4⟩
    exc := fun c l h => let D := ok.exc c l h; { mg := D.mg, ex := D.ex, sub := D.sub, ty := D.ty, isE := D.isE, ve := D.ve, kO := D.kO }
    can := ok.can }
theorem post_noex {W : Wd} {m : RS} {D : Ends} (h : PostS G Wx W m.noex D) : PostS G (fun _ _ _ _ => False) W m D := by
  cases m with
  | ex x env S => exact (show False from h).elim
  | _ => exact h
theorem post_gone {W : Wd} {m : RS} {D : Ends} {i : Nat} {a : Addr} {c : Nat} (hn : G.hs = none) (h : PostS G Wx W (m.gone i) D) :
    PostS (G.hd (some (i, a, c))) (fun _ _ _ _ => False) W m { nx := fun σ' H' => D.nx (σ'.set i none) H', rt := D.rt, bk := fun σ' H' => D.bk (σ'.set i none) H', ct := fun σ' H' => D.ct (σ'.set i none) H' } := by
  have back : ∀ {W' : Wd} {S : Store} {H : Hp}, Sim (G.hd (some (i, a, c))) W' S H → Sim G W' S H := fun s => by
    have z := Sim.hd (G := G.hd (some (i, a, c))) (h := none) s
    rw [show (G.hd (some (i, a, c))).hd none = G.hd none from rfl, Gd.hd_none hn] at z
    exact z
  have backE : ∀ {W' : Wd} {σ : L2.St} {env : Env}, EnvRep (G.hd (some (i, a, c))) W' σ env → EnvRep G W' (σ.set i none) (env.set i none) := fun e => by
    have z := EnvRep.gone e
    rw [Gd.hd_none hn] at z
    exact z
  cases m with
  | nx env S => exact fun W' σ H l s e => h W' (σ.set i none) H l (back s) (backE e)
  | bk env S => exact fun W' σ H l s e => h W' (σ.set i none) H l (back s) (backE e)
  | ct env S => exact fun W' σ H l s e => h W' (σ.set i none) H l (back s) (backE e)
  | rt v S =>
    intro W' x H l s r
    have z := RepV.hd (G := G.hd (some (i, a, c))) (h := none) r
    rw [show (G.hd (some (i, a, c))).hd none = G.hd none from rfl, Gd.hd_none hn] at z
    exact h W' x H l (back s) z
  | ex x env S => exact (show False from h).elim
  | bad => exact (show False from h).elim
/-- what is left of a try's meaning behind its body -/
theorem try_body {X : Cx} {W : Wd} {S : Store} {env : Env} {b : ISs} {d : Nat} {nm : Option Nat} {su : ISs} {D : Ends} {W2 : WX} (q : PostS G Wx W (dS G.tab call (.try_ b [d] nm su) env S) D)
    (hc : ∀ (x : Exn) (env1 : Env) (S1 : Store), PostS G Wx W (match (generalizing := false) excIn G.tab x.c [d] with
      | some true => if x.fs.isEmpty then (match (generalizing := false) nm with
        | some i => (dSs G.tab call su (env1.set i (some (.t (.exn x.c [])))) S1).gone i
        | none => (dSs G.tab call su env1 S1).noex) else .bad
      | some false => .ex x env1 S1
      | none => .bad) D → PostS G W2 W (.ex x env1 S1) D) : PostS G W2 W (dSs G.tab call b env S) D := by
  have q : PostS G Wx W (match (generalizing := false) dSs G.tab call b env S with
    | .ex x env1 S1 => (match (generalizing := false) excIn G.tab x.c [d] with
      | some true => if x.fs.isEmpty then (match (generalizing := false) nm with
        | some i => (dSs G.tab call su (env1.set i (some (.t (.exn x.c [])))) S1).gone i
        | none => (dSs G.tab call su env1 S1).noex) else .bad
      | some false => .ex x env1 S1
      | none => .bad)
    | m => m) D := q
  cases z : dSs G.tab call b env S with
  | ex x env1 S1 =>
    rw [z] at q
    exact hc x env1 S1 q
  | nx env1 S1 => rw [z] at q; exact q
  | rt v S1 => rw [z] at q; exact q
  | bk env1 S1 => rw [z] at q; exact q
  | ct env1 S1 => rw [z] at q; exact q
  | bad => rw [z] at q; exact q
theorem excIn_1 {tab : Tab} {c d : Nat} {l : List Nat} (hd : tab.exc d = some l) : excIn tab c [d] = (tab.exc c).map fun l => l.contains d := by
  show (match tab.exc c with
    | some l => if (tab.exc d).isSome then (some false).map fun b => l.contains d || b else none
    | none => none) = _
  rw [hd]
  cases tab.exc c with
  | none => rfl
  | some l => show some (l.contains d || false) = some (l.contains d); rw [Bool.or_false]
mutual
theorem sS {G : Gd} {C : Ck} {X : Cx} {Wx : WX} (ok : XOk G C X Wx k call) : ∀ (is : IS) (st : Stmt), chkS C is st = true → PS X st (tS G Wx call is)
  | .pass, st, h => by
    cases st with
    | Pass p => exact PS.imp ps_pass fun D σ H ⟨W, env, S, sm, er, q⟩ => q W σ H (.refl W) sm er
    | _ => cases h
  | .expr e, st, h => by
    cases st with
    | Expr x p =>
      exact PS.imp (ps_expr (sE ok e x (ba h).1) (lc_no (nb (ba h).2))) fun D σ H ⟨W, env, S, sm, er, q⟩ =>
        Den.stepS q sm er fun v S1 W1 b H1 e1 l1 s1 n1 r1 p1 => p1 W1 σ H1 (.refl W1) s1 n1
    | _ => cases h
  | .set i e, st, h => by
    cases st with
    | Assign ts v p =>
      cases ts with
      | nil => cases h
      | cons t ts =>
        cases ts with
        | cons _ _ => cases t <;> cases h
        | nil =>
          cases t with
          | Name x px =>
            obtain ⟨h1, h⟩ := ba h
            obtain ⟨h2, h⟩ := ba h
            obtain ⟨h3, h4⟩ := ba h
            have h1 : X.N[i]? = some x := by rw [ok.N]; exact of_decide_eq_true h1
            obtain ⟨c1, c2⟩ := ok.can i x h1 h2
            have fin : ∀ D σ H, tS G Wx call (.set i e) D σ H → tAsg (tE G Wx call e) (gName i) D σ H := fun D σ H ⟨W, env, S, sm, er, q⟩ =>
              Den.stepS q sm er fun v S1 W1 b H1 e1 l1 s1 n1 r1 p1 => p1 W1 _ H1 (.refl W1) s1 (n1.set r1 i)
            cases hl : isLc v with
            | false => exact PS.imp (ps_set (i := i) ok.nd h1 c1 (sE ok e v h3) (lc_no hl) c2) fin
            | true =>
              rw [hl] at h4
              have hk : X.env.scope.kind = .function := by rw [ok.sc]; exact of_decide_eq_true h4
              exact PS.imp (set_lc ok h1 c1 c2 hk h3) fin
          | _ => cases h
    | _ => cases h
  | .setT is e, st, h => by
    cases st with
    | Assign ts v p =>
      cases ts with
      | nil => cases h
      | cons t ts =>
        cases ts with
        | cons _ _ => cases h
        | nil =>
          obtain ⟨h1, h⟩ := ba h
          obtain ⟨h2, h⟩ := ba h
          obtain ⟨h3, h4⟩ := ba h
          obtain ⟨es, kk, pt, rfl⟩ := chkT_tup h1
          have h4 := nb h4
          have sw : swappedStores [.Tuple es kk pt] v X.env = pure none := by
            cases v <;> first | rfl | cases h4
          refine PS.imp (ps_asg (sE ok e v h2) (sTg ok h1) (show swapsWithSole [.Tuple es kk pt] v p.line X.env = pure false from lc_no (v := v) (t := some (.Tuple es kk pt)) (l := p.line) (env := X.env) (nb h3)) sw rfl) fun D σ H ⟨W, env, S, sm, er, q⟩ =>
            Den.stepS q sm er fun v S1 W1 b H1 e1 l1 s1 n1 r1 p1 => ?_
          have p1 : PostS G Wx W1 (match target true is v env S1 with
            | some env2 => .nx env2 S1
            | none => .bad) D := p1
          cases z : target true is v env S1 with
          | none => rw [z] at p1; exact (show False from p1).elim
          | some env2 =>
            rw [z] at p1
            exact ⟨W1, S1, env, env2, v, s1, n1, r1, z, fun σ2 e2 _ => p1 W1 σ2 H1 (.refl W1) s1 e2⟩
    | _ => cases h
  | .setF o f e, st, h => by
    cases st with
    | Assign ts v p =>
      cases ts with
      | nil => cases h
      | cons t ts =>
        cases ts with
        | cons _ _ => cases t <;> cases h
        | nil =>
          cases t with
          | Attribute x n px =>
            obtain ⟨h1, h⟩ := ba h
            obtain ⟨h2, h3⟩ := ba h
            have e1 := of_decide_eq_true h2
            rw [ok.nm] at e1
            subst e1
            refine PS.imp (ps_fld (sE ok o x h1) (sE ok e v h3) sw_attr) fun D σ H ⟨W, env, S, sm, er, q⟩ =>
              Den.stepS q sm er fun w S1 W1 y H1 e1 l1 s1 n1 r1 p1 => Den.stepS p1 s1 n1 fun a S2 W2 z H2 e2 l2 s2 n2 r2 p2 => ?_
            have p2 : PostS G Wx W2 (match setFV G.tab a f w S2 with
              | some S1 => .nx env S1
              | none => .bad) D := p2
            cases hq : setFV G.tab a f w S2 with
            | none => rw [hq] at p2; exact (show False from p2).elim
            | some S3 =>
              rw [hq] at p2
              obtain ⟨ad, Cc, dx, gs, z1, z2, z3, z4, z5, z6, _⟩ := setF_any ok hq s2 r2 (r1.mono l2)
              exact ⟨ad, _, dx, gs, z1, z2, z3, z4, z5, p2 W2 σ _ (.refl W2) z6 n2⟩
          | _ => cases h
    | _ => cases h
  | .setS o i e, st, h => by
    cases st with
    | Assign ts v p =>
      cases ts with
      | nil => cases h
      | cons t ts =>
        cases ts with
        | cons _ _ => cases t <;> cases h
        | nil =>
          cases t with
          | Subscript x y px =>
            obtain ⟨h1, h⟩ := ba h
            obtain ⟨h2, h⟩ := ba h
            obtain ⟨h4, h3⟩ := ba h
            have asg : ∀ v, assign (.Subscript x y px) X.env v = (do
              let ov ← holding [v] (eval x X.env)
              let iv ← holding [v, ov] (eval y X.env)
              standAt px
              holding [v, ov, iv] (setItem ov iv v)
              release [v, ov, iv] []) := fun v => by
              have h4 := nb h4
              cases y <;> first | rfl | cases h4
            refine PS.imp (ps_asg (sE ok e v h3) (pg_sub (sE ok o x h1) (sE ok i y h2) (set_both (by have := ok.hu; omega)) asg) (show swapsWithSole [.Subscript x y px] v p.line X.env = pure false from sw_sub (v := v) (o := x) (i := y) (p := px) (l := p.line) (env := X.env)) (by cases v <;> rfl) rfl) fun D σ H ⟨W, env, S, sm, er, q⟩ =>
              Den.stepS q sm er fun w S1 W1 y H1 e1 l1 s1 n1 r1 p1 => Den.stepS p1 s1 n1 fun a S2 W2 z H2 e2 l2 s2 n2 r2 p2 => Den.stepS p2 s2 n2 fun b S3 W3 z3 H3 e3 l3 s3 n3 r3 p3 => ?_
            have p3 : PostS G Wx W3 (match setSV a b w S3 with
              | some S1 => .nx env S1
              | none => .bad) D := p3
            cases hq : setSV a b w S3 with
            | none => rw [hq] at p3; exact (show False from p3).elim
            | some S4 =>
              rw [hq] at p3
              exact setS_any hq s3 (r2.mono l3) r3 (r1.mono (l2.trans l3)) _ fun H2 z6 => p3 W3 σ H2 (.refl W3) z6 n3
          | _ => cases h
    | _ => cases h
  | .setL o lo hi e, st, h => by
    obtain ⟨x, l, hh, v, h0, h1, h2, h3, h4, h5⟩ := iv_setL h
    obtain ⟨p1, p2, p3, rfl⟩ := slP_ok h0
    refine PS.imp (ps_asg (sE ok e v h4) (pg_slc (sE ok o x h1) (sE ok lo l h2) (sE ok hi hh h3)) (show swapsWithSole [.Subscript x (.Slice (some l) (some hh) none p1) p2] v p3.line X.env = pure false from sw_sub (v := v) (o := x) (i := .Slice (some l) (some hh) none p1) (p := p2) (l := p3.line) (env := X.env)) (by cases v <;> rfl) rfl) fun D σ H ⟨W, env, S, sm, er, q⟩ =>
      Den.stepS q sm er fun w S1 W1 y H1 e1 l1 s1 n1 r1 p1 => Den.stepS p1 s1 n1 fun a S2 W2 z H2 e2 l2 s2 n2 r2 p2 => Den.stepS p2 s2 n2 fun b S3 W3 z3 H3 e3 l3 s3 n3 r3 p3 => Den.stepS p3 s3 n3 fun c S4 W4 z4 H4 e4 l4 s4 n4 r4 p4 => ?_
    have p4 : PostS G Wx W4 (match setLV a b c w S4 with
      | some S1 => .nx env S1
      | none => .bad) D := p4
    cases hq : setLV a b c w S4 with
    | none => rw [hq] at p4; exact (show False from p4).elim
    | some S5 =>
      rw [hq] at p4
      unfold setLV at hq
      split at hq
      · rename_i n i j ys
        split at hq
        · rename_i xs hn
          split at hq
          · rename_i c4
            obtain ⟨c0, c1, c2, c3⟩ := c4
            cases hq
            have r1' := r1.mono (l2.trans (l3.trans l4))
            have r2' := r2.mono (l3.trans l4)
            have r3' := r3.mono l4
            cases r3'
            cases r4
            cases r1' with
            | lst hF rl =>
              rename_i vb vs
              obtain ⟨hn2, ex⟩ := r2'
              subst ex
              obtain ⟨f1, f2, o, ho, ok2⟩ := s4.live n _ hn (by intro z; cases z)
              cases ok2 with
              | lst hp =>
                rename_i zs
                have hB := s4.fz _ _ hF
                refine ⟨_, _, _, _, i, j, rfl, rfl, rfl, rfl, ho, hB, fun z => ?_, c0, c1, by rw [hp.length]; exact c2, by rw [hp.length, rl.length]; exact c3, ?_⟩
                · rw [← z, f1] at hF
                  cases hF
                · refine p4 W4 σ _ (.refl W4) (s4.setC hn (by intro z; cases z) (.lst ?_)) n4
                  have pa : Paired (RepV G W4) vs (ys.map Val.t) := vals_repL (vs := vs) rl
                  exact Paired.app' (Paired.drop' j.toNat hp) (Paired.app' pa (Paired.take' i.toNat hp))
          · cases hq
        · cases hq
      · cases hq
  | .aug i op e, st, h => by
    cases st with
    | AugAssign t o v p =>
      cases t with
      | Name x px =>
        obtain ⟨h1, h⟩ := ba h
        obtain ⟨h2, h⟩ := ba h
        obtain ⟨h3, h⟩ := ba h
        obtain ⟨h4, h5⟩ := ba h
        obtain ⟨h5, hns⟩ := ba h5
        have hns := of_decide_eq_true hns
        have e1 : op = o := of_decide_eq_true h4
        subst e1
        have h1 : X.N[i]? = some x := by rw [ok.N]; exact of_decide_eq_true h1
        obtain ⟨c1, c2⟩ := ok.can i x h1 h2
        refine PS.imp (ps_aug (i := i) ok.nd h1 c1 (sE ok e v h3) (ip_any op) c2) fun D σ H ⟨W, env, S, sm, er, q⟩ => ?_
        have q : PostS G Wx W (match env[i]? with
          | some (some x) => (dE G.tab call e env S).st env fun y S => (binA op x y S).st env fun z S => .nx (env.set i (some z)) S
          | _ => .bad) D := q
        cases z : env[i]? with
        | none => rw [z] at q; exact (show False from q).elim
        | some z1 =>
          cases z1 with
          | none => rw [z] at q; exact (show False from q).elim
          | some a =>
            rw [z] at q
            obtain ⟨x, h6, h7⟩ := er.2 i a z
            have h7 : RepV G W x a := by
              rcases h7 with h7 | ⟨a2, c, hg, _⟩
              · exact h7
              · have y := ok.hs
                rw [hg] at y
                exact absurd y.symm hns
            refine ⟨x, h6, Den.stepS q sm er fun b S1 W1 y H1 e1 l1 s1 n1 r1 p1 => ?_⟩
            refine aug_any (op := op) (a := a) (b := b) (W := W1) (Wx := Wx) (σ := σ) (S := S1) h5 ?_ s1 (h7.mono l1) r1
            cases zz : binA op a b S1 with
            | ok c S2 =>
              rw [zz] at p1
              exact fun W2 c2 H2 l2 s2 r2 => p1 W2 _ H2 l2 s2 ((n1.mono l2).set r2 i)
            | ex x S2 =>
              rw [zz] at p1
              exact fun W2 cls od H2 l2 s2 r2 => p1 W2 σ cls od H2 l2 s2 (n1.mono l2) r2
            | bad =>
              rw [zz] at p1
              exact (show False from p1).elim
      | _ => cases h
    | _ => cases h
  | .augF o f op e, st, h => by
    cases st with
    | AugAssign t o2 v p =>
      cases t with
      | Attribute x n px =>
        obtain ⟨h1, h⟩ := ba h
        obtain ⟨h2, h⟩ := ba h
        obtain ⟨h3, h⟩ := ba h
        obtain ⟨h4, h5⟩ := ba h
        have e1 := of_decide_eq_true h2
        rw [ok.nm] at e1
        have e2 : op = o2 := of_decide_eq_true h3
        subst e1 e2
        refine PS.imp (ps_fldaug (rd := fun x y H Q => ∃ r : TIp, PIp X op r ∧ r x y H Q) (sE ok o x h1) (sE ok e v h5) (fun pins s σ H x y u v Q I rx ry h => ip_any op pins s σ H x y u v Q I rx ry h)) fun D σ H ⟨W, env, S, sm, er, q⟩ =>
          Den.stepS q sm er fun a S1 W1 y H1 e1 l1 s1 n1 r1 p1 => ?_
        have p1 : PostS G Wx W1 ((fldV G.tab a f S1).st env fun z S => (dE G.tab call e env S).st env fun y S3 => (binA op z y S3).st env fun v S3 => if insC a S == insC a S3 then (match setFV G.tab a f v S3 with
          | some S1 => .nx env S1
          | none => .bad) else .bad) D := p1
        rcases fldV_no (tab := G.tab) (f := f) (a := a) (S := S1) with ⟨w, ew⟩ | ew
        · rw [ew] at p1
          obtain ⟨ad, Cc, dx, gs, yv, z1, z2, z3, z4, z5, z6, z7⟩ := fld_any ok ew s1 r1
          refine ⟨ad, _, dx, gs, yv, z1, z2, z3, z4, z5, Den.stepS p1 s1 n1 fun b S2 W2 zv H2 e2 l2 s2 n2 r2 p2 => ?_⟩
          refine aug_any (op := op) (a := w) (b := b) (W := W2) (Wx := Wx) (σ := σ) (S := S2) h4 ?_ s2 (z6.mono l2) r2
          cases zz : binA op w b S2 with
          | ok c S3 =>
            rw [zz] at p2
            intro W3 cv H3 l3 s3 r3
            have p3 : PostS G Wx W2 (if insC a S1 == insC a S3 then (match setFV G.tab a f c S3 with
              | some S1 => .nx env S1
              | none => .bad) else .bad) D := p2
            cases hi : insC a S1 == insC a S3 with
            | false => rw [hi] at p3; exact (show False from p3).elim
            | true =>
            rw [hi] at p3
            have p3 : PostS G Wx W2 (match setFV G.tab a f c S3 with
              | some S1 => .nx env S1
              | none => .bad) D := p3
            cases hq : setFV G.tab a f c S3 with
            | none => rw [hq] at p3; exact (show False from p3).elim
            | some S4 =>
              rw [hq] at p3
              obtain ⟨ad2, Cc2, dx2, gs2, w1, w2, w3, w4, w5, w6, w7⟩ := setF_any ok hq s3 (r1.mono (l2.trans l3)) r3
              rw [z1] at w1
              cases w1
              have hC : Cc2 = Cc := by
                rw [z7, w7] at hi
                have := eq_of_beq hi
                cases this
                rfl
              subst hC
              exact ⟨dx2, gs2, w2, w5, p3 W3 σ _ l3 w6 (n2.mono l3)⟩
          | ex x S3 =>
            rw [zz] at p2
            exact fun W3 cls od H3 l3 s3 r3 => p2 W3 σ cls od H3 l3 s3 (n2.mono l3) r3
          | bad =>
            rw [zz] at p2
            exact (show False from p2).elim
        · rw [ew] at p1
          exact (show False from p1).elim
      | _ => cases h
    | _ => cases h
  | .ife t a b, st, h => by
    cases st with
    | If c x y p =>
      obtain ⟨h1, h⟩ := ba h
      obtain ⟨h2, h3⟩ := ba h
      refine PS.imp (ps_if (sC ok t c h1) (sSs ok a x h2) (sSs ok b y h3)) fun D σ H ⟨W, env, S, sm, er, q⟩ => Den.stepS q sm er fun v S1 W1 b1 H1 e1 l1 s1 n1 r1 p1 => ?_
      have r1 : b1 = v := r1
      subst r1
      cases b1 with
      | true => exact iteT ⟨W1, env, S1, s1, n1, p1⟩
      | false => exact iteF ⟨W1, env, S1, s1, n1, p1⟩
    | _ => cases h
  | .for_ kk src many tg body, st, h => by
    cases st with
    | For t it b oe p =>
      cases oe with
      | cons _ _ => cases h
      | nil =>
        obtain ⟨h1, h⟩ := ba h
        obtain ⟨h2, h⟩ := ba h
        obtain ⟨h3, h4⟩ := ba h
        exact for_src ok (ok.calm h4) h1 (sTg ok h2) (sSs ok body b h3)
    | _ => cases h
  | .while_ n t body, st, h => by
    cases st with
    | While c b oe p =>
      cases oe with
      | cons _ _ => cases h
      | nil =>
        refine PS.imp (ps_while ok.pas (sC ok t c (ba h).1) (sSs ok body b (ba h).2)) fun D σ H q => ?_
        exact ⟨fun m σ H => DenS G Wx (fun env S => whileL (fun env S => dB G.tab call t env S) (fun env S => dSs G.tab call body env S) m env S) D σ H, ⟨n, q⟩, fun m σ H h => while_den m h⟩
    | _ => cases h
  | .ret e, st, h => by
    cases st with
    | Return v p =>
      cases v with
      | none => cases h
      | some x =>
        exact PS.imp (ps_ret (sE ok e x h)) fun D σ H ⟨W, env, S, sm, er, q⟩ => Den.stepS q sm er fun v S1 W1 b H1 e1 l1 s1 n1 r1 p1 => p1 W1 b H1 (.refl W1) s1 r1
    | _ => cases h
  | .retN, st, h => by
    cases st with
    | Return v p =>
      cases v with
      | some _ => cases h
      | none => exact PS.imp ps_retN fun D σ H ⟨W, env, S, sm, er, q⟩ => q W .non H (.refl W) sm .non
    | _ => cases h
  | .raise c es, st, h => by
    obtain ⟨x, p, m, j, p2, q, p3, rfl, h1, h2, h3, h4⟩ := iv_raise h
    rw [ok.nm] at h3
    subst h3
    refine ⟨fun pins s σ H D I ⟨W, env, S, sm, er, q⟩ => ?_⟩
    have q : PostS G Wx W (if ((G.tab.exc c).isSome && G.tab.exr c) = true then .ex ⟨c, []⟩ env S else .bad) D := q
    cases hc : G.tab.exc c with
    | none => rw [hc] at q; exact (show False from q).elim
    | some l =>
      rw [hc] at q
      cases hr : G.tab.exr c with
      | false => rw [hr] at q; exact (show False from q).elim
      | true =>
      rw [hr] at q
      have q : PostS G Wx W (.ex ⟨c, []⟩ env S) D := q
      have F := ok.exc c l hc
      refine (ps_raise (ok.calm h4) ok.tk (pmk_own (C := G.eA c) PySem.F.excBase_ValueError (by rw [ok.K]; exact (F.ex hr).1) (by rw [ok.mg]; exact F.mg) (by rw [ok.K]; exact (F.ex hr).2) (raises_own (by rw [ok.K]; exact F.sub) (by rw [ok.K]; exact F.ty)) (ok.kindOf h1) (okN_1 h2))).run pins s σ H D I ?_
      exact q W σ _ none H (.refl W) sm er ⟨rfl, .inl ⟨rfl, rfl⟩⟩
  | .try_ b cs nm su, st, h => by
    obtain ⟨bd, y, n, s0, ss, d, h0, rfl, h1, h2, h3, h4, h5, h6, h7, h8⟩ := iv_try h
    obtain ⟨np, p1, p2, rfl⟩ := tryP_ok h0
    obtain ⟨hst, hfr⟩ := ok.stk h1
    rw [ok.nm] at h6
    subst h6
    rw [ok.tab] at h7
    obtain ⟨ld, hld⟩ := Option.isSome_iff_exists.mp h7
    have hG : G.hs = none := by
      have z := ok.hs
      rw [h2] at z
      exact Option.map_eq_none_iff.mp z
    have hN : Names X (G.nm.exN d) (.ref (G.eA d)) := ⟨ok.kindOf h4, okN_1 h5, .inl (by rw [ok.mg]; exact (ok.exc d ld hld).mg)⟩
    have one : ∀ {x : Exn} {H' : Hp} {cls : Value} {od : Option Addr} {lx : List Nat}, G.tab.exc x.c = some lx → ExRep G H' cls od x → PySem.W.exmOne X.K cls (.ref (G.eA d)) = some (lx.contains d) := fun {x H' cls od lx} e r => by
      rw [r.c, ok.K]
      exact ((ok.exc x.c lx e).kO lx e d ld hld).2
    rcases h8 with ⟨rfl, rfl, h8⟩ | ⟨i, z, rfl, rfl, h9, h10, h8⟩
    · refine PS.imp (ps_try_only (ts := fun _ _ _ => tSs G (fun _ _ _ _ => False) call su) (tb := fun W => tSs G W call b) hst hfr hN ok.tk (fun W' pn xe tk pas => sSs (ok.tr h2 tk pas) b bd h3)
        (fun a oe cls od pn _ _ => sSs (ok.suO h2 a ((a, oe) :: pn)) su (s0 :: ss) h8)) fun D σ H ⟨W, env, S, sm, er, q⟩ => ⟨W, env, S, sm, er, try_body (X := X) q fun x env1 S1 q2 => ?_⟩
      rw [excIn_1 hld] at q2
      cases e : G.tab.exc x.c with
      | none => rw [e] at q2; exact (show False from q2).elim
      | some lx =>
        rw [e] at q2
        intro W' σ' cls od H' l s' e' r'
        refine ⟨lx.contains d, one e r', fun hb a ha => ?_, fun hb => ?_⟩
        · have q2 : PostS G Wx W (match some (lx.contains d) with
            | some true => if x.fs.isEmpty then (dSs G.tab call su env1 S1).noex else .bad
            | some false => .ex x env1 S1
            | none => .bad) D := q2
          rw [hb] at q2
          have q2 : PostS G Wx W (if x.fs.isEmpty then (dSs G.tab call su env1 S1).noex else .bad) D := q2
          cases he : x.fs.isEmpty with
          | false => rw [he] at q2; exact (show False from q2).elim
          | true =>
            rw [he] at q2
            exact ⟨W', env1, S1, s', e', PostS.mono (post_noex q2) l⟩
        · have q2 : PostS G Wx W (match some (lx.contains d) with
            | some true => if x.fs.isEmpty then (dSs G.tab call su env1 S1).noex else .bad
            | some false => .ex x env1 S1
            | none => .bad) D := q2
          rw [hb] at q2
          exact q2 W' σ' cls od H' l s' e' r'
    · have hi : X.N[i]? = some z := by rw [ok.N]; exact h9
      have hk : X.env.kindOf z = some .local := by
        show X.env.scope.names.lookup z = _
        rw [ok.sc]
        exact h10
      refine PS.imp (ps_try_as (ts := fun a cls od D σ H => ∃ c l, cls = .ref (G.eA c) ∧ od = none ∧ G.tab.exc c = some l ∧ tSs (G.hd (some (i, a, c))) (fun _ _ _ _ => False) call su D σ H) (tb := fun W => tSs G W call b) hst hfr ok.nd hi hk hN ok.tk (fun W' pn xe tk pas => sSs (ok.tr h2 tk pas) b bd h3)
        (fun a oe cls od pn hz hf => ⟨fun pins s σ H D I ⟨c, l, e1, e2, hl, q⟩ => by
          subst e1 e2
          exact (sSs (ok.suA i a c oe pn hz hf hl) su (s0 :: ss) h8).run pins s σ H D I q⟩)) fun D σ H ⟨W, env, S, sm, er, q⟩ => ⟨W, env, S, sm, er, try_body (X := X) q fun x env1 S1 q2 => ?_⟩
      rw [excIn_1 hld] at q2
      cases e : G.tab.exc x.c with
      | none => rw [e] at q2; exact (show False from q2).elim
      | some lx =>
        rw [e] at q2
        intro W' σ' cls od H' l s' e' r'
        refine ⟨lx.contains d, one e r', fun hb a ha => ?_, fun hb => ?_⟩
        · have q2 : PostS G Wx W (match some (lx.contains d) with
            | some true => if x.fs.isEmpty then (dSs G.tab call su (env1.set i (some (.t (.exn x.c [])))) S1).gone i else .bad
            | some false => .ex x env1 S1
            | none => .bad) D := q2
          rw [hb] at q2
          have q2 : PostS G Wx W (if x.fs.isEmpty then (dSs G.tab call su (env1.set i (some (.t (.exn x.c [])))) S1).gone i else .bad) D := q2
          cases he : x.fs.isEmpty with
          | false => rw [he] at q2; exact (show False from q2).elim
          | true =>
            rw [he] at q2
            have hod : od = none := by
              rcases r'.f with ⟨_, z⟩ | ⟨z, _⟩
              · exact z
              · exact absurd (List.isEmpty_iff.mp he) z
            exact ⟨x.c, lx, r'.c, hod, e, W', _, S1, s'.hd, e'.held hG i a x.c, PostS.mono (post_gone hG q2) l⟩
        · have q2 : PostS G Wx W (match some (lx.contains d) with
            | some true => if x.fs.isEmpty then (dSs G.tab call su (env1.set i (some (.t (.exn x.c [])))) S1).gone i else .bad
            | some false => .ex x env1 S1
            | none => .bad) D := q2
          rw [hb] at q2
          exact q2 W' σ' cls od H' l s' e' r'
  | .cont, st, h => by
    cases st with
    | Continue p => exact PS.imp ps_continue fun D σ H ⟨W, env, S, sm, er, q⟩ => q W σ H (.refl W) sm er
    | _ => cases h
  | .brk, st, h => by
    cases st with
    | Break p => exact PS.imp ps_break fun D σ H ⟨W, env, S, sm, er, q⟩ => q W σ H (.refl W) sm er
    | _ => cases h
theorem sSs {G : Gd} {C : Ck} {X : Cx} {Wx : WX} (ok : XOk G C X Wx k call) : ∀ (is : ISs) (sts : List Stmt), chkSs C is sts = true → PSs X sts (tSs G Wx call is)
  | .nil, [], _ => PSs.imp pss_nil fun D σ H ⟨W, env, S, sm, er, q⟩ => q W σ H (.refl W) sm er
  | .cons s ss, x :: xs, h => PSs.imp (pss_cons (sS ok s x (ba h).1) (sSs ok ss xs (ba h).2)) fun D σ H ⟨W, env, S, sm, er, q⟩ => ⟨W, env, S, sm, er, seq_st q⟩
  | .nil, _ :: _, h => by cases h
  | .cons _ _, [], h => by cases h
end
end
end Rw

namespace Rw
open PySem PySem.Spec PyProof.Rows L2
/-! ### a def -/
theorem toT_r (S : Store) (n : Nat) : toT S (.r n) = (match S[n]? with
    | some (.lst vs) => (allT vs).map fun xs => (.lst xs, S.set n .dead)
    | some (.ins c fs) => (allF fs).map fun xs => (.ins c xs, S.set n .dead)
    | _ => none) := rfl
theorem locB_ok {sc : Scope} {x : Str} (h : locB sc x = true) : L2.Loc sc x := by
  unfold locB at h
  unfold L2.Loc
  cases q : sc.names.lookup x with
  | none => rw [q] at h; cases h
  | some k =>
    rw [q] at h
    cases k with
    | «local» => exact .inl rfl
    | cell => exact .inr rfl
    | _ => cases h
def ckOf (hot : Bool) (N : List Str) (sc : Scope) (nm : Nm) (tab : Tab) (glF : Nat → Bool) : Ck := ⟨N, sc, nm, tab, glF, !hot, locB sc, true, if hot then some 0 else none⟩
/-- what is known of the ground -/
structure GOk (G : Gd) (glF : Nat → Bool) : Prop where
  free : ∀ x : Str, x ∈ ["len", "int", "str", "min", "max", "abs", "list", "tuple", "all", "any", "sum", "divmod", "sorted", "bool", "isinstance", "range", "enumerate", "zip", "dict", "set", "ValueError"].map Str.ofString → G.mg x = none
  gl : ∀ f, glF f = true → G.mg (G.nm.fnN f) = some (.ref (G.fA f)) ∧ PySem.W.keepIn G.K (.ref (G.fA f)) = true
  cls : ∀ (c : Nat) (cl : Cl), G.tab.cl c = some cl → ClsFact G c cl
  okf : ∀ f g, f < G.nAt → g < G.nAt → G.nm.atN f = G.nm.atN g → f = g
  con : ∀ g t, G.tab.con g = some t → ∃ v u, G.mg (G.nm.coN g) = some u ∧ RelV v u ∧ (∀ F, Rep G F v t) ∧ ∀ ts, t = .tup ts → ∃ p o, v = .ref p ∧ G.K.lookup p = some o ∧ o.cls = .type "tuple" ∧ o.dict = none
  exc : ∀ c l, G.tab.exc c = some l → ExcFact G c
theorem env_start {G : Gd} {W : Wd} {N : List Str} {vs : List V} {ds : List Val} {np ns : Nat} (r : Paired (RepV G W) vs ds) (hl : ds.length = np) (hn : N.length = ns) : EnvRep G W (L2.start N vs) (ds.map some ++ List.replicate (ns - np) none) := by
  have l2 := Paired.length r
  refine ⟨?_, fun i v e => ?_⟩
  · unfold L2.start
    rw [List.length_append, List.length_map, List.length_replicate, List.length_append, List.length_map, List.length_replicate, l2, hn, hl]
  · have hi : i < ds.length := by
      by_cases hi : i < ds.length
      · exact hi
      · rw [List.getElem?_append_right (by simpa using hi), List.getElem?_replicate] at e
        split at e <;> cases e
    rw [List.getElem?_append_left (by simpa using hi), List.getElem?_map] at e
    cases q : ds[i]? with
    | none => rw [q] at e; cases e
    | some d =>
      rw [q] at e
      cases e
      obtain ⟨x, h1, h2⟩ := Paired.get r q
      refine ⟨x, ?_, .inl h2⟩
      unfold L2.start
      rw [List.getElem?_append_left (by rw [List.length_map, l2]; exact hi), List.getElem?_map, h1]
      rfl
section
variable {G : Gd} {W W1 : Wd} {S S1 : Store} {H H1 : Hp}
/-- the world within a pure def -/
def Wd.inner (W : Wd) (H : Hp) : Wd := ⟨W.F, H, 0, fun _ => 0⟩
theorem Sim.inner (s : Sim G W S H) : Sim G (W.inner H) [] H where
  fz := s.fz
  len := rfl
  live := fun k c e => by simp at e
  inj := fun j k c d e => by simp at e
  fr := Same.refl _
/-- the world behind it -/
def Wd.outer (W : Wd) (F : Hp) : Wd := { W with F := F }
theorem outer_le (s : Sim G W S H) (l : (W.inner H).le W1) {F : Hp} (hF : Same W1.F F) (hn : ∀ a o, F a = some o → W1.F a = some o ∨ H a = none) : W.le (W.outer F) where
  f := fun a o e => hF a o (l.f a o e)
  new := fun a o e => by
    rcases hn a o e with h | h
    · rcases l.new a o h with h | h
      · exact .inl h
      · exact .inr (s.fr.free h)
    · exact .inr (s.fr.free h)
  b := rfl
  n := Nat.le_refl _
  at_ := fun _ _ => rfl
theorem outer_sim (s : Sim G W S H) (l : (W.inner H).le W1) (s1 : Sim G W1 S1 H1) {F : Hp} (hF : Same W1.F F) (hn : ∀ a o, F a = some o → W1.F a = some o ∨ H a = none) (hH : Same F H1) : Sim G (W.outer F) S H1 where
  fz := hH
  len := s.len
  live := fun k c e d => by
    obtain ⟨h1, h2, o, h3, h4⟩ := s.live k c e d
    refine ⟨?_, h2, o, s1.fr _ _ (by rw [l.b]; exact h3), h4.mono (outer_le s l hF hn)⟩
    show F (W.at_ k) = none
    cases q : F (W.at_ k) with
    | none => rfl
    | some u =>
      rcases hn _ _ q with z | z
      · rcases l.new _ _ z with z | z
        · have z : W.F (W.at_ k) = some u := z
          rw [h1] at z
          cases z
        · have z : H (W.at_ k) = none := z
          rw [h3] at z
          cases z
      · rw [h3] at z
        cases z
  inj := s.inj
  fr := fun a o e => s1.fr a o (by rw [l.b]; exact s.fr a o e)
end
section
variable {G : Gd} {W : Wd} {S : Store} {H : Hp} {Q : VK} {E : XK} {d : Fn} {call : Call} {vs : List V} {ds : List Val} {N : List Str}
theorem run_body0 {σ : L2.St} (h : Post G (RepV G) (fun c o _ H => E c o H) [] W (runFn G.tab call d ds S) Q) (s : Sim G W S H) (hl : ds.length = d.np) (er : EnvRep G W σ (ds.map some ++ List.replicate (d.ns - d.np) none))
    (er2 : ∀ xs, allT ds = some xs → EnvRep G (W.inner H) σ (ds.map some ++ List.replicate (d.ns - d.np) none)) :
    tSs G (fun c o _ H => E c o H) call d.body { nx := fun _ H' => Q .non H', rt := Q } σ H := by
  unfold runFn at h
  rw [if_pos hl] at h
  cases hp : d.pure with
  | false =>
    rw [hp] at h
    refine ⟨W, _, S, s, er, ?_⟩
    have h : Post G (RepV G) (fun c o _ H => E c o H) [] W (match dSs G.tab call d.body (ds.map some ++ List.replicate (d.ns - d.np) none) S with
      | .nx _ S1 => .ok (.t .non) S1
      | .rt v S1 => .ok v S1
      | .ex x _ S1 => .ex x S1
      | _ => .bad) Q := h
    cases q : dSs G.tab call d.body (ds.map some ++ List.replicate (d.ns - d.np) none) S with
    | nx env S1 =>
      rw [q] at h
      exact fun W' σ H' l s' _ => h W' .non H' l s' .non
    | rt v S1 =>
      rw [q] at h
      exact fun W' x H' l s' r' => h W' x H' l s' r'
    | ex x env S1 =>
      rw [q] at h
      exact fun W' σ cls od H' l s' _ e' => h W' cls od H' l s' e'
    | bk env S1 => rw [q] at h; exact h.elim
    | ct env S1 => rw [q] at h; exact h.elim
    | bad => rw [q] at h; exact h.elim
  | true =>
    rw [hp] at h
    cases ha : allT ds with
    | none => rw [ha] at h; exact (show False from h).elim
    | some xs =>
      rw [ha] at h
      have h : Post G (RepV G) (fun c o _ H => E c o H) [] W (match dSs G.tab call d.body (ds.map some ++ List.replicate (d.ns - d.np) none) [] with
        | .nx _ _ => .ok (.t .non) S
        | .rt v S1 => (match toT S1 v with
          | some (x, _) => .ok (.t x) S
          | none => .bad)
        | .ex x _ _ => .ex x S
        | _ => .bad) Q := h
      refine ⟨W.inner H, _, [], s.inner, er2 xs ha, ?_⟩
      cases q : dSs G.tab call d.body (ds.map some ++ List.replicate (d.ns - d.np) none) [] with
      | nx env S1 =>
        rw [q] at h
        exact fun W' σ H' l s' _ => h (W.outer W'.F) .non H' (outer_le s l (Same.refl _) fun a o e => .inl e) (outer_sim s l s' (Same.refl _) (fun a o e => .inl e) s'.fz) .non
      | rt v S1 =>
        rw [q] at h
        have h : Post G (RepV G) (fun c o _ H => E c o H) [] W (match toT S1 v with
          | some (x, _) => .ok (.t x) S
          | none => .bad) Q := h
        intro W' x H' l s' r'
        cases v with
        | t t => exact h (W.outer W'.F) x H' (outer_le s l (Same.refl _) fun a o e => .inl e) (outer_sim s l s' (Same.refl _) (fun a o e => .inl e) s'.fz) r'
        | r n =>
          obtain ⟨hn2, ex⟩ := r'
          subst ex
          cases q2 : toT S1 (.r n) with
          | none => rw [q2] at h; exact h.elim
          | some p =>
            obtain ⟨t, S2⟩ := p
            rw [q2] at h
            obtain ⟨o, ho, l2, s2, rt, hb⟩ := toT_bury s' q2
            have hB : H (W'.at_ n) = none := by
              have z : W'.B (W'.at_ n) = none := hb
              rw [l.b] at z
              exact z
            have hn3 : ∀ a u, upd W'.F (W'.at_ n) o a = some u → W'.F a = some u ∨ H a = none := fun a u e => by
              by_cases z : a = W'.at_ n
              · exact .inr (by rw [z]; exact hB)
              · rw [upd_ne z] at e
                exact .inl e
            exact h (W.outer (upd W'.F (W'.at_ n) o)) _ H' (outer_le s l l2.f hn3) (outer_sim s l s' l2.f hn3 s2.fz) rt
      | ex x env S1 =>
        rw [q] at h
        exact fun W' σ cls od H' l s' _ e' => h (W.outer W'.F) cls od H' (outer_le s l (Same.refl _) fun a o e => .inl e) (outer_sim s l s' (Same.refl _) (fun a o e => .inl e) s'.fz) e'
      | bk env S1 => rw [q] at h; exact h.elim
      | ct env S1 => rw [q] at h; exact h.elim
      | bad => rw [q] at h; exact h.elim
theorem run_body (h : Post G (RepV G) (fun c o _ H => E c o H) [] W (runFn G.tab call d ds S) Q) (s : Sim G W S H) (r : Paired (RepV G W) vs ds) (hl : ds.length = d.np) (hn : N.length = d.ns) :
    tSs G (fun c o _ H => E c o H) call d.body { nx := fun _ H' => Q .non H', rt := Q } (L2.start N vs) H :=
  run_body0 h s hl (env_start r hl hn) fun xs ha => by
    have r2 : Paired (RepV G (W.inner H)) vs ds := by
      have rl := allT_rep r ha
      have go : ∀ {vs : List V} {ds : List Val} {xs : List T}, Paired (RepV G W) vs ds → allT ds = some xs → Paired (RepV G (W.inner H)) vs ds := fun {vs ds xs} r => by
        induction r generalizing xs with
        | nil => exact fun _ => .nil
        | @cons a b l1 l2 ra _ ih =>
          intro e
          cases b with
          | r n => cases e
          | t x =>
            obtain ⟨ys, e2, _⟩ := Option.map_eq_some_iff.mp (show (allT l2).map (x :: ·) = some xs from e)
            exact .cons (show Rep G W.F a x from ra) (ih e2)
      exact go r ha
    exact env_start r2 hl hn
/-- the exception, in the callee's own slot -/
theorem env_hot {G : Gd} {W : Wd} {N : List Str} {a : Addr} {c ns : Nat} (hG : G.hs = some (0, a, c)) (hn : N.length = ns) : EnvRep G W (L2.start N [.ref a]) ([Val.t (.exn c [])].map some ++ List.replicate (ns - 1) none) := by
  refine ⟨?_, fun i v e => ?_⟩
  · unfold L2.start
    rw [List.length_append, List.length_map, List.length_replicate, List.length_append, List.length_map, List.length_replicate, hn]
    rfl
  · cases i with
    | succ i =>
      rw [List.getElem?_append_right (by simp)] at e
      rw [List.getElem?_replicate] at e
      split at e <;> cases e
    | zero =>
      cases e
      exact ⟨.ref a, rfl, .inr ⟨a, c, hG, rfl, rfl⟩⟩
end
/-- a def as it stands, with the small language's term for it -/
structure DefOk (G : Gd) (glF : Nat → Bool) (f : Nat) (d : Fn) : Prop where
  ex : ∃ (x qual : Str) (params : Arguments) (body : List Stmt) (scope : Scope) (dvs : List V) (fd : FuncData) (N ps : List Str), FunD G.K x qual params body scope dvs [] (G.fA f) fd ∧ FnScope N ps scope ∧
    ps.length = d.np ∧ N.length = d.ns ∧ chkSs (ckOf d.hot N scope G.nm G.tab glF) d.body body = true ∧
    ∀ m, m ≤ d.np → d.np - m ≤ d.dfl.length → ∃ (ds : List Value) (es : List V), Binds G.K fd ps ds ∧ Vals es ds ∧ ∀ W, Paired (RepV G W) es (dflV d m)
/-- what is known of the callees -/
structure Callees (G : Gd) (base : Heap) (k : Nat) (call : Call) : Prop where
  a : ∀ (f : Nat) (d : Fn), G.tab.fn f = some d → d.hot = false → ∃ run : List Val → Store → R Val, (∀ vs S, call f vs S = run (vs ++ dflV d vs.length) S) ∧ FnFact G base k f d run
  b : ∀ (f : Nat) (d : Fn), G.tab.fn f = some d → d.hot = true → ∃ run : List Val → Store → R Val, (∀ vs S, call f vs S = run (vs ++ dflV d vs.length) S) ∧ HotFact G base k f d run
theorem fn_ok_of {G : Gd} (hG : G.hs = none) {glF : Nat → Bool} {base : Heap} {k : Nat} {call : Call} {d : Fn} {x qual : Str} {params : Arguments} {body : List Stmt} {scope : Scope} {dvs : List V} {fd : FuncData} {N ps : List Str} {f : Addr} (g : GOk G glF) (F : FunD G.K x qual params body scope dvs [] f fd) (Sc : FnScope N ps scope)
    (hps : ps.length = d.np) (hN : N.length = d.ns) (hc : chkSs (ckOf false N scope G.nm G.tab glF) d.body body = true) (fns : Callees G base k call) :
    FnOk G.prog G.w G.K G.mg base (L2.CX G.prog G.w) (k + 2) f fd ps (spR G d.np (runFn G.tab call d)) := by
  refine F.ok (CX := L2.CX G.prog G.w) (N := N) (k := k + 1) Sc (fun vs H Q E ⟨W, S, ds, s, r, hl, _⟩ => by rw [Paired.length r, hl, hps]) fun cdv A outer s H vs Q E hr ⟨W, S, ds, sm, r, hl, p⟩ => ?_
  refine ⟨tSs G (fun c o _ H => E c o H) call d.body, ?_, run_body p sm r hl hN⟩
  refine sSs (C := ckOf false N scope G.nm G.tab glF) (k := k) ?_ d.body body hc
  exact { prog := rfl, w := rfl, K := rfl, mg := rfl, N := rfl, nd := Sc.nd, sc := rfl, room := fun _ => hr, roomH := L2H.roomH_of hr, fnsH := fns.b, hu := hr.units, hs := by rw [hG]; rfl, cs := fun _ => rfl, hx := fun i a c e => by rw [hG] at e; cases e
          stk := fun _ => ⟨rfl, rfl⟩, calm := fun _ => rfl, tk := takes_of rfl rfl rfl rfl, pas := passes_of rfl, tab := rfl, nm := rfl, free := g.free, gl := g.gl, cls := g.cls, okf := g.okf, con := g.con, exc := g.exc, fns := fun _ => fns.a,
          can := fun i x hi hx => ⟨locB_ok hx, .inl rfl⟩ }
theorem fn_fact {G : Gd} (hG : G.hs = none) {glF : Nat → Bool} {base : Heap} {k : Nat} {call : Call} {f : Nat} {d : Fn} (g : GOk G glF) (hh : d.hot = false) (D : DefOk G glF f d) (fns : Callees G base k call) : FnFact G base (k + 2) f d (runFn G.tab call d) := by
  obtain ⟨x, qual, params, body, scope, dvs, fd, N, ps, F, Sc, hps, hN, hc, hb⟩ := D.ex
  rw [hh] at hc
  exact ⟨fd, ps, fn_ok_of hG g F Sc hps hN hc fns, hb⟩
theorem GOk.hd {G : Gd} {glF : Nat → Bool} (g : GOk G glF) (h : Option (Nat × Addr × Nat)) : GOk (G.hd h) glF where
  free := g.free
  gl := g.gl
  cls := fun c cl h => let D := g.cls c cl h; { cls := D.cls, ha := D.ha, hn := D.hn, htk := D.htk, hm := D.hm, isB := fun t ht => by have z := D.isB t ht; cases t <;> exact z, isC := D.isC, isD := D.isD, mg := D.mg, na := D.na, mt := D.mt, mkf := D.mkf }
  okf := g.okf
  con := fun g' t h => by
    obtain ⟨v, u, h1, h2, h3, h4⟩ := g.con g' t h
    exact ⟨v, u, h1, h2, fun F => (h3 F).hd, h4⟩
  exc := fun c l h => let D := g.exc c l h; { mg := D.mg, ex := D.ex, sub := D.sub, ty := D.ty, isE := D.isE, ve := D.ve, kO := D.kO }
theorem binds_np {G : Gd} {d : Fn} {fd : FuncData} {ps : List Str} (hb : ∀ m, m ≤ d.np → d.np - m ≤ d.dfl.length → ∃ (ds : List Value) (es : List V), Binds G.K fd ps ds ∧ Vals es ds ∧ ∀ W, Paired (RepV G W) es (dflV d m)) : Binds G.K fd ps [] := by
  obtain ⟨ds, es, z, v, w⟩ := hb d.np (Nat.le_refl _) (by omega)
  have w := w ⟨fun _ => none, fun _ => none, 0, fun _ => 0⟩
  have e : dflV d d.np = [] := by
    unfold dflV
    rw [Nat.sub_self, Nat.sub_zero, List.drop_length]
    rfl
  rw [e] at w
  cases w
  cases v
  exact z
/-- .. of a def that is called with the exception that is handled -/
theorem fn_hot {G : Gd} {glF : Nat → Bool} {base : Heap} {k : Nat} {call : Call} {f : Nat} {d : Fn} (g : GOk G glF) (hh : d.hot = true) (D : DefOk G glF f d) (fns : Callees G base k call) : HotFact G base (k + 2) f d (runFn G.tab call d) := by
  refine ⟨fun h1 => ?_⟩
  obtain ⟨x, qual, params, body, scope, dvs, fd, N, ps, F, Sc, hps, hN, hc, hb⟩ := D.ex
  rw [hh] at hc
  obtain ⟨q, rfl⟩ : ∃ q, ps = [q] := by
    rw [h1] at hps
    cases ps with
    | nil => cases hps
    | cons q ps =>
      cases ps with
      | nil => exact ⟨q, rfl⟩
      | cons _ _ => cases hps
  have hbd := binds_np hb
  refine ⟨fd, q, hbd, fun h A outer s H args W S a oe c l Q hr hpin e0 bt hz hf hl sm p => ?_⟩
  obtain ⟨oc, od, dV, kV, doc, pm, an, cdv, ct, osl, rfl, lk, hcd, _, _⟩ := F.ex
  have KX : G.K.In s.heap := e0.mod.kin.keeps fun b o e => (e0.bs b o e).1
  have lim : s.heap.NoLimit := e0.mod.nolimit.keeps fun b o e => (e0.bs b o e).1
  have hkind : ∀ y ∈ [(q, Value.ref a)], scope.names.lookup y.1 = some .local ∨ (scope.names.lookup y.1 = some .cell ∧ ((cellsFrom (s.heap.objs.size + 1) scope.names []).lookup y.1).isSome = true) := fun y hy => by
    rw [List.mem_singleton] at hy
    subst hy
    rcases Sc.par q List.mem_cons_self with z | z
    · exact .inl z
    · exact .inr ⟨z, PySem.W.cellsFrom_some _ _ _ (.inl z)⟩
  refine codeAny_call_function hr.depth (KX _ _ lk) rfl Sc.co Sc.gen rfl (PySem.W.codeRec_of KX hcd) (bt _ _ _ _ ?_)
  refine wpAny_newFunctionEnv_cells Sc.kind hkind fun env he s1 xc => ?_
  subst he
  refine ⟨lim.keeps xc.toInCall.keep, codeAny_func ?_⟩
  have hrD := hr.deeper (envOfC qual scope s.heap.objs.size ((G.fA f)) cdv)
  have ok : XOk (G.hd (some (0, a, c))) (ckOf true N scope G.nm G.tab glF) (L2H.cxH (L2.CX G.prog G.w) G.prog G.w G.K G.mg base N qual scope (G.fA f) cdv A outer s H (fun _ _ _ => False) (a, oe)) (fun _ _ _ _ => False) k call :=
    have g' := g.hd (some (0, a, c))
    { prog := rfl, w := rfl, K := rfl, mg := rfl, N := rfl, nd := Sc.nd, sc := rfl, room := fun z => absurd (show false = true from z) Bool.false_ne_true, roomH := hrD, hu := (by have z := hrD.un; show (A.deeper (envOfC qual scope s.heap.objs.size (G.fA f) cdv)).units + 64 < cLine; omega), hs := rfl, cs := fun z => absurd (show false = true from z) Bool.false_ne_true,
      hx := fun i a' c' e => by
        have e : some (0, a, c) = some (i, a', c') := e
        cases e
        exact ⟨oe, List.mem_cons_self, hz, hf, l, hl⟩
      stk := fun _ => ⟨rfl, rfl⟩, calm := fun z => absurd (show false = true from z) Bool.false_ne_true, tk := takes_of rfl rfl rfl rfl, pas := passes_of rfl, tab := rfl, nm := rfl, free := g'.free, gl := g'.gl, cls := g'.cls, okf := g'.okf, con := g'.con, exc := g'.exc,
      fns := fun z => absurd (show false = true from z) Bool.false_ne_true, fnsH := fun f d h1 h2 => let ⟨run, e, F⟩ := fns.b f d h1 h2; ⟨run, e, ⟨F.ex⟩⟩,
      can := fun i x hi hx => ⟨locB_ok hx, .inl rfl⟩ }
  have back : ∀ {W' : Wd} {S : Store} {H : Hp}, Sim (G.hd (some (0, a, c))) W' S H → Sim (G.hd h) W' S H := fun s => Sim.hd (G := G.hd (some (0, a, c))) (h := h) s
  have p2 : Post (G.hd (some (0, a, c))) (RepV (G.hd (some (0, a, c)))) (fun _ _ _ _ => False) [] W (runFn G.tab call d [.t (.exn c [])] S) Q := by
    cases hr2 : runFn G.tab call d [.t (.exn c [])] S with
    | ok v S1 =>
      rw [hr2] at p
      exact fun W' b H' l' s' r' => p W' b H' l' (back s') (RepV.hd (G := G.hd (some (0, a, c))) (h := h) r')
    | ex x S1 =>
      rw [hr2] at p
      exact fun W' cls od H' l' s' e' => p W' cls od H' l' (back s') ⟨e'.c, by
        rcases e'.f with z | ⟨z, dd, gs, z1, z2, z3⟩
        · exact .inl z
        · exact .inr ⟨z, dd, gs, z1, z2, RepF.hd (G := G.hd (some (0, a, c))) (h := h) _ _ z3⟩⟩
    | bad => rw [hr2] at p; exact p
  have ht := sSs ok d.body body hc
  have hq := run_body0 (G := G.hd (some (0, a, c))) (E := fun _ _ _ => False) (call := call) (d := d) (σ := L2.start N [.ref a]) p2 (Sim.hd (G := G.hd h) (h := some (0, a, c)) sm) h1.symm (by rw [h1]; exact env_hot rfl hN) (fun _ _ => by rw [h1]; exact env_hot rfl hN)
  have I : Inv (L2H.cxH (L2.CX G.prog G.w) G.prog G.w G.K G.mg base N qual scope (G.fA f) cdv A outer s H (fun _ _ _ => False) (a, oe)) [] (L2.start N [.ref a]) H s1 := L2H.inv_startH Sc hpin e0 rfl (.cons rfl .nil) xc
  refine wpAny_mono (ht.run [] s1 (L2.start N [.ref a]) H _ I hq) (fun fl s' hs => ?_) fun e s' hs => hs
  have fin : ∀ {σ' : L2.St} {H' : Hp} {v : V} {u : Value}, Inv (L2H.cxH (L2.CX G.prog G.w) G.prog G.w G.K G.mg base N qual scope (G.fA f) cdv A outer s H (fun _ _ _ => False) (a, oe)) [] σ' H' s' → RelV v u → Q v H' → CE outer G.prog G.w H s Q u s' :=
    fun {σ' H' v u} J rv q => ⟨v, H', J.os, J.bare, J.base, J.hok, rv, q⟩
  cases fl with
  | ret u =>
    obtain ⟨v, σ', H', J, rv, q⟩ := hs
    exact fin J rv q
  | next =>
    obtain ⟨σ', H', J, q⟩ := hs
    exact fin (v := V.non) (u := Value.none) J rfl q
  | brk =>
    obtain ⟨_, _, _, q⟩ := hs
    exact False.elim q
  | cont =>
    obtain ⟨_, _, _, q⟩ := hs
    exact False.elim q
/-- all defs, at any depth of calls -/
theorem all_facts {G : Gd} (hG : G.hs = none) {glF : Nat → Bool} {base : Heap} (g : GOk G glF) (hd : ∀ f d, G.tab.fn f = some d → DefOk G glF f d) : ∀ n, Callees G base (2 * n) (callF G.tab n)
  | 0 => ⟨fun f d hf _ => by
    refine ⟨fun _ _ => .bad, fun _ _ => rfl, ?_⟩
    obtain ⟨x, qual, params, body, scope, dvs, fd, N, ps, F, Sc, hps, hN, hc, hb⟩ := (hd f d hf).ex
    exact ⟨fd, ps, ⟨fun vs H Q E ⟨W, S, ds, s, r, hl, _⟩ => by rw [Paired.length r, hl, hps], fun A outer s H args us vs Q E _ _ _ _ ⟨W, S, ds, _, _, _, p⟩ => (show False from p).elim⟩, hb⟩, fun f d hf h => by
    refine ⟨fun _ _ => .bad, fun _ _ => rfl, ⟨fun h1 => ?_⟩⟩
    obtain ⟨x, qual, params, body, scope, dvs, fd, N, ps, F, Sc, hps, hN, hc, hb⟩ := (hd f d hf).ex
    obtain ⟨q, rfl⟩ : ∃ q, ps = [q] := by
      rw [h1] at hps
      cases ps with
      | nil => cases hps
      | cons q ps =>
        cases ps with
        | nil => exact ⟨q, rfl⟩
        | cons _ _ => cases hps
    exact ⟨fd, q, binds_np hb, fun h A outer s H args W S a oe c l Q _ _ _ _ _ _ _ _ p => (show False from p).elim⟩⟩
  | n + 1 => by
    have cl : ∀ (f : Nat) (d : Fn), G.tab.fn f = some d → ∀ vs S, callF G.tab (n + 1) f vs S = runFn G.tab (callF G.tab n) d (vs ++ dflV d vs.length) S := fun f d hf vs S => by
      show (match G.tab.fn f with
        | none => R.bad
        | some d => runFn G.tab (callF G.tab n) d (vs ++ (d.dfl.drop (d.dfl.length - (d.np - vs.length))).map Val.t) S) = _
      rw [hf]
      rfl
    exact ⟨fun f d hf h => ⟨_, cl f d hf, fn_fact hG g h (hd f d hf) (all_facts hG g hd n)⟩, fun f d hf h => ⟨_, cl f d hf, fn_hot g h (hd f d hf) (all_facts hG g hd n)⟩⟩
end Rw

namespace Rw
open PySem PySem.Spec PyProof.Rows L2
/-! ### how arguments bind -/
theorem seqItems_none : seqItems? Value.none = (pure none : Sem (Option (Array Value))) := rfl
theorem zip_lookup {β : Type} : ∀ {ps : List Str} {us : List β}, us.length = ps.length → ∀ n ∈ ps, ((ps.zip us).lookup n).isSome = true
  | [], _, _, n, h => by cases h
  | p :: ps, u :: us, hl, n, h => by
    rw [List.zip_cons_cons, List.lookup_cons]
    cases q : n == p with
    | true => rfl
    | false =>
      rcases List.mem_cons.mp h with e | h
      · rw [e, beq_self_eq_true] at q
        cases q
      · exact zip_lookup (by simpa using hl) n h
  | _ :: _, [], hl, _, _ => by cases hl
theorem fm_congr {α β : Type} {f g : α → Option β} : ∀ {l : List α}, (∀ x ∈ l, f x = g x) → l.filterMap f = l.filterMap g
  | [], _ => rfl
  | x :: l, h => by
    rw [List.filterMap_cons, List.filterMap_cons, h x List.mem_cons_self, fm_congr fun y hy => h y (List.mem_cons_of_mem _ hy)]
theorem zip_binds {β : Type} : ∀ {ps : List Str} {us : List β}, ps.Nodup → us.length = ps.length → (ps.filterMap fun n => ((ps.zip us).lookup n).map (n, ·)) = ps.zip us
  | [], [], _, _ => rfl
  | p :: ps, u :: us, hn, hl => by
    obtain ⟨h1, h2⟩ := List.nodup_cons.mp hn
    have ih := zip_binds (us := us) h2 (by simpa using hl)
    rw [List.zip_cons_cons, List.filterMap_cons, List.lookup_cons, beq_self_eq_true]
    show (p, u) :: _ = _
    refine congrArg ((p, u) :: ·) ?_
    refine Eq.trans (fm_congr fun n hm => ?_) ih
    rw [List.lookup_cons]
    have q : (n == p) = false := by
      rw [beq_eq_false_iff_ne]
      intro e
      rw [e] at hm
      exact h1 hm
    rw [q]
  | _ :: _, [], _, hl => by cases hl
  | [], _ :: _, _, hl => by cases hl
/-- plain parameters -/
def argsB (a : Arguments) (ps : List Str) : Bool := a.posonlyargs.isEmpty && (a.kwonlyargs.isEmpty && (a.vararg.isNone && (a.kwarg.isNone && decide (a.args.map (·.arg) = ps))))
theorem bind_plain {x qual : Str} {a : Arguments} {body : List Stmt} {sc : Scope} {kV doc pm cdv ct : Value} {an : Option Addr} {ps : List Str} {us : List Value} (h : argsB a ps = true) (hn : ps.Nodup) (hl : us.length = ps.length) :
    bindArgs (PySem.W.fnOf x qual a body sc .none kV doc pm an cdv ct) ⟨us, []⟩ = pure (ps.zip us) := by
  obtain ⟨po, as, va, ko, kd, kw, df⟩ := a
  obtain ⟨h1, h⟩ := ba h
  obtain ⟨h2, h⟩ := ba h
  obtain ⟨h3, h⟩ := ba h
  obtain ⟨h4, h5⟩ := ba h
  have e1 : po = [] := List.isEmpty_iff.mp h1
  have e2 : ko = [] := List.isEmpty_iff.mp h2
  have e3 : va = none := Option.isNone_iff_eq_none.mp h3
  have e4 : kw = none := Option.isNone_iff_eq_none.mp h4
  have e5 : as.map (·.arg) = ps := of_decide_eq_true h5
  subst e1 e2 e3 e4
  have m0 : (ps.take ps.length).filter (fun n => ((ps.zip us).lookup n).isNone) = [] := by
    rw [List.take_length]
    refine List.filter_eq_nil_iff.mpr fun n hm => ?_
    have z := zip_lookup hl n hm
    cases q : (ps.zip us).lookup n with
    | none => rw [q] at z; cases z
    | some _ => simp
  unfold bindArgs
  simp only [List.map_nil, List.nil_append, e5, seqItems_none, pure_bind, Option.getD_none, Array.toList_empty, List.forIn_nil, hl, List.drop_nil, List.length_nil, Nat.sub_zero, List.zip_nil_right, m0, List.isEmpty_nil, List.append_nil, zip_binds hn hl,
    gt_iff_lt, Nat.lt_irrefl, decide_false, Bool.false_and, Bool.not_true, if_false, Bool.false_eq_true]

theorem lookup_zip {β : Type} : ∀ {ps : List Str} {us : List β} {n : Str} {i : Nat}, ps.Nodup → ps[i]? = some n → (ps.zip us).lookup n = us[i]?
  | [], _, _, _, _, h => by simp at h
  | p :: ps, [], n, i, _, h => by simp
  | p :: ps, u :: us, n, 0, _, h => by
    simp at h
    subst h
    rw [List.zip_cons_cons, List.lookup_cons, beq_self_eq_true]
    rfl
  | p :: ps, u :: us, n, i + 1, hn, h => by
    obtain ⟨h1, h2⟩ := List.nodup_cons.mp hn
    have h : ps[i]? = some n := by simpa using h
    have q : (n == p) = false := by
      rw [beq_eq_false_iff_ne]
      intro e
      exact h1 (by rw [← e]; exact List.mem_of_getElem? h)
    rw [List.zip_cons_cons, List.lookup_cons, q]
    show (ps.zip us).lookup n = _
    rw [lookup_zip h2 h]
    rfl
theorem lookup_app {β : Type} (n : Str) : ∀ (s t : List (Str × β)), (s ++ t).lookup n = (s.lookup n).or (t.lookup n)
  | [], t => rfl
  | (m, v) :: s, t => by
    rw [List.cons_append, List.lookup_cons, List.lookup_cons]
    cases n == m with
    | true => rfl
    | false => exact lookup_app n s t
theorem lookup_fil {β : Type} (P : Str → Bool) (n : Str) : ∀ (l : List (Str × β)), (l.filter fun p => P p.1).lookup n = if P n = true then l.lookup n else none
  | [] => by split <;> rfl
  | (m, v) :: l => by
    have ih := lookup_fil P n l
    by_cases hm : P m = true
    · rw [List.filter_cons_of_pos (by exact hm), List.lookup_cons, List.lookup_cons, ih]
      cases q : n == m with
      | true =>
        have e : n = m := beq_iff_eq.mp q
        subst e
        exact (if_pos hm).symm
      | false => rfl
    · rw [List.filter_cons_of_neg (by exact hm), List.lookup_cons, ih]
      cases q : n == m with
      | true =>
        have e : n = m := beq_iff_eq.mp q
        rw [e, if_neg hm, if_neg hm]
      | false => rfl
theorem dfl_loop : ∀ (l s : List (Str × Value)), (l.map (·.1)).Nodup →
    (forIn l s fun x r => if (List.lookup x.fst r).isNone = true then (pure (ForInStep.yield (r ++ [(x.fst, x.snd)])) : Sem (ForInStep (List (Str × Value)))) else pure (ForInStep.yield r)) = pure (s ++ l.filter fun p => (s.lookup p.1).isNone)
  | [], s, _ => by
    rw [List.forIn_nil, List.filter_nil, List.append_nil]
  | (n, d) :: l, s, hn => by
    obtain ⟨h1, h2⟩ := List.nodup_cons.mp (show (n :: l.map (·.1)).Nodup from hn)
    rw [List.forIn_cons]
    by_cases q : (s.lookup n).isNone = true
    · rw [if_pos (by exact q), pure_bind]
      show (forIn l (s ++ [(n, d)]) _) = _
      rw [dfl_loop l _ h2, List.filter_cons_of_pos (by exact q), List.append_assoc]
      refine congrArg (fun z => pure (s ++ ((n, d) :: z))) (List.filter_congr fun p hp => ?_)
      rw [lookup_app]
      have e : (p.1 == n) = false := by
        rw [beq_eq_false_iff_ne]
        intro e
        exact h1 (by rw [← e]; exact List.mem_map_of_mem hp)
      have e2 : List.lookup p.1 [(n, d)] = none := by
        rw [List.lookup_cons, e]
        rfl
      rw [e2, Option.or_none]
    · rw [if_neg (by exact q), pure_bind]
      show (forIn l s _) = _
      rw [dfl_loop l s h2, List.filter_cons_of_neg (by exact q)]
theorem bind_dfl {x qual : Str} {a : Arguments} {body : List Stmt} {sc : Scope} {kV doc pm cdv ct : Value} {an : Option Addr} {ps : List Str} {us its : List Value} {Ta : Addr} (h : argsB a ps = true) (hn : ps.Nodup) (hle : us.length ≤ ps.length) (hd : ps.length ≤ us.length + its.length) (hd2 : its.length ≤ ps.length) :
    ∃ k, bindArgs (PySem.W.fnOf x qual a body sc (.ref Ta) kV doc pm an cdv ct) ⟨us, []⟩ = seqItems? (.ref Ta) >>= k ∧ k (some its.toArray) = pure (ps.zip (us ++ its.drop (us.length - (ps.length - its.length)))) := by
  obtain ⟨po, as, va, ko, kd, kw, df⟩ := a
  obtain ⟨h1, h⟩ := ba h
  obtain ⟨h2, h⟩ := ba h
  obtain ⟨h3, h⟩ := ba h
  obtain ⟨h4, h5⟩ := ba h
  have e1 : po = [] := List.isEmpty_iff.mp h1
  have e2 : ko = [] := List.isEmpty_iff.mp h2
  have e3 : va = none := Option.isNone_iff_eq_none.mp h3
  have e4 : kw = none := Option.isNone_iff_eq_none.mp h4
  have e5 : as.map (·.arg) = ps := of_decide_eq_true h5
  subst e1 e2 e3 e4
  unfold bindArgs
  simp only [List.map_nil, List.nil_append, e5, pure_bind, List.forIn_nil]
  refine ⟨_, rfl, ?_⟩
  simp only [Option.getD_some, List.toList_toArray]
  have g1 : ¬ us.length > ps.length := by omega
  simp only [g1, decide_false, Bool.false_and, Bool.false_eq_true, if_false]
  rw [show its.length - ps.length = 0 by omega, List.drop_zero]
  generalize hj : ps.length - its.length = j0
  have look : ∀ (i : Nat) (n : Str), ps[i]? = some n → (ps.zip us).lookup n = us[i]? := fun i n h => lookup_zip hn h
  have mis : (ps.take j0).filter (fun n => ((ps.zip us).lookup n).isNone) = [] := by
    refine List.filter_eq_nil_iff.mpr fun n hm => ?_
    obtain ⟨i, hi⟩ := List.getElem?_of_mem hm
    have hi2 : i < j0 := by
      have := (List.getElem?_eq_some_iff.mp hi).1
      rw [List.length_take] at this
      omega
    rw [List.getElem?_take_of_lt hi2] at hi
    rw [look i n hi, List.getElem?_eq_getElem (by omega)]
    exact Bool.false_ne_true
  rw [mis]
  simp only [List.isEmpty_nil, Bool.not_true, Bool.false_eq_true, if_false, List.append_nil]
  have nd : (((ps.drop j0).zip its).map (·.1)).Nodup := by
    rw [List.map_fst_zip (by rw [List.length_drop]; omega)]
    exact hn.sublist (List.drop_sublist _ _)
  rw [dfl_loop _ _ nd, pure_bind]
  refine congrArg pure (Eq.trans (fm_congr fun n hm => ?_) (zip_binds (us := us ++ its.drop (us.length - j0)) hn (by rw [List.length_append, List.length_drop]; omega)))
  refine congrArg (Option.map _) ?_
  obtain ⟨i, hi⟩ := List.getElem?_of_mem hm
  have hil := (List.getElem?_eq_some_iff.mp hi).1
  rw [lookup_app, lookup_fil fun m => ((ps.zip us).lookup m).isNone, look i n hi, lookup_zip (us := us ++ its.drop (us.length - j0)) hn hi]
  by_cases hu : i < us.length
  · rw [List.getElem?_append_left hu, List.getElem?_eq_getElem hu]
    rfl
  · rw [List.getElem?_append_right (by omega), List.getElem?_eq_none (by omega)]
    show (none : Option Value).or (if (none : Option Value).isNone = true then _ else none) = _
    rw [if_pos (show (none : Option Value).isNone = true from rfl), Option.none_or, lookup_zip (i := i - j0) (hn.sublist (List.drop_sublist _ _)) (by rw [List.getElem?_drop]; rw [show j0 + (i - j0) = i by omega]; exact hi), List.getElem?_drop]
    congr 1
    omega
/-! ### a law's data -/
structure DefX where
  at_ : Str × Option Str
  name : Str
  qual : Str
  st : Stmt
  N : List Str
  ps : List Str
  fn : Fn
structure LawD where
  defs : List DefX
  cls : List (Str × Cl)
  con : List (Str × T)
  ats : List Str
  exc : List (Str × List Nat) := []
  exi : List Nat := []
def LawD.tab (L : LawD) : Tab := ⟨fun i => (L.defs[i]?).map (·.fn), fun i => (L.cls[i]?).map (·.2), fun i => (L.con[i]?).map (·.2), fun i => (L.exc[i]?).map (·.2), fun i => !L.exi.contains i⟩
def LawD.nm (L : LawD) : Nm := ⟨fun i => ((L.defs[i]?).map (·.at_.1)).getD Str.empty, fun i => ((L.cls[i]?).map (·.1)).getD Str.empty, fun i => ((L.con[i]?).map (·.1)).getD Str.empty, fun i => L.ats.getD i Str.empty, fun i => ((L.exc[i]?).map (·.1)).getD Str.empty⟩
def LawD.glF (L : LawD) (f : Nat) : Bool := match L.defs[f]? with
  | some d => d.at_.2.isNone
  | none => false
/-- a default as the kit says it -/
def dvT : T → He.Dv
  | .bl b => .bl b
  | .int i => .int i
  | .str z => .str z
  | _ => .non
def dvOk : T → Bool
  | .non => true
  | .bl _ => true
  | .int _ => true
  | .str _ => true
  | _ => false
def DefX.dd (x : DefX) : He.DefD := ⟨x.at_, x.name, x.qual, defArgs x.st, defBody x.st, defScope x.st, x.fn.dfl.map dvT, []⟩
def nodupB : List Str → Bool
  | [] => true
  | x :: xs => !xs.contains x && nodupB xs
theorem nodupB_ok : ∀ {l : List Str}, nodupB l = true → l.Nodup
  | [], _ => List.nodup_nil
  | x :: xs, h => by
    obtain ⟨h1, h2⟩ := ba h
    refine List.nodup_cons.mpr ⟨fun hm => ?_, nodupB_ok h2⟩
    have z := nb h1
    rw [List.contains_iff_mem.mpr hm] at z
    cases z
def scB (N P : List Str) (sc : Scope) : Bool := decide (sc.kind = .function) && (!sc.isCoroutine && (!sc.isGenerator && (nodupB N && (decide (N.take P.length = P) && (P.all (locB sc) && sc.names.all fun y => decide (y.2 ≠ .free))))))
theorem scB_ok {N P : List Str} {sc : Scope} (h : scB N P sc = true) : FnScope N P sc := by
  obtain ⟨h1, h⟩ := ba h
  obtain ⟨h2, h⟩ := ba h
  obtain ⟨h3, h⟩ := ba h
  obtain ⟨h4, h⟩ := ba h
  obtain ⟨h5, h⟩ := ba h
  obtain ⟨h6, h7⟩ := ba h
  exact ⟨of_decide_eq_true h1, nb h2, nb h3, nodupB_ok h4, of_decide_eq_true h5, fun x hx => locB_ok (List.all_eq_true.mp h6 x hx), fun y hy => of_decide_eq_true (List.all_eq_true.mp h7 y hy)⟩
def defB (L : LawD) (x : DefX) : Bool := scB x.N x.ps (defScope x.st) && (decide (x.ps.length = x.fn.np) && (decide (x.N.length = x.fn.ns) && (chkSs (ckOf x.fn.hot x.N (defScope x.st) L.nm L.tab L.glF) x.fn.body (defBody x.st) && (argsB (defArgs x.st) x.ps && (x.fn.dfl.all dvOk && decide (x.fn.dfl.length ≤ x.fn.np))))))
/-! ### what the head finds -/
def freeN : List Str := ["len", "int", "str", "min", "max", "abs", "list", "tuple", "all", "any", "sum", "divmod", "sorted", "bool", "isinstance", "range", "enumerate", "zip", "dict", "set", "ValueError"].map Str.ofString
def tysA : List Ty := [Ty.int, Ty.bool, Ty.str, Ty.list, Ty.tuple, Ty.dict]
def tysS : List String := ["NoneType", "bool", "int", "str", "tuple", "list", "dict"]
def tyC0 : Ty → Value
  | .int => .type "int" | .bool => .type "bool" | .str => .type "str" | .list => .type "list" | .tuple => .type "tuple" | .dict => .type "dict" | .cls _ => .none
def eqB (a b : Option Bool) : Bool := decide (a = b)
/-- a class's method is this def -/
def mAdB (L : LawD) (K : PySem.W.Frag) (x m : Str) (g : Nat) : Bool := match L.defs[g]? with
  | some d => decide (He.ma K (He.ga K x) m = He.fAd K d.at_)
  | none => false
/-- a constant's item -/
def vB : T → Value → Bool
  | .str x, .str y _ => decide (x = y)
  | .int i, .int j _ => decide (i = j)
  | .bl b, .bool c => b == c
  | .non, .none => true
  | _, _ => false
def vsB : List T → List Value → Bool
  | [], [] => true
  | x :: xs, v :: vs => vB x v && vsB xs vs
  | _, _ => false
def tupF (K : PySem.W.Frag) (x : Str) (ts : List T) : Bool := match PySem.W.nsIn K mainGlobals x with
  | some (some (.ref a)) => (match K.lookup a with
    | some o => decide (o.cls = .type "tuple") && (o.dict.isNone && match o.data with
      | .seq its _ => decide (its.size ≤ sizeLine) && vsB ts its.toList
      | _ => false)
    | none => false)
  | _ => false
theorem vB_ok {G : Gd} {F : Hp} {x : T} {u : Value} (h : vB x u = true) : ∃ v, RelV v u ∧ Rep G F v x := by
  cases x with
  | str a =>
    cases u with
    | str b t =>
      have e : a = b := of_decide_eq_true h
      subst e
      exact ⟨.str a, ⟨t, rfl⟩, .str a⟩
    | _ => cases h
  | int a =>
    cases u with
    | int b t =>
      have e : a = b := of_decide_eq_true h
      subst e
      exact ⟨.int a, ⟨t, rfl⟩, .int a⟩
    | _ => cases h
  | bl a =>
    cases u with
    | bool b =>
      have e : a = b := eq_of_beq h
      subst e
      exact ⟨.bl a, rfl, .bl a⟩
    | _ => cases h
  | non =>
    cases u with
    | none => exact ⟨.non, rfl, .non⟩
    | _ => cases h
  | _ => cases h
theorem vsB_ok {G : Gd} : ∀ {xs : List T} {us : List Value}, vsB xs us = true → ∃ vs, Vals vs us ∧ ∀ F, RepL G F vs xs
  | [], [], _ => ⟨[], .nil, fun _ => .nil⟩
  | x :: xs, u :: us, h => by
    obtain ⟨h1, h2⟩ := ba h
    obtain ⟨vs, a1, a2⟩ := vsB_ok (G := G) h2
    obtain ⟨v, b1, b2⟩ := vB_ok (G := G) (F := fun _ => none) h1
    refine ⟨v :: vs, .cons b1 a1, fun F => .cons (Rep.mono (fun a o e => by cases e) x v b2) (a2 F)⟩
  | [], _ :: _, h => by cases h
  | _ :: _, [], h => by cases h
theorem tup_ok {K : PySem.W.Frag} {x : Str} {ts : List T} (h : tupF K x ts = true) : ∃ a o its n, PySem.W.nsIn K mainGlobals x = some (some (.ref a)) ∧ K.lookup a = some o ∧ o.cls = .type "tuple" ∧ o.data = .seq its n ∧ its.size ≤ sizeLine ∧ vsB ts its.toList = true ∧ o.dict = none := by
  unfold tupF at h
  split at h
  · rename_i a e
    split at h
    · rename_i o e2
      obtain ⟨h1, h2⟩ := ba h
      obtain ⟨h0, h2⟩ := ba h2
      split at h2
      · rename_i its n e3
        obtain ⟨h3, h4⟩ := ba h2
        exact ⟨a, o, its, n, e, e2, of_decide_eq_true h1, e3, of_decide_eq_true h3, h4, Option.isNone_iff_eq_none.mp h0⟩
      · cases h2
    · cases h
  · cases h
def conF (K : PySem.W.Frag) (x : Str × T) : Bool := match x.2 with
  | .tup ts => tupF K x.1 ts
  | .int i => (He.Fa.int x.1 i).ok K
  | .str z => (He.Fa.str x.1 z).ok K
  | _ => false
def clsB (L : LawD) (K : PySem.W.Frag) (x : Str × Cl) : Bool := (He.Fa.cls x.1).ok K && ((He.Fa.glo x.1).ok K && (He.eqO (PySem.W.findIn K (.ref (He.ga K x.1)) "__class__") (some (some (.builtin "object.__class__"))) &&
  (He.eqO (PySem.W.specialIn K (.builtin "object.__class__") "__get__") (some (some (.builtin "getset_descriptor.__get__"))) && (eqB (PySem.W.takesIn K (.builtin "object.__class__")) (some true) && (eqB (PySem.W.mroIn K (He.ga K x.1) (.type "object")) (some true) &&
  (tysA.all (fun t => eqB (PySem.W.kitOne K (.ref (He.ga K x.1)) (tyC0 t)) (some false)) && (L.cls.zipIdx.all (fun y => eqB (PySem.W.kitOne K (.ref (He.ga K x.1)) (.ref (He.ga K y.1.1))) (some (x.2.sup.contains y.2))) &&
  (tysS.all (fun t => eqB (PySem.W.kitOne K (.type t) (.ref (He.ga K x.1))) (some false)) && (x.2.flds.all (fun f => decide (f < L.ats.length) && (He.Fa.noat x.1 (L.nm.atN f)).ok K) && (x.2.meths.all (fun p => decide (p.1 < L.ats.length) && ((He.Fa.meth x.1 (L.nm.atN p.1)).ok K && mAdB L K x.1 (L.nm.atN p.1) p.2)) && (match x.2.init with
    | some f => (He.Fa.mkr x.1).ok K && mAdB L K x.1 (Str.ofString "__init__") f
    | none => PySem.W.makesIn K (He.ga K x.1) && (He.eqO (PySem.W.findIn K (.ref (He.ga K x.1)) "__init__") (some (some (.builtin "object.__init__"))) && PySem.W.keepIn K (.ref (He.ga K x.1))))))))))))))
/-- an exception's class -/
def excB (L : LawD) (K : PySem.W.Frag) (x : Str × List Nat) (i : Nat) : Bool := (L.exi.contains i || (He.Fa.exc x.1).ok K) && ((He.Fa.glo x.1).ok K && (eqB (PySem.W.subIn K (.ref (He.ga K x.1)) (.type "BaseException")) (some true) && (decide (PySem.W.typeIn K (.ref (He.ga K x.1)) = some (.type "type")) &&
  (He.eqO (PySem.W.findIn K (.ref (He.ga K x.1)) "__getattribute__") (some (some (.builtin "BaseException.__getattribute__"))) && (He.eqO (PySem.W.findIn K (.ref (He.ga K x.1)) "__getattr__") (some none) && (PySem.W.hasDictIn K (He.ga K x.1) &&
  (He.eqO (PySem.W.findIn K (.ref (He.ga K x.1)) "__class__") (some (some (.builtin "object.__class__"))) && (He.eqO (PySem.W.specialIn K (.builtin "object.__class__") "__get__") (some (some (.builtin "getset_descriptor.__get__"))) && (eqB (PySem.W.takesIn K (.builtin "object.__class__")) (some true) &&
  (eqB (PySem.W.mroIn K (He.ga K x.1) (.type "object")) (some true) && (eqB (PySem.W.kitOne K (.ref (He.ga K x.1)) (.type "ValueError")) (some true) &&
  L.exc.zipIdx.all (fun y => eqB (PySem.W.kitOne K (.ref (He.ga K x.1)) (.ref (He.ga K y.1.1))) (some (x.2.contains y.2)) && eqB (PySem.W.exmOne K (.ref (He.ga K x.1)) (.ref (He.ga K y.1.1))) (some (x.2.contains y.2))))))))))))))
def factsB (L : LawD) (K : PySem.W.Frag) : Bool := freeN.all (fun x => (He.Fa.free x).ok K) && (L.defs.all (fun d => d.at_.2.isSome || (He.Fa.glo d.at_.1).ok K) && (L.cls.all (clsB L K) && (nodupB L.ats && (L.con.all (conF K) && L.exc.zipIdx.all fun x => excB L K x.1 x.2))))
abbrev AlR : Type := He.AlD × Bool
def obsR (L : LawD) (K : PySem.W.Frag) : AlR := (He.obsD [] (L.defs.map DefX.dd) K, factsB L K)
def valR (L : LawD) : AlR := (He.valD (L.defs.map DefX.dd), true)
def obsRG (n : Nat) (L : LawD) (g : Addr → Option Obj) : AlR := obsR L (He.frG g (He.asD g n))
def hookR (n : Nat) (L : LawD) : PySem.W.Hook where
  α := AlR
  obs := fun s => obsRG n L s.heap.get?
  val := fun _ => valR L
  says := fun _ h => ∃ K : PySem.W.Frag, K.In h ∧ obsR L K = valR L
  of := fun _ _ e => ⟨_, He.frG_in, e⟩
  keeps := fun _ _ _ ⟨K, hK, c⟩ k => ⟨K, PySem.W.Frag.In.keeps hK k, c⟩
theorem obsRG_eq {n : Nat} {L : LawD} {g : Addr → Option Obj} {s : Shared} (h : ∀ a, g a = s.heap.get? a) : obsRG n L g = (hookR n L).obs s := by
  have e : g = s.heap.get? := funext h
  rw [e]
  rfl
/-! the same with the addresses written out -/
def obsLG (as : List Addr) (L : LawD) (g : Addr → Option Obj) : AlR := obsR L (He.frG g as)
def hookL (as : List Addr) (L : LawD) : PySem.W.Hook where
  α := AlR
  obs := fun s => obsLG as L s.heap.get?
  val := fun _ => valR L
  says := fun _ h => ∃ K : PySem.W.Frag, K.In h ∧ obsR L K = valR L
  of := fun _ _ e => ⟨_, He.frG_in, e⟩
  keeps := fun _ _ _ ⟨K, hK, c⟩ k => ⟨K, PySem.W.Frag.In.keeps hK k, c⟩
theorem obsLG_eq {as : List Addr} {L : LawD} {g : Addr → Option Obj} {s : Shared} (h : ∀ a, g a = s.heap.get? a) : obsLG as L g = (hookL as L).obs s := by
  have e : g = s.heap.get? := funext h
  rw [e]
  rfl
theorem obsR_of {L : LawD} {K : PySem.W.Frag} (h1 : He.obsD [] (L.defs.map DefX.dd) K = He.valD (L.defs.map DefX.dd)) (h2 : (freeN.all fun x => (He.Fa.free x).ok K) = true) (h3 : (L.defs.all fun d => d.at_.2.isSome || (He.Fa.glo d.at_.1).ok K) = true)
    (h4 : L.cls.all (clsB L K) = true) (h5 : nodupB L.ats = true) (h6 : L.con.all (conF K) = true) (h7 : (L.exc.zipIdx.all fun x => excB L K x.1 x.2) = true) : obsR L K = valR L := by
  unfold obsR valR factsB
  rw [h1, h2, h3, h4, h5, h6, h7]
  rfl
theorem all_cut {α : Type} {l : List α} {p : α → Bool} (n : Nat) (h1 : (l.take n).all p = true) (h2 : (l.drop n).all p = true) : l.all p = true := by
  rw [← List.take_append_drop n l, List.all_append, h1, h2]
  rfl
/-- the ground of a law -/
def gdOf (L : LawD) (P : Program) (w : World) (K : PySem.W.Frag) (mg : Str → Option Value) : Gd where
  prog := P
  w := w
  K := K
  mg := mg
  fA := fun i => match L.defs[i]? with
    | some d => He.fAd K d.at_
    | none => 0
  cA := fun i => He.ga K (L.nm.clN i)
  eA := fun i => He.ga K (L.nm.exN i)
  nm := L.nm
  tab := L.tab
  nAt := L.ats.length
section
variable {L : LawD} {P : Program} {w : World} {K : PySem.W.Frag} {mg : Str → Option Value} {h : Heap}
theorem eqB_ok {a b : Option Bool} (h : eqB a b = true) : a = b := of_decide_eq_true h
theorem tab_fn {f : Nat} {d : Fn} (e : L.tab.fn f = some d) : ∃ x, L.defs[f]? = some x ∧ x.fn = d := Option.map_eq_some_iff.mp e
theorem tab_cl {c : Nat} {d : Cl} (e : L.tab.cl c = some d) : ∃ x, L.cls[c]? = some x ∧ x.2 = d := Option.map_eq_some_iff.mp e
theorem mem_of_look {α : Type} {f : Nat} {g : α} : ∀ {l : List (Nat × α)}, l.lookup f = some g → (f, g) ∈ l
  | [], h => by cases h
  | (k, v) :: l, h => by
    by_cases z : f = k
    · subst z
      have e : ((f, v) :: l).lookup f = some v := by simp [List.lookup]
      rw [e] at h
      cases h
      exact List.mem_cons_self
    · have e : ((k, v) :: l).lookup f = l.lookup f := by
        have : (f == k) = false := beq_eq_false_iff_ne.mpr z
        simp [List.lookup, this]
      rw [e] at h
      exact List.mem_cons_of_mem _ (mem_of_look h)
theorem nodup_at {l : List Str} (h : l.Nodup) {f g : Nat} (hf : f < l.length) (hg : g < l.length) (e : l.getD f Str.empty = l.getD g Str.empty) : f = g := by
  induction l generalizing f g with
  | nil => cases hf
  | cons x l ih =>
    obtain ⟨h1, h2⟩ := List.nodup_cons.mp h
    have mem : ∀ {i : Nat}, i < l.length → l.getD i Str.empty ∈ l := fun {i} hi => by
      rw [show l.getD i Str.empty = l[i] by simp [hi]]
      exact List.getElem_mem hi
    cases f with
    | zero =>
      cases g with
      | zero => rfl
      | succ g =>
        have e : x = l.getD g Str.empty := e
        exact absurd (by rw [e]; exact mem (Nat.lt_of_succ_lt_succ hg)) h1
    | succ f =>
      cases g with
      | zero =>
        have e : l.getD f Str.empty = x := e
        exact absurd (by rw [← e]; exact mem (Nat.lt_of_succ_lt_succ hf)) h1
      | succ g => exact congrArg Nat.succ (ih h2 (Nat.lt_of_succ_lt_succ hf) (Nat.lt_of_succ_lt_succ hg) e)
theorem mAd_ok {x m : Str} {g : Nat} (h : mAdB L K x m g = true) : He.ma K (He.ga K x) m = (gdOf L P w K mg).fA g ∧ ((gdOf L P w K mg).tab.fn g).isSome = true := by
  unfold mAdB at h
  cases q : L.defs[g]? with
  | none => rw [q] at h; cases h
  | some d =>
    rw [q] at h
    refine ⟨(of_decide_eq_true h).trans ?_, ?_⟩
    · show _ = (match L.defs[g]? with
        | some d => He.fAd K d.at_
        | none => 0)
      rw [q]
    · show ((L.defs[g]?).map (·.fn)).isSome = true
      rw [q]
      rfl
theorem gOk_of (X : K.In h) (Gn : h.Ns mainGlobals mg) (c : obsR L K = valR L) : GOk (gdOf L P w K mg) L.glF := by
  have hf : factsB L K = true := congrArg (fun z : AlR => z.2) c
  have hd : He.SaysD [] (L.defs.map DefX.dd) K := congrArg (fun z : AlR => z.1) c
  obtain ⟨h1, h2⟩ := ba hf
  obtain ⟨h2, h3⟩ := ba h2
  obtain ⟨h3, h4⟩ := ba h3
  obtain ⟨h4, h5⟩ := ba h4
  obtain ⟨h5, h6⟩ := ba h5
  refine ⟨fun x hx => He.free_ok X Gn (List.all_eq_true.mp h1 x hx), fun f hg => ?_, fun i cl hi => ?_, fun f g hf hg e => ?_, fun g t hg => ?_, fun c l hc => ?_⟩
  · unfold LawD.glF at hg
    cases q : L.defs[f]? with
    | none => rw [q] at hg; cases hg
    | some d =>
      rw [q] at hg
      have e : d.at_ = (d.at_.1, none) := by
        have hg : d.at_.2.isNone = true := hg
        exact Prod.ext rfl (Option.isNone_iff_eq_none.mp hg)
      have hA : (gdOf L P w K mg).fA f = He.ga K d.at_.1 := by
        show (match L.defs[f]? with
          | some d => He.fAd K d.at_
          | none => 0) = _
        rw [q]
        show He.fAd K d.at_ = _
        rw [e]
        rfl
      have hN : (gdOf L P w K mg).nm.fnN f = d.at_.1 := by
        show ((L.defs[f]?).map (·.at_.1)).getD Str.empty = _
        rw [q]
        rfl
      rw [hA, hN]
      have z := List.all_eq_true.mp h2 d (List.mem_of_getElem? q)
      rw [show d.at_.2 = none from by rw [e]] at z
      refine ⟨He.glo_ok X Gn z, ?_⟩
      obtain ⟨fd, F⟩ := hd.def_ f (d := d.dd) (by rw [List.getElem?_map, q]; rfl)
      have kp := F.kp
      rw [show He.fAd K d.dd.at_ = He.ga K d.at_.1 from by show He.fAd K d.at_ = _; rw [e]; rfl] at kp
      exact kp
  · obtain ⟨x, hx, e⟩ := tab_cl hi
    have hcl : (gdOf L P w K mg).cA i = He.ga K x.1 := by
      show He.ga K (((L.cls[i]?).map (·.1)).getD Str.empty) = _
      rw [hx]
      rfl
    have hcn : (gdOf L P w K mg).nm.clN i = x.1 := by
      show ((L.cls[i]?).map (·.1)).getD Str.empty = _
      rw [hx]
      rfl
    have z := List.all_eq_true.mp h3 x (List.mem_of_getElem? hx)
    obtain ⟨z1, z⟩ := ba z
    obtain ⟨z2, z⟩ := ba z
    obtain ⟨z3, z⟩ := ba z
    obtain ⟨z4, z⟩ := ba z
    obtain ⟨z5, z⟩ := ba z
    obtain ⟨z6, z⟩ := ba z
    obtain ⟨z7, z⟩ := ba z
    obtain ⟨z8, z⟩ := ba z
    obtain ⟨z9, z⟩ := ba z
    obtain ⟨z10, z⟩ := ba z
    obtain ⟨z11, z12⟩ := ba z
    subst e
    refine ⟨by rw [hcl]; exact He.cls_ok z1, by rw [hcl]; exact He.eqO_ok z3, He.eqO_ok z4, eqB_ok z5, by rw [hcl]; exact eqB_ok z6, fun t ht => ?_, fun j cd hj => ?_, fun t ht => by rw [hcl]; exact eqB_ok (List.all_eq_true.mp z9 t ht), by rw [hcl, hcn]; exact He.glo_ok X Gn z2, fun f hf => ?_, fun f g hf => ?_, ?_⟩
    · rw [hcl]
      have y := eqB_ok (List.all_eq_true.mp z7 t ht)
      have e : tyC (gdOf L P w K mg) t = tyC0 t := by
        cases t with
        | cls c => exact absurd ht (by simp)
        | _ => rfl
      rw [e]
      exact y
    · obtain ⟨y, hy, e⟩ := tab_cl hj
      have hcj : (gdOf L P w K mg).cA j = He.ga K y.1 := by
        show He.ga K (((L.cls[j]?).map (·.1)).getD Str.empty) = _
        rw [hy]
        rfl
      rw [hcl, hcj]
      have m : (y, j) ∈ L.cls.zipIdx := by
        rw [List.mem_zipIdx_iff_getElem?]
        exact hy
      exact eqB_ok (List.all_eq_true.mp z8 (y, j) m)
    · obtain ⟨y1, y2⟩ := ba (List.all_eq_true.mp z10 f hf)
      exact ⟨of_decide_eq_true y1, by rw [hcl]; exact He.noat_ok y2⟩
    · obtain ⟨y1, y⟩ := ba (List.all_eq_true.mp z11 (f, g) (mem_of_look hf))
      obtain ⟨y2, y3⟩ := ba y
      obtain ⟨e1, e2⟩ := mAd_ok (P := P) (w := w) (mg := mg) y3
      refine ⟨of_decide_eq_true y1, ?_, e2⟩
      rw [hcl, ← e1]
      exact He.meth_ok y2
    · cases q : x.2.init with
      | none =>
        rw [q] at z12
        obtain ⟨y1, y⟩ := ba z12
        obtain ⟨y2, y3⟩ := ba y
        show Mk0 K (He.ga K (L.nm.clN i))
        rw [show He.ga K (L.nm.clN i) = He.ga K x.1 from hcl]
        exact ⟨y1, He.eqO_ok y2, y3⟩
      | some f =>
        rw [q] at z12
        obtain ⟨y1, y2⟩ := ba z12
        obtain ⟨e1, e2⟩ := mAd_ok (P := P) (w := w) (mg := mg) y2
        show Mk K (He.ga K (L.nm.clN i)) ((gdOf L P w K mg).fA f)
        rw [← e1, show He.ga K (L.nm.clN i) = He.ga K x.1 from hcl]
        exact He.mkr_ok y1
  · exact nodup_at (nodupB_ok h4) hf hg e
  · obtain ⟨x, hx, e⟩ := Option.map_eq_some_iff.mp (show (L.con[g]?).map (·.2) = some t from hg)
    have z := List.all_eq_true.mp h5 x (List.mem_of_getElem? hx)
    have hn : (gdOf L P w K mg).nm.coN g = x.1 := by
      show ((L.con[g]?).map (·.1)).getD Str.empty = _
      rw [hx]
      rfl
    unfold conF at z
    subst e
    rw [hn]
    cases q : x.2 with
    | int i =>
      rw [q] at z
      obtain ⟨t, e⟩ := He.int_ok X Gn z
      exact ⟨.int i, _, e, ⟨t, rfl⟩, fun F => .int i, fun ts z => by cases z⟩
    | str y =>
      rw [q] at z
      obtain ⟨t, e⟩ := He.str_ok X Gn z
      exact ⟨.str y, _, e, ⟨t, rfl⟩, fun F => .str y, fun ts z => by cases z⟩
    | tup ts =>
      rw [q] at z
      obtain ⟨a, o, its, n, e1, e2, e3, e4, e5, e6, e7⟩ := tup_ok z
      obtain ⟨vs, w1, w2⟩ := vsB_ok (G := gdOf L P w K mg) e6
      exact ⟨.ref a, _, PySem.W.mg_of X Gn e1, rfl, fun F => .tup (.inr ⟨o, its, n, e2, e3, e4, e5, w1⟩) (w2 F), fun ts z => by cases z; exact ⟨a, o, rfl, e2, e3, e7⟩⟩
    | _ => rw [q] at z; cases z
  · obtain ⟨x, hx, e⟩ := Option.map_eq_some_iff.mp (show (L.exc[c]?).map (·.2) = some l from hc)
    have m : (x, c) ∈ L.exc.zipIdx := by
      rw [List.mem_zipIdx_iff_getElem?]
      exact hx
    obtain ⟨z1, z⟩ := ba (List.all_eq_true.mp h6 (x, c) m)
    obtain ⟨z2, z⟩ := ba z
    obtain ⟨z3, z⟩ := ba z
    obtain ⟨z4, z⟩ := ba z
    obtain ⟨z5, z⟩ := ba z
    obtain ⟨z6, z⟩ := ba z
    obtain ⟨z7, z⟩ := ba z
    obtain ⟨z8, z⟩ := ba z
    obtain ⟨z9, z⟩ := ba z
    obtain ⟨z10, z⟩ := ba z
    obtain ⟨z11, z⟩ := ba z
    obtain ⟨z12, z13⟩ := ba z
    have hn : (gdOf L P w K mg).nm.exN c = x.1 := by
      show ((L.exc[c]?).map (·.1)).getD Str.empty = _
      rw [hx]
      rfl
    have hA : ∀ (d : Nat) (y : Str × List Nat), L.exc[d]? = some y → (gdOf L P w K mg).eA d = He.ga K y.1 := fun d y hy => by
      show He.ga K (((L.exc[d]?).map (·.1)).getD Str.empty) = _
      rw [hy]
      rfl
    have hAx := hA c x hx
    refine ⟨by rw [hn, hAx]; exact He.glo_ok X Gn z2, fun hr => ?_, by rw [hAx]; exact eqB_ok z3, by rw [hAx]; exact of_decide_eq_true z4, ?_, by rw [hAx]; exact eqB_ok z12, fun lc hlc d l' hd => ?_⟩
    · have hr : (!L.exi.contains c) = true := hr
      have z1 : (L.exi.contains c || (He.Fa.exc x.1).ok K) = true := z1
      rw [nb hr] at z1
      obtain ⟨e1, e2, e3, e4⟩ := He.exc_ok (show (He.Fa.exc x.1).ok K = true from z1)
      rw [hAx]
      exact ⟨e1, e2⟩
    · rw [hAx]
      exact ⟨He.eqO_ok z5, He.eqO_ok z6, eqB_ok z3, z7, He.eqO_ok z8, He.eqO_ok z9, eqB_ok z10, eqB_ok z11⟩
    · obtain ⟨y, hy, ey⟩ := Option.map_eq_some_iff.mp (show (L.exc[d]?).map (·.2) = some l' from hd)
      have my : (y, d) ∈ L.exc.zipIdx := by
        rw [List.mem_zipIdx_iff_getElem?]
        exact hy
      have hlc : (L.exc[c]?).map (·.2) = some lc := hlc
      rw [hx] at hlc
      cases hlc
      obtain ⟨w1, w2⟩ := ba (List.all_eq_true.mp z13 (y, d) my)
      rw [hAx, hA d y hy]
      exact ⟨eqB_ok w1, eqB_ok w2⟩
theorem def_of (c : obsR L K = valR L) (hb : L.defs.all (defB L) = true) {f : Nat} {x : DefX} (hx : L.defs[f]? = some x) : ∃ fd, FunD K x.name x.qual (defArgs x.st) (defBody x.st) (defScope x.st) ((x.fn.dfl.map dvT).map (He.Dv.v K)) [] ((gdOf L P w K mg).fA f) fd ∧ FnScope x.N x.ps (defScope x.st) ∧
    x.ps.length = x.fn.np ∧ x.N.length = x.fn.ns ∧ chkSs (ckOf x.fn.hot x.N (defScope x.st) L.nm L.tab L.glF) x.fn.body (defBody x.st) = true ∧ argsB (defArgs x.st) x.ps = true ∧ x.fn.dfl.all dvOk = true ∧ x.fn.dfl.length ≤ x.fn.np := by
  have hd : He.SaysD [] (L.defs.map DefX.dd) K := congrArg (fun z : AlR => z.1) c
  obtain ⟨fd, F⟩ := hd.def_ f (d := x.dd) (by rw [List.getElem?_map, hx]; rfl)
  have z := List.all_eq_true.mp hb x (List.mem_of_getElem? hx)
  obtain ⟨z1, z⟩ := ba z
  obtain ⟨z2, z⟩ := ba z
  obtain ⟨z3, z⟩ := ba z
  obtain ⟨z4, z⟩ := ba z
  obtain ⟨z5, z6⟩ := ba z
  refine ⟨fd, ?_, scB_ok z1, of_decide_eq_true z2, of_decide_eq_true z3, z4, z5, (ba z6).1, of_decide_eq_true (ba z6).2⟩
  have hA : (gdOf L P w K mg).fA f = He.fAd K x.at_ := by
    show (match L.defs[f]? with
      | some d => He.fAd K d.at_
      | none => 0) = _
    rw [hx]
  rw [hA]
  exact F
theorem binds_of {x qual : Str} {a : Arguments} {body : List Stmt} {sc : Scope} {f : Addr} {fd : FuncData} {N ps : List Str} (F : FunD K x qual a body sc [] [] f fd) (S : FnScope N ps sc) (h : argsB a ps = true) : Binds K fd ps [] :=
  F.bindsN fun kV doc pm an cdv ct us hl => bind_plain h (by rw [← S.pre]; exact S.nd.sublist (List.take_sublist _ _)) hl
theorem defOk_of (c : obsR L K = valR L) (hb : L.defs.all (defB L) = true) : ∀ f d, (gdOf L P w K mg).tab.fn f = some d → DefOk (gdOf L P w K mg) L.glF f d := fun f d hf => by
  obtain ⟨x, hx, e⟩ := tab_fn hf
  subst e
  obtain ⟨fd, F, Sc, h1, h2, h3, h4, h5, h6⟩ := def_of (P := P) (w := w) (mg := mg) c hb hx
  refine ⟨x.name, x.qual, _, _, _, _, fd, x.N, x.ps, F, Sc, h1, h2, h3, fun m hm hd => ?_⟩
  have nd : x.ps.Nodup := by rw [← Sc.pre]; exact Sc.nd.sublist (List.take_sublist _ _)
  have rep : ∀ (W : Wd) (l : List T), l.all dvOk = true → Paired (RepV (gdOf L P w K mg) W) ((l.map dvT).map (He.Dv.v K)) (l.map .t) := fun W l => by
    induction l with
    | nil => exact fun _ => .nil
    | cons t l ih =>
      intro h
      obtain ⟨g1, g2⟩ := ba h
      refine .cons ?_ (ih g2)
      show Rep _ W.F ((dvT t).v K) t
      cases t with
      | non => exact .non
      | bl b => exact .bl b
      | int i => exact .int i
      | str z => exact .str z
      | _ => cases g1
  cases hq : x.fn.dfl with
  | nil =>
    rw [hq] at F
    refine ⟨[], [], binds_of F Sc h4, .nil, fun W => ?_⟩
    have e : dflV x.fn m = [] := by
      unfold dflV
      rw [hq, List.drop_nil]
      rfl
    rw [e]
    exact .nil
  | cons t ts =>
    have hne : (x.fn.dfl.map dvT).map (He.Dv.v K) ≠ [] := by rw [hq]; exact fun z => nomatch z
    have hlen : ((x.fn.dfl.map dvT).map (He.Dv.v K)).length = x.fn.dfl.length := by rw [List.length_map, List.length_map]
    obtain ⟨ds, h7, h8⟩ := F.binds1 (ps := x.ps) m (x.fn.dfl.length - (x.fn.np - m)) hne (by rw [hlen, h1]; omega) fun Ta kV doc pm an cdv ct us its hu hi => by
      have z := bind_dfl (x := x.name) (qual := x.qual) (body := defBody x.st) (sc := defScope x.st) (kV := kV) (doc := doc) (pm := pm) (an := an) (cdv := cdv) (ct := ct) (us := us) (its := its) (Ta := Ta) h4 nd (by omega) (by omega) (by omega)
      rw [show us.length - (x.ps.length - its.length) = x.fn.dfl.length - (x.fn.np - m) by omega] at z
      exact z
    refine ⟨ds, _, h8, h7, fun W => ?_⟩
    unfold dflV
    rw [List.map_drop]
    exact Paired.drop' _ (rep W x.fn.dfl h5)
end
/-- a law, by the small language -/
theorem walk_rw {l : PySem.W.OpenLaw} {L : LawD} {q : Program} {loose : List Str} {XP : (Str → Option Value) → Heap → Prop} {d : DefRec} {m n lawId : Nat} {dx : DefX} (hn : l.most = some 63) (hdf : d.params.defaults = []) (hx : L.defs[lawId]? = some dx) (hname : d.name = dx.at_.1) (hat : dx.at_.2 = none)
    (hnp : dx.fn.np = 1) (hdl : dx.fn.dfl = []) (hnh : dx.fn.hot = false) (hb : L.defs.all (defB L) = true) (hm : m ≤ 100) (main : ∀ ns : List Int, ns.length ≤ 63 → ∃ S, callF L.tab m lawId [Val.t (.scr ns)] [] = .ok (.t (.bl true)) S) :
    PySem.W.WalkO q loose XP (hookR n L).says l.row.toRowW d [] (fun f vs => PySem.call f vs) := by
  refine Att.attach_call hn hdf fun w s0 s1 mg mb fa o pm cd doc a vs ns Gr Y ho hd hcd hmg hobj hints hlen hg => ?_
  obtain ⟨K, KX, c⟩ := Y
  have g := gOk_of (P := l.prog) (w := w) KX Gr.T.g c
  obtain ⟨fd, F, Sc, h1, h2, h3, h4, _, _⟩ := def_of (P := l.prog) (w := w) (mg := mg) c hb hx
  have h5 := hdl
  rw [hdl] at F
  rw [hnh] at h3
  have hgl : L.glF lawId = true := by
    unfold LawD.glF
    rw [hx]
    show dx.at_.2.isNone = true
    rw [hat]
    rfl
  have efa : (gdOf L l.prog w K mg).fA lawId = fa := by
    have z := (g.gl lawId hgl).1
    have hN : (gdOf L l.prog w K mg).nm.fnN lawId = dx.at_.1 := by
      show ((L.defs[lawId]?).map (·.at_.1)).getD Str.empty = _
      rw [hx]
      rfl
    rw [hN, ← hname] at z
    have z : mg d.name = some (.ref _) := z
    rw [hmg] at z
    cases z
    rfl
  rw [efa] at F
  obtain ⟨x, hps⟩ : ∃ x, dx.ps = [x] := by
    have z := h1.trans hnp
    cases q : dx.ps with
    | nil => rw [q] at z; cases z
    | cons x xs =>
      rw [q] at z
      cases xs with
      | nil => exact ⟨x, rfl⟩
      | cons _ _ => cases z
  cases m with
  | zero =>
    obtain ⟨S, z⟩ := main ns hlen
    cases z
  | succ m =>
    have hr : Room (2 * m + 2) callerA := Room.mono (j := 2 * m + 2) (k := 210) ⟨rfl, by decide, by decide⟩ (by omega)
    refine law_call (x := x) (fd := fd) (k := 2 * m + 2) (CX := L2.CX l.prog w) (sp := spR (gdOf L l.prog w K mg) dx.fn.np (runFn L.tab (callF L.tab m) dx.fn)) KX Gr.T.g Gr.T.b Gr.T.builtins Gr.T.nolimit hg hobj hints (Nat.le_trans hlen (by decide)) hr (fun base hK hN => ?_) (fun s u => ?_) (fun H hO hS => ?_) (fun H e s' hc => ?_)
    · rw [← hps]
      exact fn_ok_of (G := gdOf L l.prog w K mg) rfl (k := 2 * m) g F Sc h1 h2 h3 (all_facts rfl g (defOk_of c hb) m)
    · have z := F.bindsA (ps := dx.ps) (fun kV doc pm an cdv ct us hl => bind_plain h4 (by rw [← Sc.pre]; exact Sc.nd.sublist (List.take_sublist _ _)) hl) s [u] (by rw [hps]; rfl)
      rw [hps] at z
      exact z
    · obtain ⟨S, z⟩ := main ns hlen
      refine ⟨⟨H, fun _ => none, 0, fun _ => 0⟩, [], [Val.t (.scr ns)], ⟨Same.refl _, rfl, fun k c e => by simp at e, fun j k c d e => by simp at e, fun a o e => by cases e⟩, .cons (.scr hS) .nil, hnp.symm ▸ rfl, ?_⟩
      have z : runFn L.tab (callF L.tab m) dx.fn [Val.t (.scr ns)] [] = .ok (.t (.bl true)) S := by
        have z : (match L.tab.fn lawId with
          | none => R.bad
          | some d => runFn L.tab (callF L.tab m) d ([Val.t (.scr ns)] ++ (d.dfl.drop (d.dfl.length - (d.np - 1))).map Val.t) []) = .ok (.t (.bl true)) S := z
        rw [show L.tab.fn lawId = some dx.fn from by show (L.defs[lawId]?).map (·.fn) = _; rw [hx]; rfl] at z
        have z : runFn L.tab (callF L.tab m) dx.fn ([Val.t (.scr ns)] ++ (dx.fn.dfl.drop (dx.fn.dfl.length - (dx.fn.np - 1))).map Val.t) [] = .ok (.t (.bl true)) S := z
        rw [h5, List.drop_nil, List.map_nil, List.append_nil] at z
        exact z
      show Post _ _ _ _ _ (runFn L.tab (callF L.tab m) dx.fn [Val.t (.scr ns)] []) _
      rw [z]
      intro W' b H' lw sw rw'
      cases rw'
      rfl
    · obtain ⟨_, _, _, _, _, _, _, _, _, _, _, _, z⟩ := hc
      exact z
end Rw

namespace Rw
open PySem PySem.Spec PyProof.Rows L2
/-! ### short ways through the small language -/
theorem callF_s (tab : Tab) (n f : Nat) (vs : List Val) (S : Store) : callF tab (n + 1) f vs S = (match tab.fn f with
    | none => .bad
    | some d => runFn tab (callF tab n) d (vs ++ (d.dfl.drop (d.dfl.length - (d.np - vs.length))).map .t) S) := rfl
theorem callF_d {tab : Tab} {n f : Nat} {d : Fn} {vs : List Val} {S : Store} (h : tab.fn f = some d) (hd : d.dfl = []) : callF tab (n + 1) f vs S = runFn tab (callF tab n) d vs S := by
  rw [callF_s, h]
  show runFn tab (callF tab n) d (vs ++ (d.dfl.drop (d.dfl.length - (d.np - vs.length))).map .t) S = _
  rw [hd, List.drop_nil, List.map_nil, List.append_nil]
/-- a pure def's value -/
def resP (m : RS) (S : Store) : R Val := match m with
  | .nx _ _ => .ok (.t .non) S
  | .rt v S1 => (match toT S1 v with
    | some (x, _) => .ok (.t x) S
    | none => .bad)
  | .ex x _ _ => .ex x S
  | _ => .bad
@[simp] theorem resP_nx (env : Env) (S1 S : Store) : resP (.nx env S1) S = .ok (.t .non) S := rfl
@[simp] theorem resP_rt (x : T) (S1 S : Store) : resP (.rt (.t x) S1) S = .ok (.t x) S := rfl
@[simp] theorem resP_ex (x : Exn) (env : Env) (S1 S : Store) : resP (.ex x env S1) S = .ex x S := rfl
theorem runFn_p {tab : Tab} {call : Call} {d : Fn} {xs : List T} {S : Store} (hp : d.pure = true) (hl : xs.length = d.np) :
    runFn tab call d (xs.map .t) S = resP (dSs tab call d.body (xs.map (fun x => some (.t x)) ++ List.replicate (d.ns - d.np) none) []) S := by
  have ha : ∀ xs : List T, allT (xs.map .t) = some xs := fun xs => by
    induction xs with
    | nil => rfl
    | cons x xs ih =>
      show (allT (xs.map .t)).map (x :: ·) = _
      rw [ih]
      rfl
  unfold runFn
  rw [if_pos (by rw [List.length_map, hl]), if_pos hp, ha, List.map_map]
  rfl
/-- a call of a pure def without defaults -/
theorem callP {tab : Tab} {n f : Nat} {d : Fn} (xs : List T) {S : Store} (h : tab.fn f = some d) (hd : d.dfl = []) (hp : d.pure = true) (hl : xs.length = d.np) :
    callF tab (n + 1) f (xs.map .t) S = resP (dSs tab (callF tab n) d.body (xs.map (fun x => some (.t x)) ++ List.replicate (d.ns - d.np) none) []) S := by
  rw [callF_d h hd, runFn_p hp hl]
/-- .. its letters, and its text, at hand -/
theorem callQ {tab : Tab} {n f np ns : Nat} {hh : Bool} {ss : ISs} (xs : List T) (env : Env) {S : Store} (h : tab.fn f = some ⟨true, np, ns, [], ss, hh⟩) (hl : xs.length = np)
    (he : xs.map (fun x => some (.t x)) ++ List.replicate (ns - np) none = env) :
    callF tab (n + 1) f (xs.map .t) S = resP (dSs tab (callF tab n) ss env []) S := by
  subst he
  exact callP xs h rfl rfl hl
@[simp] theorem seq_nx (env : Env) (S : Store) (k : Env → Store → RS) : (RS.nx env S).seq k = k env S := rfl
@[simp] theorem seq_rt (v : Val) (S : Store) (k : Env → Store → RS) : (RS.rt v S).seq k = .rt v S := rfl
@[simp] theorem seq_ex (x : Exn) (env : Env) (S : Store) (k : Env → Store → RS) : (RS.ex x env S).seq k = .ex x env S := rfl
@[simp] theorem seq_ct (env : Env) (S : Store) (k : Env → Store → RS) : (RS.ct env S).seq k = .ct env S := rfl
@[simp] theorem seq_bk (env : Env) (S : Store) (k : Env → Store → RS) : (RS.bk env S).seq k = .bk env S := rfl
@[simp] theorem seq_ite {c : Prop} [Decidable c] (a b : RS) (k : Env → Store → RS) : (if c then a else b).seq k = if c then a.seq k else b.seq k := by split <;> rfl
@[simp] theorem bind_ite {α β : Type} {c : Prop} [Decidable c] (a b : R α) (k : α → Store → R β) : (if c then a else b).bind k = if c then a.bind k else b.bind k := by split <;> rfl
@[simp] theorem st_ite {α : Type} {c : Prop} [Decidable c] (a b : R α) (env : Env) (k : α → Store → RS) : (if c then a else b).st env k = if c then a.st env k else b.st env k := by split <;> rfl
@[simp] theorem resP_ite {c : Prop} [Decidable c] (a b : RS) (S : Store) : resP (if c then a else b) S = if c then resP a S else resP b S := by split <;> rfl
/-! values -/
@[simp] theorem eqT_int (i j : Int) : eqT (.int i) (.int j) = some (decide (i = j)) := by
  show some (i == j) = _
  rw [Bool.beq_eq_decide_eq]
theorem pys_ints (ns : List Int) : T.pys (ns.map .int) = some (ns.map .int) := by
  induction ns with
  | nil => rfl
  | cons n ns ih =>
    show (match T.py (.int n) with
      | some d => (T.pys (ns.map .int)).map (d :: ·)
      | none => none) = _
    rw [ih]
    rfl
theorem eqvAll_nil (ns : List Int) : PyData.eqvAll (ns.map .int) [] = decide (ns = []) := by
  cases ns <;> rfl
@[simp] theorem eqT_scr_nil (ns : List Int) : eqT (.scr ns) (.lst []) = some (decide (ns = [])) := by
  show (if min (PyData.depth (.list (ns.map .int))) 1 ≤ 60 then some (PyData.eqvAll (ns.map .int) []) else none) = _
  rw [if_pos (by omega), eqvAll_nil]
@[simp] theorem cmpV_t (op : CmpOp) (x y : T) (S : Store) : cmpV op (.t x) (.t y) S = ofT ((cmpT op x y).map .bl) S := by cases op <;> rfl
@[simp] theorem cmpV_isr (n : Nat) (S : Store) : cmpV .Is (.r n) (.t .non) S = .ok (.t (.bl false)) S := rfl
@[simp] theorem cmpV_isnr (n : Nat) (S : Store) : cmpV .IsNot (.r n) (.t .non) S = .ok (.t (.bl true)) S := rfl
@[simp] theorem cmpT_isnn : cmpT .Is .non .non = some true := rfl
@[simp] theorem cmpT_innn : cmpT .IsNot .non .non = some false := rfl
@[simp] theorem cmpT_eq (x y : T) : cmpT .Eq x y = eqT x y := rfl
@[simp] theorem cmpT_ne (x y : T) : cmpT .NotEq x y = (eqT x y).map not := rfl
@[simp] theorem cmpT_lt (i j : Int) : cmpT .Lt (.int i) (.int j) = some (decide (i < j)) := rfl
@[simp] theorem cmpT_le (i j : Int) : cmpT .LtE (.int i) (.int j) = some (decide (i ≤ j)) := rfl
@[simp] theorem cmpT_gt (i j : Int) : cmpT .Gt (.int i) (.int j) = some (decide (j < i)) := rfl
@[simp] theorem cmpT_ge (i j : Int) : cmpT .GtE (.int i) (.int j) = some (decide (j ≤ i)) := rfl
@[simp] theorem binV_int (op : Operator) (i j : Int) (S : Store) : binV op (.t (.int i)) (.t (.int j)) S = ofT ((binI op i j).map .int) S := rfl
@[simp] theorem binI_add (i j : Int) : binI .Add i j = some (i + j) := rfl
@[simp] theorem binI_sub (i j : Int) : binI .Sub i j = some (i - j) := rfl
theorem binI_mul {i j : Int} (h : (bigI i || bigI j) = true) : binI .Mult i j = some (i * j) := if_pos h
theorem binI_mulL {i j : Int} (h : bigI i = true) : binI .Mult i j = some (i * j) := if_pos (by rw [h]; rfl)
theorem binI_mulR {i j : Int} (h : bigI j = true) : binI .Mult i j = some (i * j) := if_pos (by rw [h, Bool.or_true])
theorem binI_div {i j : Int} (h : 0 < j) (h2 : j < 1073741824) : binI .FloorDiv i j = some (i / j) := if_pos ⟨h, by omega⟩
theorem binI_mod {i j : Int} (h : 0 < j) : binI .Mod i j = some (i % j) := if_pos h
theorem binI_shl {i j : Int} (h : 0 ≤ j) (h2 : j ≤ 1000000) (h3 : i.natAbs < 18446744073709551616) : binI .LShift i j = some (i * 2 ^ j.toNat) := if_pos ⟨⟨h, by omega⟩, h3⟩
theorem binI_shr {i j : Int} (h : 0 ≤ j) : binI .RShift i j = some (i / 2 ^ j.toNat) := if_pos h
theorem binI_pow {i j : Int} (h : 0 ≤ j) (h2 : j ≤ 1000000) (h3 : i.natAbs < 18446744073709551616) : binI .Pow i j = some (i ^ j.toNat) := if_pos ⟨⟨h, by omega⟩, h3⟩
@[simp] theorem pow_20 : binI .Pow 2 20 = some 1048576 := by decide
@[simp] theorem pow_21 : binI .Pow 2 21 = some 2097152 := by decide
@[simp] theorem pow_24 : binI .Pow 2 24 = some 16777216 := by decide
@[simp] theorem pow_40 : binI .Pow 2 40 = some 1099511627776 := by decide
@[simp] theorem binI_and (i j : Int) : binI .BitAnd i j = some (Builtin.bitAnd i j) := rfl
theorem bigI_of {i : Int} (h : -18446744073709551616 < i) (h2 : i < 18446744073709551616) : bigI i = true := by
  unfold bigI
  exact decide_eq_true (by omega)
@[simp] theorem truV_bl (b : Bool) (S : Store) : truV (.t (.bl b)) S = .ok b S := rfl
@[simp] theorem lenV_scr (ns : List Int) (S : Store) : lenV (.t (.scr ns)) S = .ok (.t (.int ns.length)) S := rfl
@[simp] theorem lenV_lst (xs : List T) (S : Store) : lenV (.t (.lst xs)) S = .ok (.t (.int xs.length)) S := rfl
@[simp] theorem lenV_tup (xs : List T) (S : Store) : lenV (.t (.tup xs)) S = .ok (.t (.int xs.length)) S := rfl
@[simp] theorem blt_len (m : Bool) (a : Val) (S : Store) : bltV .len m [a] S = lenV a S := rfl
@[simp] theorem blt_min (m : Bool) (i j : Int) (S : Store) : bltV .min2 m [.t (.int i), .t (.int j)] S = .ok (.t (.int (min i j))) S := by
  show R.ok (Val.t (.int (if j < i then j else i))) S = _
  rw [show (if j < i then j else i) = min i j by split <;> omega]
@[simp] theorem blt_max (m : Bool) (i j : Int) (S : Store) : bltV .max2 m [.t (.int i), .t (.int j)] S = .ok (.t (.int (max i j))) S := by
  show R.ok (Val.t (.int (if j > i then j else i))) S = _
  rw [show (if j > i then j else i) = max i j by split <;> omega]
@[simp] theorem blt_int_b (m : Bool) (b : Bool) (S : Store) : bltV .int m [.t (.bl b)] S = .ok (.t (.int (if b then 1 else 0))) S := rfl
@[simp] theorem allT_cons (x : T) (vs : List Val) : allT (.t x :: vs) = (allT vs).map (x :: ·) := rfl
@[simp] theorem allT_nil : allT [] = some [] := rfl
@[simp] theorem alloc_f (vs : List Val) (S : Store) (h : vs.length ≤ szLine) : alloc false vs S = ofT ((allT vs).map .lst) S := by
  unfold alloc
  rw [if_pos h, if_neg (by decide)]
  cases allT vs <;> rfl
/-- an item by an index from nought on -/
theorem atL_nat {α : Type} {xs : List α} {i : Int} (h : 0 ≤ i) (h2 : i < xs.length) : atL xs i = xs[i.toNat]? := by
  unfold atL ix
  rw [if_pos h, if_pos h2]
  rfl
@[simp] theorem sub_lst (xs : List T) (i : Int) (S : Store) : subV (.t (.lst xs)) (.t (.int i)) S = ofT (atL xs i) S := rfl
@[simp] theorem sub_tup (xs : List T) (i : Int) (S : Store) : subV (.t (.tup xs)) (.t (.int i)) S = ofT (atL xs i) S := rfl
@[simp] theorem sub_scr (ns : List Int) (i : Int) (S : Store) : subV (.t (.scr ns)) (.t (.int i)) S = ofT ((atL ns i).map .int) S := rfl
theorem isi_int (tab : Tab) (t : Ty) (i : Int) (S : Store) (h : ∀ c, t ≠ .cls c) : isiV tab [t] (.t (.int i)) S = .ok (.t (.bl (t == .int))) S := by
  cases t with
  | cls c => exact absurd rfl (h c)
  | _ => rfl
@[simp] theorem isi_int_int (tab : Tab) (i : Int) (S : Store) : isiV tab [.int] (.t (.int i)) S = .ok (.t (.bl true)) S := rfl
@[simp] theorem isi_int_bool (tab : Tab) (i : Int) (S : Store) : isiV tab [.bool] (.t (.int i)) S = .ok (.t (.bl false)) S := rfl
/-! one statement, then the others -/
section
variable {tab : Tab} {call : Call} {i : Nat} {e : IE} {ss : ISs} {env : Env} {S S1 : Store} {v : Val}
theorem step_set (v : Val) (h : dE tab call e env S = .ok v S1) : dSs tab call (.cons (.set i e) ss) env S = dSs tab call ss (env.set i (some v)) S1 := by
  show (dS tab call (.set i e) env S).seq _ = _
  rw [show dS tab call (.set i e) env S = .nx (env.set i (some v)) S1 from by show (dE tab call e env S).st env _ = _; rw [h]; rfl]
  rfl
theorem step_ret (v : Val) (h : dE tab call e env S = .ok v S1) : dSs tab call (.cons (.ret e) ss) env S = .rt v S1 := by
  show (dS tab call (.ret e) env S).seq _ = _
  rw [show dS tab call (.ret e) env S = .rt v S1 from by show (dE tab call e env S).st env _ = _; rw [h]; rfl]
  rfl
theorem step_expr (v : Val) (h : dE tab call e env S = .ok v S1) : dSs tab call (.cons (.expr e) ss) env S = dSs tab call ss env S1 := by
  show (dS tab call (.expr e) env S).seq _ = _
  rw [show dS tab call (.expr e) env S = .nx env S1 from by show (dE tab call e env S).st env _ = _; rw [h]; rfl]
  rfl
theorem step_if {t : IC} {a b : ISs} (k : Bool) (h : dB tab call t env S = .ok k S1) : dSs tab call (.cons (.ife t a b) ss) env S = (if k then dSs tab call a env S1 else dSs tab call b env S1).seq fun env S => dSs tab call ss env S := by
  show (dS tab call (.ife t a b) env S).seq _ = _
  rw [show dS tab call (.ife t a b) env S = (if k then dSs tab call a env S1 else dSs tab call b env S1) from by show (dB tab call t env S).st env _ = _; rw [h]; rfl]
theorem step_ifF {t : IC} {a : ISs} (h : dB tab call t env S = .ok false S1) : dSs tab call (.cons (.ife t a .nil) ss) env S = dSs tab call ss env S1 := by
  rw [step_if false h]
  rfl
theorem step_for {k : ItK} {src : IEs} {many : Bool} {tg : List Nat} {body : ISs} {vs its : List Val} {w : Wk} {S2 : Store} (h : dEs tab call src env S = .ok vs S1) (h2 : items k vs S1 = .ok (its, w) S2) :
    dSs tab call (.cons (.for_ k src many tg body) ss) env S = (forL w many tg (fun env S => dSs tab call body env S) its env S2).seq fun env S => dSs tab call ss env S := by
  show (dS tab call (.for_ k src many tg body) env S).seq _ = _
  rw [show dS tab call (.for_ k src many tg body) env S = forL w many tg (fun env S => dSs tab call body env S) its env S2 from by
    show (dEs tab call src env S).st env _ = _
    rw [h]
    show (items k vs S1).st env _ = _
    rw [h2]
    rfl]
/-! .. where the store stays -/
theorem stay_set (v : Val) (h : dE tab call e env S = .ok v S) : dSs tab call (.cons (.set i e) ss) env S = dSs tab call ss (env.set i (some v)) S := step_set v h
theorem stay_if {t : IC} {a b : ISs} (k : Bool) (h : dB tab call t env S = .ok k S) : dSs tab call (.cons (.ife t a b) ss) env S = (if k then dSs tab call a env S else dSs tab call b env S).seq fun env S => dSs tab call ss env S := step_if k h
theorem stay_ifF {t : IC} {a : ISs} (h : dB tab call t env S = .ok false S) : dSs tab call (.cons (.ife t a .nil) ss) env S = dSs tab call ss env S := step_ifF h
@[simp] theorem dSs_nil : dSs tab call .nil env S = .nx env S := rfl
end
@[simp] theorem atL_2 (x y : T) (i : Int) (h : 0 ≤ i) (h2 : i < 2) : atL [x, y] i = some (if i = 0 then x else y) := by
  have : i = 0 ∨ i = 1 := by omega
  rcases this with rfl | rfl <;> rfl
@[simp] theorem atL_3 (x y z : T) (i : Int) (h : 0 ≤ i) (h2 : i < 3) : atL [x, y, z] i = some (if i = 0 then x else if i = 1 then y else z) := by
  have : i = 0 ∨ i = 1 ∨ i = 2 := by omega
  rcases this with rfl | rfl | rfl <;> rfl
@[simp] theorem ite_int (c : Prop) [Decidable c] (i j : Int) : (if c then T.int i else T.int j) = T.int (if c then i else j) := by split <;> rfl
theorem mod_bd (i : Int) {j : Int} (h : 0 < j) : 0 ≤ i % j ∧ i % j < j := ⟨Int.emod_nonneg _ (by omega), Int.emod_lt_of_pos _ h⟩
/-! ### impure defs -/
def resI (m : RS) : R Val := match m with
  | .nx _ S1 => .ok (.t .non) S1
  | .rt v S1 => .ok v S1
  | .ex x _ S1 => .ex x S1
  | _ => .bad
@[simp] theorem resI_nx (env : Env) (S1 : Store) : resI (.nx env S1) = .ok (.t .non) S1 := rfl
@[simp] theorem resI_rt (v : Val) (S1 : Store) : resI (.rt v S1) = .ok v S1 := rfl
@[simp] theorem resI_ex (x : Exn) (env : Env) (S1 : Store) : resI (.ex x env S1) = .ex x S1 := rfl
@[simp] theorem resI_ite {c : Prop} [Decidable c] (a b : RS) : resI (if c then a else b) = if c then resI a else resI b := by split <;> rfl
/-- a call of a def that runs in its caller's store -/
theorem callI {tab : Tab} {n f np ns : Nat} {hh : Bool} {ss : ISs} (xs : List Val) (env : Env) {S : Store} (h : tab.fn f = some ⟨false, np, ns, [], ss, hh⟩) (hl : xs.length = np)
    (he : xs.map some ++ List.replicate (ns - np) none = env) : callF tab (n + 1) f xs S = resI (dSs tab (callF tab n) ss env S) := by
  subst he
  rw [callF_d h rfl]
  unfold runFn
  rw [if_pos hl]
  rfl
/-! ### lists -/
@[simp] theorem allT_map (xs : List T) : allT (xs.map .t) = some xs := by
  induction xs with
  | nil => rfl
  | cons x xs ih =>
    show (allT (xs.map .t)).map (x :: ·) = _
    rw [ih]
    rfl
theorem alloc_t (xs : List T) (S : Store) (h : xs.length ≤ szLine) : alloc false (xs.map .t) S = .ok (.t (.lst xs)) S := by
  rw [alloc_f _ _ (by rw [List.length_map]; exact h), allT_map]
  rfl
theorem alloc_r (vs : List Val) (S : Store) (h : vs.length ≤ szLine) : alloc true vs S = .ok (.r S.length) (S ++ [.lst vs]) := by
  unfold alloc
  rw [if_pos h]
  rfl
@[simp] theorem binV_cat (xs ys : List T) (S : Store) : binV .Add (.t (.lst xs)) (.t (.lst ys)) S = alloc false ((xs ++ ys).map .t) S := by
  show alloc false (xs.map .t ++ ys.map .t) S = _
  rw [← List.map_append]
theorem rep_map (xs : List T) (k : Nat) : (List.replicate k (xs.map Val.t)).flatten = (List.replicate k xs).flatten.map .t := by
  induction k with
  | zero => rfl
  | succ k ih => rw [List.replicate_succ, List.flatten_cons, ih, List.replicate_succ, List.flatten_cons, List.map_append]
theorem binV_rep (xs : List T) (k : Int) (S : Store) (h : -9223372036854775808 < k) (h2 : k < 9223372036854775808) : binV .Mult (.t (.lst xs)) (.t (.int k)) S = alloc false ((List.replicate k.toNat xs).flatten.map .t) S := by
  show (if k.natAbs < 9223372036854775808 then alloc false (List.replicate k.toNat (xs.map Val.t)).flatten S else _) = _
  rw [if_pos (by omega), rep_map]
theorem binL_rep (m : Bool) (xs : List T) (k : Int) (S : Store) (h : -9223372036854775808 < k) (h2 : k < 9223372036854775808) : binL m .Mult (.t (.lst xs)) (.t (.int k)) S = alloc m ((List.replicate k.toNat xs).flatten.map .t) S := by
  show (if k.natAbs < 9223372036854775808 then alloc m (List.replicate k.toNat (xs.map Val.t)).flatten S else _) = _
  rw [if_pos (by omega), rep_map]
@[simp] theorem okW_none (S : Store) : okW none S := trivial
/-- a comprehension's loop whose turns leave the store -/
theorem compL_gen {w : Wk} {α : Type} {f : Val → Store → R (Option Val)} {S : Store} (hw : okW w S) (vv : α → Val) (gg : α → Val) (pp : α → Bool) : ∀ (l : List α) (acc : List Val), (∀ x ∈ l, f (vv x) S = .ok (if pp x then some (gg x) else none) S) → acc.length + l.length ≤ szLine →
    compL w f (l.map vv) acc S = .ok (acc ++ (l.filter pp).map gg) S
  | [], acc, _, _ => by
    rw [List.map_nil, compL_nil hw, List.filter_nil, List.map_nil, List.append_nil]
  | x :: l, acc, h, hl => by
    rw [List.length_cons] at hl
    rw [List.map_cons, compL_cons hw, h x List.mem_cons_self]
    cases q : pp x with
    | false =>
      show compL w f (l.map vv) acc S = _
      rw [compL_gen hw vv gg pp l acc (fun y hy => h y (List.mem_cons_of_mem _ hy)) (by omega), List.filter_cons_of_neg (by rw [q]; decide)]
    | true =>
      show (if acc.length < szLine then compL w f (l.map vv) (acc ++ [gg x]) S else .bad) = _
      rw [if_pos (by omega), compL_gen hw vv gg pp l (acc ++ [gg x]) (fun y hy => h y (List.mem_cons_of_mem _ hy)) (by rw [List.length_append, List.length_singleton]; omega), List.filter_cons_of_pos q, List.map_cons, List.append_assoc]
      rfl
theorem bind_as {α β γ : Type} (m : R α) (f : α → Store → R β) (g : β → Store → R γ) : (m.bind fun a S => (f a S).bind g) = (m.bind f).bind g := by cases m <;> rfl
/-- a comprehension whose parts leave the store -/
theorem comp_V {α : Type} {tab : Tab} {call : Call} {m : Bool} {kk : ItK} {src : IEs} {many : Bool} {tg : List Nat} {ifs : ICs} {elt : IE} {env : Env} {S : Store} {w : Wk} (xs : List α) (vv : α → Val) (gg : α → Val) (pp : α → Bool) (hz : xs.length ≤ szLine)
    (hs : (dEs tab call src env S).bind (fun vs S => items kk vs S) = .ok (xs.map vv, w) S) (hw : okW w S) (hf : ∀ x ∈ xs, ∃ env2, target many tg (vv x) (wipeE env tg) S = some env2 ∧ dAnd tab call ifs env2 S = .ok (pp x) S ∧ (pp x = true → dE tab call elt env2 S = .ok (gg x) S)) :
    dE tab call (.comp m kk src many tg ifs elt) env S = alloc m ((xs.filter pp).map gg) S := by
  show ((dEs tab call src env S).bind fun vs S => (items kk vs S).bind fun its S => (compL its.2 (compF tab call env many tg ifs elt) its.1 [] S).bind fun ys S => alloc m ys S) = _
  rw [bind_as (dEs tab call src env S) (fun vs S => items kk vs S), hs]
  show (compL w (compF tab call env many tg ifs elt) (xs.map vv) [] S).bind _ = _
  rw [compL_gen hw vv gg pp xs [] (fun x hx => ?_) (by simpa using hz)]
  · rfl
  · obtain ⟨env2, h1, h2, h3⟩ := hf x hx
    show (match target many tg (vv x) (wipeE env tg) S with
      | some env2 => (dAnd tab call ifs env2 S).bind fun k S => if k then (dE tab call elt env2 S).bind fun y S => .ok (some y) S else .ok none S
      | none => .bad) = _
    rw [h1]
    show (dAnd tab call ifs env2 S).bind _ = _
    rw [h2]
    cases q : pp x with
    | false => rfl
    | true =>
      show (dE tab call elt env2 S).bind _ = _
      rw [h3 q]
      rfl
/-- a comprehension of trees -/
theorem comp_some {α : Type} {tab : Tab} {call : Call} {kk : ItK} {src : IEs} {many : Bool} {tg : List Nat} {ifs : ICs} {elt : IE} {env : Env} {S : Store} {w : Wk} (xs : List α) (vv : α → Val) (gg : α → T) (pp : α → Bool) (hz : xs.length ≤ szLine)
    (hs : (dEs tab call src env S).bind (fun vs S => items kk vs S) = .ok (xs.map vv, w) S) (hw : okW w S) (hf : ∀ x ∈ xs, ∃ env2, target many tg (vv x) (wipeE env tg) S = some env2 ∧ dAnd tab call ifs env2 S = .ok (pp x) S ∧ (pp x = true → dE tab call elt env2 S = .ok (.t (gg x)) S)) :
    dE tab call (.comp false kk src many tg ifs elt) env S = .ok (.t (.lst ((xs.filter pp).map gg))) S := by
  rw [comp_V xs vv (fun x => .t (gg x)) pp hz hs hw hf]
  show alloc false ((xs.filter pp).map (Val.t ∘ gg)) S = _
  rw [← List.map_map, alloc_t]
  rw [List.length_map]
  exact Nat.le_trans (List.length_filter_le _ _) hz
theorem comp_map {α : Type} {tab : Tab} {call : Call} {kk : ItK} {src : IEs} {many : Bool} {tg : List Nat} {elt : IE} {env : Env} {S : Store} (xs : List α) (vv : α → Val) (gg : α → T) (hz : xs.length ≤ szLine)
    {w : Wk} (hs : (dEs tab call src env S).bind (fun vs S => items kk vs S) = .ok (xs.map vv, w) S) (hw : okW w S) (hf : ∀ x ∈ xs, ∃ env2, target many tg (vv x) (wipeE env tg) S = some env2 ∧ dE tab call elt env2 S = .ok (.t (gg x)) S) :
    dE tab call (.comp false kk src many tg .nil elt) env S = .ok (.t (.lst (xs.map gg))) S := by
  have z := comp_some (tab := tab) (call := call) (kk := kk) (src := src) (many := many) (tg := tg) (ifs := .nil) (elt := elt) (env := env) (S := S) xs vv gg (fun _ => true) hz hs hw (fun x hx => by
    obtain ⟨env2, h1, h2⟩ := hf x hx
    exact ⟨env2, h1, rfl, fun _ => h2⟩)
  rw [List.filter_eq_self.mpr (fun _ _ => rfl)] at z
  exact z
/-! alike -/
mutual
theorem py_refl : ∀ (x : T) (d : PyData), x.py = some d → PyData.eqv d d = true
  | .non, _, e => by cases e; rfl
  | .bl b, _, e => by cases e; show (b == b) = true; exact beq_self_eq_true b
  | .int i, _, e => by cases e; show (i == i) = true; exact beq_self_eq_true i
  | .str z, _, e => by cases e; show (z == z) = true; exact beq_self_eq_true z
  | .tup xs, _, e => by
    obtain ⟨ds, e2, e3⟩ := Option.map_eq_some_iff.mp (show (T.pys xs).map PyData.tuple = some _ from e)
    subst e3
    exact pys_refl xs ds e2
  | .lst xs, _, e => by
    obtain ⟨ds, e2, e3⟩ := Option.map_eq_some_iff.mp (show (T.pys xs).map PyData.list = some _ from e)
    subst e3
    exact pys_refl xs ds e2
  | .scr ns, _, e => by
    cases e
    show PyData.eqvAll (ns.map PyData.int) (ns.map PyData.int) = true
    induction ns with
    | nil => rfl
    | cons n ns ih =>
      show ((n == n) && PyData.eqvAll (ns.map PyData.int) (ns.map PyData.int)) = true
      rw [ih, beq_self_eq_true]
      rfl
  | .ins _ _, _, e => by cases e
  | .dct _, _, e => by cases e
  | .fn _, _, e => by cases e
theorem pys_refl : ∀ (xs : List T) (ds : List PyData), T.pys xs = some ds → PyData.eqvAll ds ds = true
  | [], _, e => by cases e; rfl
  | x :: xs, ds, e => by
    have e1 : (match T.py x with
      | some d => (T.pys xs).map (d :: ·)
      | none => none) = some ds := e
    cases q : T.py x with
    | none => rw [q] at e1; cases e1
    | some d =>
      rw [q] at e1
      obtain ⟨es, e2, e3⟩ := Option.map_eq_some_iff.mp e1
      subst e3
      show (PyData.eqv d d && PyData.eqvAll es es) = true
      rw [py_refl x d q, pys_refl xs es e2]
      rfl
end
theorem eqT_refl {x : T} {d : PyData} (h : x.py = some d) (hd : d.depth ≤ 60) : eqT x x = some true := by
  unfold eqT
  rw [h]
  show (if min d.depth d.depth ≤ 60 then some (PyData.eqv d d) else none) = _
  rw [if_pos (by omega), py_refl x d h]
theorem depth_ints (ns : List Int) : PyData.depthAll (ns.map .int) = 0 := by
  induction ns with
  | nil => rfl
  | cons n ns ih =>
    show max 0 (PyData.depthAll (ns.map .int)) = 0
    rw [ih]
    rfl
theorem eqT_lst_nil {xs : List T} {ds : List PyData} (h : T.pys xs = some ds) : eqT (.lst xs) (.lst []) = some xs.isEmpty := by
  have e1 : (T.lst xs).py = some (.list ds) := by
    show (T.pys xs).map PyData.list = _
    rw [h]
    rfl
  unfold eqT
  rw [e1]
  show (if min (PyData.depthAll ds + 1) (0 + 1) ≤ 60 then some (PyData.eqvAll ds []) else none) = _
  rw [if_pos (by omega)]
  cases xs with
  | nil => cases h; rfl
  | cons x xs =>
    have h1 : (match T.py x with
      | some d => (T.pys xs).map (d :: ·)
      | none => none) = some ds := h
    cases q : T.py x with
    | none => rw [q] at h1; cases h1
    | some d =>
      rw [q] at h1
      obtain ⟨es, e2, e3⟩ := Option.map_eq_some_iff.mp h1
      subst e3
      rfl
theorem pys_map {α : Type} (f : α → T) (g : α → PyData) (h : ∀ a, (f a).py = some (g a)) : ∀ l : List α, T.pys (l.map f) = some (l.map g)
  | [] => rfl
  | a :: l => by
    show (match (f a).py with
      | some d => (T.pys (l.map f)).map (d :: ·)
      | none => none) = _
    rw [h a, pys_map f g h l]
    rfl
theorem depth_map {α : Type} (g : α → PyData) (m : Nat) (h : ∀ a, (g a).depth ≤ m) : ∀ l : List α, PyData.depthAll (l.map g) ≤ m
  | [] => Nat.zero_le _
  | a :: l => by
    show max (g a).depth (PyData.depthAll (l.map g)) ≤ m
    have := h a
    have := depth_map g m h l
    omega
/-! builtins on lists -/
theorem allB_map (bs : List Bool) : allB ((bs.map T.bl).map .t) = some bs := by
  induction bs with
  | nil => rfl
  | cons b bs ih =>
    show (allB ((bs.map T.bl).map .t)).map (b :: ·) = _
    rw [ih]
    rfl
theorem blt_all {α : Type} (xs : List α) (p : α → Bool) (m : Bool) (S : Store) : bltV .all m [.t (.lst (xs.map fun x => T.bl (p x)))] S = .ok (.t (.bl (xs.all p))) S := by
  show ofT ((allB ((xs.map fun x => T.bl (p x)).map .t)).map fun bs => T.bl (bs.all id)) S = _
  rw [show (xs.map fun x => T.bl (p x)) = (xs.map p).map T.bl by rw [List.map_map]; rfl, allB_map]
  show R.ok (Val.t (.bl ((xs.map p).all id))) S = _
  rw [List.all_map]
  rfl
theorem blt_tuple (xs : List T) (m : Bool) (S : Store) (h : xs.length ≤ szLine) : bltV .tuple m [.t (.lst xs)] S = .ok (.t (.tup xs)) S := by
  show (if (xs.map Val.t).length ≤ szLine then ofT ((allT (xs.map .t)).map .tup) S else .bad) = _
  rw [if_pos (by rw [List.length_map]; exact h), allT_map]
  rfl
theorem dB_ands2 {tab : Tab} {call : Call} {c d : IC} {env : Env} {S : Store} {k : Bool} (h : dB tab call c env S = .ok true S) (h2 : dB tab call d env S = .ok k S) : dB tab call (.ands (.cons c (.cons d .nil))) env S = .ok k S := by
  show R.bind (dB tab call c env S) _ = _
  rw [h]
  show R.bind (dB tab call d env S) _ = _
  rw [h2]
  cases k <;> rfl
theorem dB_cmp {tab : Tab} {call : Call} {op : CmpOp} {a b : IE} {env : Env} {S : Store} {x y : T} {k : Bool} (h : dE tab call a env S = .ok (.t x) S) (h2 : dE tab call b env S = .ok (.t y) S) (h3 : cmpT op x y = some k) : dB tab call (.val (.cmp op a b)) env S = .ok k S := by
  show R.bind (R.bind (dE tab call a env S) _) _ = _
  rw [h]
  show R.bind (R.bind (dE tab call b env S) _) _ = _
  rw [h2]
  show R.bind (cmpV op (.t x) (.t y) S) _ = _
  rw [cmpV_t, h3]
  rfl
/-- a call of a builtin, its one argument known -/
theorem dE_blt {tab : Tab} {call : Call} {b : Blt} {m : Bool} {e : IE} {env : Env} {S S1 : Store} {v : Val} (h : dE tab call e env S = .ok v S1) : dE tab call (.blt b m (.cons e .nil)) env S = bltV b m [v] S1 := by
  show R.bind (R.bind (dE tab call e env S) _) _ = _
  rw [h]
  rfl
theorem rev_lst (xs : List T) (S : Store) (h : xs.length ≤ szLine) : revV false (.t (.lst xs)) S = .ok (.t (.lst xs.reverse)) S := by
  show alloc false (xs.map Val.t).reverse S = _
  rw [← List.map_reverse, alloc_t _ _ (by rw [List.length_reverse]; exact h)]
theorem cut_take {α : Type} (xs : List α) {k : Int} (h : 0 ≤ k) : cutL xs none (some k) = xs.take k.toNat := by
  have e1 : HT.sIx xs.length 0 none = 0 := rfl
  have e2 : HT.sIx xs.length xs.length (some k) = min k.toNat xs.length := by
    unfold HT.sIx
    simp only []
    split <;> omega
  unfold cutL
  rw [e1, e2, List.drop_zero, Nat.sub_zero]
  by_cases z : k.toNat ≤ xs.length
  · rw [Nat.min_eq_left z]
  · rw [Nat.min_eq_right (by omega), List.take_length, List.take_of_length_le (by omega)]
theorem slc_take (xs : List T) {k : Int} (S : Store) (h : 0 ≤ k) (hz : xs.length ≤ szLine) : slcV false (.t (.lst xs)) none (some k) S = .ok (.t (.lst (xs.take k.toNat))) S := by
  show alloc false (cutL (xs.map Val.t) none (some k)) S = _
  rw [cut_take _ h, ← List.map_take, alloc_t _ _ (by rw [List.length_take]; omega)]
theorem blt_listR (xs : List T) (S : Store) (h : xs.length ≤ szLine) : bltV .list true [.t (.lst xs)] S = .ok (.r S.length) (S ++ [.lst (xs.map .t)]) := alloc_r _ _ (by rw [List.length_map]; exact h)
theorem set_same {S : Store} {c : Nat} {x : Cell} (h : S[c]? = some x) : S.set c x = S := by
  have hl := (List.getElem?_eq_some_iff.mp h).1
  have e : S[c] = x := (List.getElem?_eq_some_iff.mp h).2
  rw [← e]
  exact List.set_getElem_self hl
theorem blt_list (xs : List T) (S : Store) (h : xs.length ≤ szLine) : bltV .list false [.t (.lst xs)] S = .ok (.t (.lst xs)) S := alloc_t xs S h
theorem blt_listT (xs : List T) (S : Store) (h : xs.length ≤ szLine) : bltV .list false [.t (.tup xs)] S = .ok (.t (.lst xs)) S := alloc_t xs S h
theorem blt_tupleT (xs : List T) (m : Bool) (S : Store) : bltV .tuple m [.t (.tup xs)] S = .ok (.t (.tup xs)) S := rfl
theorem blt_tupleR (xs : List T) (n : Nat) (m : Bool) (S : Store) (h : listV S (.r n) = some (xs.map .t)) (hz : xs.length ≤ szLine) : bltV .tuple m [.r n] S = .ok (.t (.tup xs)) S := by
  show (match Val.r n, listV S (.r n) with
    | .t (.tup xs), _ => R.ok (Val.t (.tup xs)) S
    | _, some vs => if vs.length ≤ szLine then ofT ((allT vs).map .tup) S else .bad
    | _, none => .bad) = _
  rw [h]
  show (if (xs.map Val.t).length ≤ szLine then ofT ((allT (xs.map .t)).map .tup) S else .bad) = _
  rw [if_pos (by rw [List.length_map]; exact hz), allT_map]
  rfl
theorem listV_r {S : Store} {n : Nat} {vs : List Val} (h : S[n]? = some (.lst vs)) : listV S (.r n) = some vs := by
  show (match S[n]? with
    | some (.lst vs) => some vs
    | _ => none) = _
  rw [h]
theorem fld_r {tab : Tab} {S : Store} {n c f : Nat} {fs : List (Nat × Val)} {v : Val} (h : S[n]? = some (.ins c fs)) (hb : fldB tab c f = true) (hv : fs.lookup f = some v) : fldV tab (.r n) f S = .ok v S := by
  show (match S[n]? with
    | some (.ins c fs) => if fldB tab c f then ofO (fs.lookup f) S else .bad
    | _ => .bad) = _
  rw [h]
  show (if fldB tab c f then ofO (fs.lookup f) S else .bad) = _
  rw [if_pos hb, hv]
  rfl
theorem len_r {S : Store} {n : Nat} {vs : List Val} (h : S[n]? = some (.lst vs)) : lenV (.r n) S = .ok (.t (.int vs.length)) S := by
  show (match S[n]? with
    | some (.lst vs) => R.ok (Val.t (.int vs.length)) S
    | _ => .bad) = _
  rw [h]
theorem sub_r {S : Store} {n : Nat} {vs : List Val} (h : S[n]? = some (.lst vs)) (i : Int) : subV (.r n) (.t (.int i)) S = ofO (atL vs i) S := by
  show (match S[n]? with
    | some (.lst vs) => ofO (atL vs i) S
    | some (.dct kvs) => ofO (lookK kvs (.inl i)) S
    | _ => .bad) = _
  rw [h]
theorem setS_r {S : Store} {n j : Nat} {vs : List Val} {i : Int} {v : Val} (h : S[n]? = some (.lst vs)) (hi : ix vs.length i = some j) : setSV (.r n) (.t (.int i)) v S = some (S.set n (.lst (vs.set j v))) := by
  show (match S[n]? with
    | some (.lst ws) => (ix ws.length i).map fun j => S.set n (.lst (ws.set j v))
    | some (.dct kvs) => if kvs.length < 1000 then some (S.set n (.dct (putKV kvs (.inl i) v))) else none
    | _ => none) = _
  rw [h]
  show (ix vs.length i).map _ = _
  rw [hi]
  rfl
theorem ix_mod {n : Nat} (h : 0 < n) (i : Int) : ix n (i % n) = some (i % n).toNat := by
  have := mod_bd i (j := n) (by omega)
  unfold ix
  rw [if_pos this.1, if_pos this.2]
/-- a cell of the store: its place -/
@[simp] theorem get_len (S : Store) (c : Cell) : (S ++ [c])[S.length]? = some c := by simp
/-! loops -/
/-- a loop whose turns are counted -/
theorem forL_idx {w : Wk} {many : Bool} {tg : List Nat} {body : Env → Store → RS} (P : Nat → Env → Store → Prop) (hw : ∀ i env S, P i env S → okW w S) : ∀ (its : List Val) (j : Nat) (env : Env) (S : Store), P j env S →
    (∀ i v env S, its[i]? = some v → P (j + i) env S → ∃ env1 env2 S2, target many tg v env S = some env1 ∧ body env1 S = .nx env2 S2 ∧ P (j + i + 1) env2 S2) → ∃ env2 S2, forL w many tg body its env S = .nx env2 S2 ∧ P (j + its.length) env2 S2
  | [], j, env, S, h, _ => ⟨env, S, forL_nil (hw _ _ _ h), h⟩
  | v :: vs, j, env, S, h, hs => by
    obtain ⟨e1, e2, S2, t1, b1, p1⟩ := hs 0 v env S rfl h
    obtain ⟨e3, S3, f3, p3⟩ := forL_idx P hw vs (j + 1) e2 S2 p1 fun i w env S hw p => by
      have z := hs (i + 1) w env S (by simpa using hw) (by rw [show j + (i + 1) = j + 1 + i by omega]; exact p)
      rw [show j + (i + 1) + 1 = j + 1 + i + 1 by omega] at z
      exact z
    refine ⟨e3, S3, ?_, by rw [List.length_cons, show j + (vs.length + 1) = j + 1 + vs.length by omega]; exact p3⟩
    rw [forL_cons (hw _ _ _ h), t1]
    show (match body e1 S with
        | .nx env2 S2 => forL w many tg body vs env2 S2
        | .ct env2 S2 => forL w many tg body vs env2 S2
        | .bk env2 S2 => .nx env2 S2
        | m => m) = _
    rw [b1]
    exact f3
/-- a loop that always goes on -/
theorem forL_keep {many : Bool} {tg : List Nat} {body : Env → Store → RS} (P : Env → Store → Prop) (its : List Val) (env : Env) (S : Store) (h : P env S)
    (hs : ∀ v ∈ its, ∀ env S, P env S → ∃ env1 env2 S2, target many tg v env S = some env1 ∧ body env1 S = .nx env2 S2 ∧ P env2 S2) : ∃ env2 S2, forL none many tg body its env S = .nx env2 S2 ∧ P env2 S2 :=
  forL_idx (fun _ => P) (fun _ _ S _ => okW_none S) its 0 env S h fun i v env S hi p => hs v (List.mem_of_getElem? hi) env S p
theorem mem_rng {lo hi : Int} {v : Val} (h : v ∈ rng lo hi) : ∃ k : Int, v = .t (.int k) ∧ lo ≤ k ∧ k < hi := by
  unfold rng at h
  obtain ⟨i, hi2, e⟩ := List.mem_map.mp h
  rw [List.mem_range] at hi2
  exact ⟨lo + (i : Int), e.symm, by omega, by omega⟩
@[simp] theorem items_rng1 (n : Int) (S : Store) (h : rngOk n = true) : items .range [.t (.int n)] S = .ok (rng 0 n, none) S := if_pos h
@[simp] theorem items_rng2 (a b : Int) (S : Store) (h : (rngOk a && rngOk b) = true) : items .range [.t (.int a), .t (.int b)] S = .ok (rng a b, none) S := if_pos h
theorem rngOk_of {i : Int} (h : -4611686018427387904 < i) (h2 : i < 4611686018427387904) : rngOk i = true := by
  unfold rngOk
  exact decide_eq_true (by omega)
end Rw

namespace Rw
open PySem PySem.Spec PyProof.Rows L2
/-! ### pieces of the store that stand apart -/
abbrev Fr : Type := List (Nat × Cell)
structure Hs (S : Store) (h : Fr) : Prop where
  at_ : ∀ p ∈ h, S[p.1]? = some p.2
  nd : (h.map (·.1)).Nodup
theorem Hs.get {S : Store} {h : Fr} (H : Hs S h) {i : Nat} {c : Cell} (m : (i, c) ∈ h) : S[i]? = some c := H.at_ _ m
theorem Hs.lt {S : Store} {h : Fr} (H : Hs S h) {p : Nat × Cell} (m : p ∈ h) : p.1 < S.length := (List.getElem?_eq_some_iff.mp (H.at_ p m)).1
theorem Hs.perm {S : Store} {h h' : Fr} (H : Hs S h) (p : h.Perm h') : Hs S h' := ⟨fun q m => H.at_ q (p.mem_iff.mpr m), (p.map _).nodup_iff.mp H.nd⟩
theorem Hs.push {S : Store} {h : Fr} (H : Hs S h) (c : Cell) : Hs (S ++ [c]) ((S.length, c) :: h) := by
  refine ⟨fun p m => ?_, ?_⟩
  · rcases List.mem_cons.mp m with e | m
    · subst e
      exact get_len S c
    · rw [List.getElem?_append_left (H.lt m)]
      exact H.at_ p m
  · rw [List.map_cons, List.nodup_cons]
    refine ⟨fun m => ?_, H.nd⟩
    obtain ⟨p, hp, e⟩ := List.mem_map.mp m
    have := H.lt hp
    omega
theorem Hs.more {S : Store} {h : Fr} (H : Hs S h) (T : Store) : Hs (S ++ T) h := ⟨fun p m => by rw [List.getElem?_append_left (H.lt m)]; exact H.at_ p m, H.nd⟩
theorem Hs.tail {S : Store} {p : Nat × Cell} {h : Fr} (H : Hs S (p :: h)) : Hs S h := ⟨fun q m => H.at_ q (List.mem_cons_of_mem _ m), (List.nodup_cons.mp (by simpa using H.nd)).2⟩
theorem Hs.left {S : Store} {a b : Fr} (H : Hs S (a ++ b)) : Hs S a := ⟨fun q m => H.at_ q (List.mem_append_left _ m), by
  have := H.nd
  rw [List.map_append] at this
  exact (List.nodup_append.mp this).1⟩
theorem Hs.right {S : Store} {a b : Fr} (H : Hs S (a ++ b)) : Hs S b := ⟨fun q m => H.at_ q (List.mem_append_right _ m), by
  have := H.nd
  rw [List.map_append] at this
  exact (List.nodup_append.mp this).2.1⟩
/-- the k-th piece is changed -/
theorem Hs.setk {S : Store} {h : Fr} (H : Hs S h) (k : Nat) {i : Nat} {c : Cell} (e : h[k]? = some (i, c)) (c' : Cell) : Hs (S.set i c') (h.set k (i, c')) := by
  have hk := (List.getElem?_eq_some_iff.mp e).1
  have ek : h[k] = (i, c) := (List.getElem?_eq_some_iff.mp e).2
  have hi : i < S.length := H.lt (p := (i, c)) (ek ▸ List.getElem_mem hk)
  have keys : (h.set k (i, c')).map (·.1) = h.map (·.1) := by
    rw [List.map_set]
    have : (h.map (·.1))[k]? = some i := by rw [List.getElem?_map, e]; rfl
    obtain ⟨hk2, e2⟩ := List.getElem?_eq_some_iff.mp this
    have z := List.set_getElem_self (as := h.map (·.1)) hk2
    rw [e2] at z
    exact z
  refine ⟨fun p m => ?_, by rw [keys]; exact H.nd⟩
  obtain ⟨j, hj, ej⟩ := List.mem_iff_getElem.mp m
  rw [List.length_set] at hj
  rw [List.getElem_set] at ej
  split at ej
  · subst ej
    exact List.getElem?_set_self hi
  · rename_i hne
    have : p.1 ≠ i := fun z => by
      have nd := H.nd
      have h1 : (h.map (·.1))[j]? = some i := by rw [List.getElem?_map, List.getElem?_eq_getElem hj, ej]; exact congrArg some z
      have h2 : (h.map (·.1))[k]? = some i := by rw [List.getElem?_map, e]; rfl
      have hj' : j < (h.map (·.1)).length := by rw [List.length_map]; exact hj
      have this := List.pairwise_iff_getElem.mp (show (h.map (·.1)).Pairwise (· ≠ ·) from nd)
      have hk' : k < (h.map (·.1)).length := by rw [List.length_map]; exact hk
      have a1 := (List.getElem?_eq_some_iff.mp h1).2
      have a2 := (List.getElem?_eq_some_iff.mp h2).2
      rcases Nat.lt_trichotomy k j with q | q | q
      · exact this k j hk' hj' q (a2.trans a1.symm)
      · exact hne q
      · exact this j k hj' hk' q (a1.trans a2.symm)
    rw [List.getElem?_set_ne (fun z => this z.symm)]
    exact H.at_ p (ej ▸ List.getElem_mem hj)
/-- pieces picked by their places -/
theorem Hs.sel {S : Store} {A X : Fr} (H : Hs S (A ++ X)) : ∀ (is : List Nat), is.Nodup → Hs S (is.filterMap (fun i => A[i]?) ++ X)
  | [], _ => H.right
  | i :: is, hn => by
    obtain ⟨h1, h2⟩ := List.nodup_cons.mp hn
    have ih := Hs.sel H is h2
    cases e : A[i]? with
    | none =>
      rw [List.filterMap_cons, e]
      exact ih
    | some p =>
      rw [List.filterMap_cons, e]
      obtain ⟨hi, ei⟩ := List.getElem?_eq_some_iff.mp e
      have mA : p ∈ A := ei ▸ List.getElem_mem hi
      refine ⟨fun q m => ?_, ?_⟩
      · rcases List.mem_cons.mp m with z | m
        · subst z
          exact H.at_ _ (List.mem_append_left _ mA)
        · exact ih.at_ q m
      · rw [List.cons_append, List.map_cons, List.nodup_cons]
        refine ⟨fun m => ?_, ih.nd⟩
        obtain ⟨q, hq, eq⟩ := List.mem_map.mp m
        have nd := H.nd
        rw [List.map_append] at nd
        obtain ⟨na, nx, dj⟩ := List.nodup_append.mp nd
        rcases List.mem_append.mp hq with hq | hq
        · obtain ⟨j, hj, ej⟩ := List.mem_filterMap.mp hq
          have hij : i ≠ j := fun z => h1 (z ▸ hj)
          obtain ⟨hj2, ej2⟩ := List.getElem?_eq_some_iff.mp ej
          have this := List.pairwise_iff_getElem.mp (show (A.map (·.1)).Pairwise (· ≠ ·) from na)
          have b1 : i < (A.map (·.1)).length := by rw [List.length_map]; exact hi
          have b2 : j < (A.map (·.1)).length := by rw [List.length_map]; exact hj2
          have a1 : (A.map (·.1))[i] = p.1 := by rw [List.getElem_map, ei]
          have a2 : (A.map (·.1))[j] = q.1 := by rw [List.getElem_map, ej2]
          rcases Nat.lt_or_gt_of_ne hij with z | z
          · exact this i j b1 b2 z (a1.trans (eq.symm.trans a2.symm))
          · exact this j i b2 b1 z (a2.trans (eq.trans a1.symm))
        · exact dj p.1 (List.mem_map.mpr ⟨p, mA, rfl⟩) q.1 (List.mem_map.mpr ⟨q, hq, rfl⟩) eq.symm
/-! the cells by which objects are read and written -/
theorem fld_h {tab : Tab} {S : Store} {n c f : Nat} {fs : List (Nat × Val)} {v : Val} (h : S[n]? = some (.ins c fs)) (hb : fldB tab c f = true) (hv : fs.lookup f = some v) : fldV tab (.r n) f S = .ok v S := fld_r h hb hv
theorem setF_h {tab : Tab} {S : Store} {n c f : Nat} {fs : List (Nat × Val)} {v : Val} (h : S[n]? = some (.ins c fs)) (hb : fldB tab c f = true) (hl : fs.length < 1000) : setFV tab (.r n) f v S = some (S.set n (.ins c (putN f v fs))) := by
  show (match S[n]? with
    | some (.ins c fs) => if fldB tab c f && decide (fs.length < 1000) then some (S.set n (.ins c (putN f v fs))) else none
    | _ => none) = _
  rw [h]
  show (if fldB tab c f && decide (fs.length < 1000) then _ else none) = _
  rw [hb, decide_eq_true hl]
  rfl
theorem meth_h {tab : Tab} {S : Store} {n c f g m : Nat} {fs : List (Nat × Val)} (h : S[n]? = some (.ins c fs)) (hn : fs.lookup f = none) (hg : ((tab.cl c).bind fun k => k.meths.lookup f) = some g) (ha : arity tab g m = true) :
    methV tab f m (.r n) S = .ok g S := by
  show (match S[n]? with
    | some (.ins c fs) => if (fs.lookup f).isNone then ariV tab m ((tab.cl c).bind fun k => k.meths.lookup f) S else .bad
    | _ => .bad) = _
  rw [h]
  show (if (fs.lookup f).isNone then ariV tab m ((tab.cl c).bind fun k => k.meths.lookup f) S else .bad) = _
  rw [hn, hg]
  show (if arity tab g m then R.ok g S else .bad) = _
  rw [if_pos ha]
theorem pop_h {S : Store} {n : Nat} {ws : List Val} {v : Val} (h : S[n]? = some (.lst ws)) (hv : ws[ws.length - 1]? = some v) : bmV .pop (.r n) [] S = .ok v (S.set n (.lst ws.dropLast)) := by
  show (match S[n]? with
    | some (.lst ws) => (match ws[ws.length - 1]? with
        | some v => R.ok v (S.set n (.lst ws.dropLast))
        | none => .bad)
    | _ => .bad) = _
  rw [h]
  show (match ws[ws.length - 1]? with
        | some v => R.ok v (S.set n (.lst ws.dropLast))
        | none => .bad) = _
  rw [hv]
theorem cellB_h {S : Store} {n : Nat} {ws : List Val} (h : S[n]? = some (.lst ws)) : cellB (.r n) S = true := by
  show (match S[n]? with
    | some (.lst _) => true
    | _ => false) = _
  rw [h]
theorem app_h {S : Store} {n : Nat} {ws : List Val} {v : Val} (h : S[n]? = some (.lst ws)) (hl : ws.length < szLine) : bmV .append (.r n) [v] S = .ok (Val.t .non) (S.set n (.lst (ws ++ [v]))) := by
  show (match S[n]? with
    | some (.lst ws) => if ws.length < szLine then R.ok (Val.t .non) (S.set n (.lst (ws ++ [v]))) else .bad
    | _ => .bad) = _
  rw [h]
  exact if_pos hl
theorem items_h {S : Store} {n : Nat} {ws : List Val} (h : S[n]? = some (.lst ws)) : items .seq [.r n] S = .ok (ws, some (n, ws)) S := by
  show (match S[n]? with
    | some (.lst ws) => R.ok (ws, some (n, ws)) S
    | _ => .bad) = _
  rw [h]
theorem sub_h {S : Store} {n : Nat} {vs : List Val} {i : Int} {v : Val} (h : S[n]? = some (.lst vs)) (hv : atL vs i = some v) : subV (.r n) (.t (.int i)) S = .ok v S := by
  rw [sub_r h, hv]
  rfl
theorem ix_nat {n : Nat} {i : Int} (h : 0 ≤ i) (h2 : i < n) : ix n i = some i.toNat := by
  unfold ix
  rw [if_pos h, if_pos h2]
theorem setS_h {S : Store} {n : Nat} {vs : List Val} {i : Int} {v : Val} (h : S[n]? = some (.lst vs)) (h0 : 0 ≤ i) (h1 : i < vs.length) : setSV (.r n) (.t (.int i)) v S = some (S.set n (.lst (vs.set i.toNat v))) := setS_r h (ix_nat h0 h1)
theorem lstV_h {S : Store} {n : Nat} {vs : List Val} (h : S[n]? = some (.lst vs)) : lstV S (.r n) = some vs := by
  show (match S[n]? with
    | some (.lst vs) => some vs
    | _ => none) = _
  rw [h]
theorem cut_two {α : Type} (xs : List α) {k : Int} (h0 : 0 ≤ k) (h1 : k + 4 ≤ xs.length) : cutL xs (some k) (some (k + 4)) = (xs.drop k.toNat).take 4 := by
  unfold cutL
  have e1 : HT.sIx xs.length 0 (some k) = k.toNat := by
    unfold HT.sIx
    simp only []
    split <;> omega
  have e2 : HT.sIx xs.length xs.length (some (k + 4)) = k.toNat + 4 := by
    unfold HT.sIx
    simp only []
    split <;> omega
  rw [e1, e2, Nat.add_sub_cancel_left]
theorem slc_two (xs : List T) (k : Int) (S : Store) (h0 : 0 ≤ k) (h1 : k + 4 ≤ xs.length) (hz : xs.length ≤ szLine) : slcV false (.t (.lst xs)) (some k) (some (k + 4)) S = .ok (.t (.lst ((xs.drop k.toNat).take 4))) S := by
  show alloc false (cutL (xs.map Val.t) (some k) (some (k + 4))) S = _
  rw [cut_two _ h0 (by rw [List.length_map]; exact h1), ← List.map_drop, ← List.map_take, alloc_t _ _ (by rw [List.length_take]; omega)]
theorem cut_drop {α : Type} (xs : List α) {k : Int} (h : 0 ≤ k) (h1 : k ≤ xs.length) : cutL xs (some k) none = xs.drop k.toNat := by
  unfold cutL
  have e1 : HT.sIx xs.length 0 (some k) = k.toNat := by
    unfold HT.sIx
    simp only []
    split <;> omega
  have e2 : HT.sIx xs.length xs.length none = xs.length := rfl
  rw [e1, e2, List.take_of_length_le (by rw [List.length_drop]; omega)]
theorem slc_drop (xs : List T) {k : Int} (S : Store) (h : 0 ≤ k) (h1 : k ≤ xs.length) (hz : xs.length ≤ szLine) : slcV false (.t (.lst xs)) (some k) none S = .ok (.t (.lst (xs.drop k.toNat))) S := by
  show alloc false (cutL (xs.map Val.t) (some k) none) S = _
  rw [cut_drop _ h (by rw [List.length_map]; exact h1), ← List.map_drop, alloc_t _ _ (by rw [List.length_drop]; omega)]
end Rw

namespace Rw
open PySem PySem.Spec PyProof.Rows L2
/-! ### how a term is told, part by part: the store is handed on -/
section
variable {tab : Tab} {call : Call} {env : Env} {S S1 S2 S3 S4 : Store} {a b c e : IE} {es : IEs} {v w x y z : Val} {vs ws : List Val} {k k1 k2 : Bool}
theorem ev_var {i : Nat} (h : env[i]? = some (some v)) : dE tab call (.var i) env S = .ok v S := by
  show (match env[i]? with
    | some (some v) => R.ok v S
    | _ => .bad) = _
  rw [h]
theorem ev_con (t : T) : dE tab call (.con t) env S = .ok (.t t) S := rfl
theorem ev_glob {g : Nat} {t : T} (h : tab.con g = some t) : dE tab call (.glob g) env S = .ok (.t t) S := by
  show ofT (tab.con g) S = _
  rw [h]
  rfl
theorem ev_bin {op : Operator} {r : R Val} (h1 : dE tab call a env S = .ok x S1) (h2 : dE tab call b env S1 = .ok y S2) (h3 : binV op x y S2 = r) : dE tab call (.bin op a b) env S = r := by
  show (dE tab call a env S).bind _ = _
  rw [h1]
  show (dE tab call b env S1).bind _ = _
  rw [h2]
  exact h3
theorem ev_binM {op : Operator} {r : R Val} (h1 : dE tab call a env S = .ok x S1) (h2 : dE tab call b env S1 = .ok y S2) (h3 : binL true op x y S2 = r) : dE tab call (.binM op a b) env S = r := by
  show (dE tab call a env S).bind _ = _
  rw [h1]
  show (dE tab call b env S1).bind _ = _
  rw [h2]
  exact h3
theorem ev_neg {i : Int} (h1 : dE tab call a env S = .ok (.t (.int i)) S1) : dE tab call (.neg a) env S = .ok (.t (.int (-i))) S1 := by
  show (dE tab call a env S).bind _ = _
  rw [h1]
  rfl
theorem ev_cmp {op : CmpOp} {r : R Val} (h1 : dE tab call a env S = .ok x S1) (h2 : dE tab call b env S1 = .ok y S2) (h3 : cmpV op x y S2 = r) : dE tab call (.cmp op a b) env S = r := by
  show (dE tab call a env S).bind _ = _
  rw [h1]
  show (dE tab call b env S1).bind _ = _
  rw [h2]
  exact h3
theorem ev_cmp2 {o p : CmpOp} (h1 : dE tab call a env S = .ok x S1) (h2 : dE tab call b env S1 = .ok y S2) (h3 : cmpV o x y S2 = .ok (.t (.bl k1)) S2) (h4 : dE tab call c env S2 = .ok z S2) (h5 : cmpV p y z S2 = .ok (.t (.bl k2)) S2) : dE tab call (.cmp2 o p a b c) env S = .ok (.t (.bl (k1 && k2))) S2 := by
  show (dE tab call a env S).bind _ = _
  rw [h1]
  show (dE tab call b env S1).bind _ = _
  rw [h2]
  show (cmpV o x y S2).bind _ = _
  rw [h3]
  show (if k1 then (dE tab call c env S2).bind fun w S => cmpV p y w S else .ok (.t (.bl false)) S2) = _
  cases k1 with
  | true =>
    show (dE tab call c env S2).bind _ = _
    rw [h4]
    exact h5
  | false => rfl
theorem ev_not (h1 : dE tab call a env S = .ok (.t (.bl k)) S1) : dE tab call (.not a) env S = .ok (.t (.bl (!k))) S1 := by
  show (dE tab call a env S).bind _ = _
  rw [h1]
  rfl
theorem ev_and1 {r : R Val} (h : dE tab call e env S = r) : dE tab call (.ands (.cons e .nil)) env S = r := h
theorem ev_andT {r : R Val} {f : IE} {fs : IEs} (h : dE tab call e env S = .ok (.t (.bl true)) S1) (h2 : dE tab call (.ands (.cons f fs)) env S1 = r) : dE tab call (.ands (.cons e (.cons f fs))) env S = r := by
  show (dE tab call e env S).bind _ = _
  rw [h]
  exact h2
theorem ev_andF {f : IE} {fs : IEs} (h : dE tab call e env S = .ok (.t (.bl false)) S1) : dE tab call (.ands (.cons e (.cons f fs))) env S = .ok (.t (.bl false)) S1 := by
  show (dE tab call e env S).bind _ = _
  rw [h]
  rfl
theorem ev_and {f : IE} {fs : IEs} (h : dE tab call e env S = .ok (.t (.bl k1)) S1) (h2 : dE tab call (.ands (.cons f fs)) env S1 = .ok (.t (.bl k2)) S1) : dE tab call (.ands (.cons e (.cons f fs))) env S = .ok (.t (.bl (k1 && k2))) S1 := by
  cases k1 with
  | true => exact ev_andT h h2
  | false => exact ev_andF h
theorem ev_or1 {r : R Val} (h : dE tab call e env S = r) : dE tab call (.ors (.cons e .nil)) env S = r := h
theorem ev_orF {r : R Val} {f : IE} {fs : IEs} (h : dE tab call e env S = .ok (.t (.bl false)) S1) (h2 : dE tab call (.ors (.cons f fs)) env S1 = r) : dE tab call (.ors (.cons e (.cons f fs))) env S = r := by
  show (dE tab call e env S).bind _ = _
  rw [h]
  exact h2
theorem ev_orT {f : IE} {fs : IEs} (h : dE tab call e env S = .ok (.t (.bl true)) S1) : dE tab call (.ors (.cons e (.cons f fs))) env S = .ok (.t (.bl true)) S1 := by
  show (dE tab call e env S).bind _ = _
  rw [h]
  rfl
theorem ev_or {f : IE} {fs : IEs} (h : dE tab call e env S = .ok (.t (.bl k1)) S1) (h2 : dE tab call (.ors (.cons f fs)) env S1 = .ok (.t (.bl k2)) S1) : dE tab call (.ors (.cons e (.cons f fs))) env S = .ok (.t (.bl (k1 || k2))) S1 := by
  cases k1 with
  | true => exact ev_orT h
  | false => exact ev_orF h h2
theorem ev_ifeT {t : IC} {r : R Val} (h : dB tab call t env S = .ok true S1) (h2 : dE tab call a env S1 = r) : dE tab call (.ife t a b) env S = r := by
  show (dB tab call t env S).bind _ = _
  rw [h]
  exact h2
theorem ev_ifeF {t : IC} {r : R Val} (h : dB tab call t env S = .ok false S1) (h2 : dE tab call b env S1 = r) : dE tab call (.ife t a b) env S = r := by
  show (dB tab call t env S).bind _ = _
  rw [h]
  exact h2
theorem ev_ife {t : IC} (h : dB tab call t env S = .ok k S1) (h2 : dE tab call a env S1 = .ok v S2) (h3 : dE tab call b env S1 = .ok w S2) : dE tab call (.ife t a b) env S = .ok (if k then v else w) S2 := by
  cases k with
  | true => exact ev_ifeT h h2
  | false => exact ev_ifeF h h3
theorem ev_tup {r : R Val} (h : dEs tab call es env S = .ok vs S1) (h2 : (if vs.length ≤ szLine then tupV vs S1 else .bad) = r) : dE tab call (.tup es) env S = r := by
  show (dEs tab call es env S).bind _ = _
  rw [h]
  exact h2
theorem ev_lst {m : Bool} {r : R Val} (h : dEs tab call es env S = .ok vs S1) (h2 : dispL m vs S1 = r) : dE tab call (.lst m es) env S = r := by
  show (dEs tab call es env S).bind _ = _
  rw [h]
  exact h2
theorem ev_sub {r : R Val} (h1 : dE tab call a env S = .ok x S1) (h2 : dE tab call b env S1 = .ok y S2) (h3 : subV x y S2 = r) : dE tab call (.sub a b) env S = r := by
  show (dE tab call a env S).bind _ = _
  rw [h1]
  show (dE tab call b env S1).bind _ = _
  rw [h2]
  exact h3
theorem ev_slcU {m : Bool} {r : R Val} {i : Int} (h1 : dE tab call a env S = .ok x S1) (hn : isNo b = false) (h2 : dE tab call b env S1 = .ok (.t (.int i)) S2) (h3 : slcV m x none (some i) S2 = r) : dE tab call (.slc m a (.con .non) b) env S = r := by
  show (dE tab call a env S).bind _ = _
  rw [h1]
  show ((if isNo b then R.ok none S1 else (dE tab call b env S1).bind fun y S => optI y S)).bind _ = _
  rw [hn, if_neg Bool.false_ne_true, h2]
  exact h3
theorem ev_slcL {m : Bool} {r : R Val} {i : Int} (h1 : dE tab call a env S = .ok x S1) (hn : isNo b = false) (h2 : dE tab call b env S1 = .ok (.t (.int i)) S2) (h3 : slcV m x (some i) none S2 = r) : dE tab call (.slc m a b (.con .non)) env S = r := by
  show (dE tab call a env S).bind _ = _
  rw [h1]
  show ((if isNo b then R.ok none S1 else (dE tab call b env S1).bind fun y S => optI y S)).bind _ = _
  rw [hn, if_neg Bool.false_ne_true, h2]
  exact h3
theorem ev_slcB {m : Bool} {r : R Val} {i j : Int} (h1 : dE tab call a env S = .ok x S1) (hn : isNo b = false) (h2 : dE tab call b env S1 = .ok (.t (.int i)) S2) (hn2 : isNo c = false) (h4 : dE tab call c env S2 = .ok (.t (.int j)) S3) (h3 : slcV m x (some i) (some j) S3 = r) : dE tab call (.slc m a b c) env S = r := by
  show (dE tab call a env S).bind _ = _
  rw [h1]
  show ((if isNo b then R.ok none S1 else (dE tab call b env S1).bind fun y S => optI y S)).bind _ = _
  rw [hn, if_neg Bool.false_ne_true, h2]
  show ((if isNo c then R.ok none S2 else (dE tab call c env S2).bind fun y S => optI y S)).bind _ = _
  rw [hn2, if_neg Bool.false_ne_true, h4]
  exact h3
theorem ev_rev {m : Bool} {r : R Val} (h1 : dE tab call a env S = .ok x S1) (h2 : revV m x S1 = r) : dE tab call (.rev m a) env S = r := by
  show (dE tab call a env S).bind _ = _
  rw [h1]
  exact h2
theorem ev_fld {f : Nat} {r : R Val} (h1 : dE tab call a env S = .ok x S1) (h2 : fldV tab x f S1 = r) : dE tab call (.fld a f) env S = r := by
  show (dE tab call a env S).bind _ = _
  rw [h1]
  exact h2
theorem ev_call {f : Nat} {r : R Val} (h1 : dEs tab call es env S = .ok vs S1) (h2 : call f vs S1 = r) : dE tab call (.call f es) env S = r := by
  show (dEs tab call es env S).bind _ = _
  rw [h1]
  exact h2
theorem ev_new {c : Nat} {r : R Val} (h1 : dEs tab call es env S = .ok vs S1) (h2 : newV tab call c vs S1 = r) : dE tab call (.new c es) env S = r := by
  show (dEs tab call es env S).bind _ = _
  rw [h1]
  exact h2
theorem ev_meth {f g : Nat} {r : R Val} (h1 : dE tab call a env S = .ok x S1) (h2 : methV tab f (es.len + 1) x S1 = .ok g S2) (h3 : dEs tab call es env S2 = .ok vs S3) (h4 : call g (x :: vs) S3 = r) : dE tab call (.meth a f es) env S = r := by
  show (dE tab call a env S).bind _ = _
  rw [h1]
  show (methV tab f (es.len + 1) x S1).bind _ = _
  rw [h2]
  show (dEs tab call es env S2).bind _ = _
  rw [h3]
  exact h4
theorem ev_bm {q : BM} {m : Bool} {r : R Val} (h1 : dE tab call a env S = .ok x S1) (h2 : cellB x S1 = true) (h3 : dEs tab call es env S1 = .ok vs S2) (h4 : bmV q x vs S2 = r) : dE tab call (.bm q m a es) env S = r := by
  show (dE tab call a env S).bind _ = _
  rw [h1]
  show (if cellB x S1 then (dEs tab call es env S1).bind fun vs S => bmV q x vs S else .bad) = _
  rw [h2, if_pos rfl, h3]
  exact h4
theorem ev_blt {q : Blt} {m : Bool} {r : R Val} (h1 : dEs tab call es env S = .ok vs S1) (h2 : bltV q m vs S1 = r) : dE tab call (.blt q m es) env S = r := by
  show (dEs tab call es env S).bind _ = _
  rw [h1]
  exact h2
theorem ev_isi {m : Bool} {ts : List Ty} {r : R Val} (h1 : dE tab call a env S = .ok x S1) (h2 : isiV tab ts x S1 = r) : dE tab call (.isi a m ts) env S = r := by
  show (dE tab call a env S).bind _ = _
  rw [h1]
  exact h2
theorem ev_cix {g : Nat} {r : R Val} (h1 : dE tab call a env S = .ok x S1) (h2 : cixV (tab.con g) x S1 = r) : dE tab call (.cix g a) env S = r := by
  show (dE tab call a env S).bind _ = _
  rw [h1]
  exact h2
theorem ev_inRg {neg : Bool} {r : R Val} (h1 : dE tab call a env S = .ok x S1) (h2 : dE tab call b env S1 = .ok y S2) (h3 : inRgV neg x y S2 = r) : dE tab call (.inRg neg a b) env S = r := by
  show (dE tab call a env S).bind _ = _
  rw [h1]
  show (dE tab call b env S1).bind _ = _
  rw [h2]
  exact h3
theorem ev_lenSet {r : R Val} (h1 : dE tab call a env S = .ok x S1) (h2 : lenSetV x S1 = r) : dE tab call (.lenSet a) env S = r := by
  show (dE tab call a env S).bind _ = _
  rw [h1]
  exact h2
theorem ev_dct {m : Bool} {ks : List Key} {r : R Val} (h : dEs tab call es env S = .ok vs S1) (h2 : dctV m ks vs S1 = r) : dE tab call (.dctD m ks es) env S = r := by
  show (dEs tab call es env S).nob _ = _
  rw [h]
  exact h2
theorem ev_upd {o : IE} {r : R Val} (h1 : dE tab call o env S = .ok x S1) (h2 : dctB x S1 = true) (h3 : dE tab call a env S1 = .ok y S2) (h4 : updV x y S2 = r) : dE tab call (.upd o a) env S = r := by
  show (dE tab call o env S).bind _ = _
  rw [h1]
  show (if dctB x S1 then (dE tab call a env S1).bind fun y S => updV x y S else .bad) = _
  rw [h2, if_pos rfl, h3]
  exact h4
theorem evs_nil : dEs tab call .nil env S = .ok [] S := rfl
theorem evs_cons (h1 : dE tab call e env S = .ok v S1) (h2 : dEs tab call es env S1 = .ok vs S2) : dEs tab call (.cons e es) env S = .ok (v :: vs) S2 := by
  show (dE tab call e env S).bind _ = _
  rw [h1]
  show (dEs tab call es env S1).bind _ = _
  rw [h2]
  rfl
/-! tests -/
variable {t u : IC} {ts : ICs}
theorem evB_val (h : dE tab call e env S = .ok (.t (.bl k)) S1) : dB tab call (.val e) env S = .ok k S1 := by
  show (dE tab call e env S).bind _ = _
  rw [h]
  rfl
theorem evB_not (h : dB tab call t env S = .ok k S1) : dB tab call (.not t) env S = .ok (!k) S1 := by
  show (dB tab call t env S).bind _ = _
  rw [h]
  rfl
theorem evB_ands {r : R Bool} (h : dAnd tab call ts env S = r) : dB tab call (.ands ts) env S = r := h
theorem evB_ors {r : R Bool} (h : dOr tab call ts env S = r) : dB tab call (.ors ts) env S = r := h
theorem evA_nil : dAnd tab call .nil env S = .ok true S := rfl
theorem evA_T {r : R Bool} (h : dB tab call t env S = .ok true S1) (h2 : dAnd tab call ts env S1 = r) : dAnd tab call (.cons t ts) env S = r := by
  show (dB tab call t env S).bind _ = _
  rw [h]
  exact h2
theorem evA_F (h : dB tab call t env S = .ok false S1) : dAnd tab call (.cons t ts) env S = .ok false S1 := by
  show (dB tab call t env S).bind _ = _
  rw [h]
  rfl
theorem evA (h : dB tab call t env S = .ok k1 S1) (h2 : dAnd tab call ts env S1 = .ok k2 S1) : dAnd tab call (.cons t ts) env S = .ok (k1 && k2) S1 := by
  cases k1 with
  | true => exact evA_T h h2
  | false => exact evA_F h
/-- the last one: nothing is added -/
theorem evA_1 (h : dB tab call t env S = .ok k S1) : dAnd tab call (.cons t .nil) env S = .ok k S1 := by
  show (dB tab call t env S).bind _ = _
  rw [h]
  cases k <;> rfl
theorem evO_nil : dOr tab call .nil env S = .ok false S := rfl
theorem evO_F {r : R Bool} (h : dB tab call t env S = .ok false S1) (h2 : dOr tab call ts env S1 = r) : dOr tab call (.cons t ts) env S = r := by
  show (dB tab call t env S).bind _ = _
  rw [h]
  exact h2
theorem evO_T (h : dB tab call t env S = .ok true S1) : dOr tab call (.cons t ts) env S = .ok true S1 := by
  show (dB tab call t env S).bind _ = _
  rw [h]
  rfl
theorem evO (h : dB tab call t env S = .ok k1 S1) (h2 : dOr tab call ts env S1 = .ok k2 S1) : dOr tab call (.cons t ts) env S = .ok (k1 || k2) S1 := by
  cases k1 with
  | true => exact evO_T h
  | false => exact evO_F h h2
theorem evO_1 (h : dB tab call t env S = .ok k S1) : dOr tab call (.cons t .nil) env S = .ok k S1 := by
  show (dB tab call t env S).bind _ = _
  rw [h]
  cases k <;> rfl
/-! statements -/
variable {ss : ISs} {r : RS} {env2 : Env}
theorem sx_set {i : Nat} (h : dE tab call e env S = .ok v S1) (h2 : dSs tab call ss (env.set i (some v)) S1 = r) : dSs tab call (.cons (.set i e) ss) env S = r := (step_set v h).trans h2
theorem sx_setT {is : List Nat} (h : dE tab call e env S = .ok v S1) (ht : target true is v env S1 = some env2) (h2 : dSs tab call ss env2 S1 = r) : dSs tab call (.cons (.setT is e) ss) env S = r := by
  show (R.st (dE tab call e env S) env _).seq _ = _
  rw [h]
  show (RS.seq (match target true is v env S1 with
    | some env2 => .nx env2 S1
    | none => .bad) _) = _
  rw [ht]
  exact h2
theorem sx_expr (h : dE tab call e env S = .ok v S1) (h2 : dSs tab call ss env S1 = r) : dSs tab call (.cons (.expr e) ss) env S = r := (step_expr v h).trans h2
theorem sx_ret (h : dE tab call e env S = .ok v S1) : dSs tab call (.cons (.ret e) ss) env S = .rt v S1 := step_ret v h
theorem sx_retN : dSs tab call (.cons .retN ss) env S = .rt (.t .non) S := rfl
theorem sx_setF {o : IE} {f : Nat} (h : dE tab call e env S = .ok v S1) (h1 : dE tab call o env S1 = .ok x S2) (hs : setFV tab x f v S2 = some S3) (h2 : dSs tab call ss env S3 = r) : dSs tab call (.cons (.setF o f e) ss) env S = r := by
  show (R.st (dE tab call e env S) env _).seq _ = _
  rw [h]
  show (R.st (dE tab call o env S1) env _).seq _ = _
  rw [h1]
  show (RS.seq (match setFV tab x f v S2 with
    | some S1 => .nx env S1
    | none => .bad) _) = _
  rw [hs]
  exact h2
theorem sx_setS {o i : IE} (h : dE tab call e env S = .ok v S1) (h1 : dE tab call o env S1 = .ok x S2) (h3 : dE tab call i env S2 = .ok y S3) (hs : setSV x y v S3 = some S4) (h2 : dSs tab call ss env S4 = r) : dSs tab call (.cons (.setS o i e) ss) env S = r := by
  show (R.st (dE tab call e env S) env _).seq _ = _
  rw [h]
  show (R.st (dE tab call o env S1) env _).seq _ = _
  rw [h1]
  show (R.st (dE tab call i env S2) env _).seq _ = _
  rw [h3]
  show (RS.seq (match setSV x y v S3 with
    | some S1 => .nx env S1
    | none => .bad) _) = _
  rw [hs]
  exact h2
theorem sx_aug {i : Nat} {op : Operator} (h0 : env[i]? = some (some x)) (h : dE tab call e env S = .ok y S1) (h1 : binA op x y S1 = .ok z S2) (h2 : dSs tab call ss (env.set i (some z)) S2 = r) : dSs tab call (.cons (.aug i op e) ss) env S = r := by
  show (RS.seq (match env[i]? with
    | some (some x) => (dE tab call e env S).st env fun y S => (binA op x y S).st env fun z S => .nx (env.set i (some z)) S
    | _ => .bad) _) = _
  rw [h0]
  show (R.st (dE tab call e env S) env _).seq _ = _
  rw [h]
  show (R.st (binA op x y S1) env _).seq _ = _
  rw [h1]
  exact h2
theorem sx_ifT {a b : ISs} (h : dB tab call t env S = .ok true S1) (h2 : (dSs tab call a env S1).seq (fun env S => dSs tab call ss env S) = r) : dSs tab call (.cons (.ife t a b) ss) env S = r := by
  rw [step_if true h]
  exact h2
theorem sx_ifF {a b : ISs} (h : dB tab call t env S = .ok false S1) (h2 : (dSs tab call b env S1).seq (fun env S => dSs tab call ss env S) = r) : dSs tab call (.cons (.ife t a b) ss) env S = r := by
  rw [step_if false h]
  exact h2
theorem sx_ifF0 {a : ISs} (h : dB tab call t env S = .ok false S1) (h2 : dSs tab call ss env S1 = r) : dSs tab call (.cons (.ife t a .nil) ss) env S = r := by
  rw [step_ifF h]
  exact h2
theorem seq_nil {k : Env → Store → RS} : (dSs tab call .nil env S).seq k = k env S := rfl
theorem sx_pass (h2 : dSs tab call ss env S = r) : dSs tab call (.cons .pass ss) env S = r := h2
/-- a block that ends, then what follows -/
theorem sx_seq {b : ISs} {S1 : Store} (h : dSs tab call b env S = .nx env2 S1) (h2 : dSs tab call ss env2 S1 = r) : (dSs tab call b env S).seq (fun env S => dSs tab call ss env S) = r := by
  rw [h]
  exact h2
theorem sx_seq_rt {b : ISs} {k : Env → Store → RS} (h : dSs tab call b env S = .rt v S1) : (dSs tab call b env S).seq k = .rt v S1 := by
  rw [h]
  rfl
theorem sx_tryAs {b su : ISs} {cs : List Nat} {i : Nat} {x : Exn} {env1 : Env} {S1 : Store} {ss : ISs} {r : RS} (h : dSs tab call b env S = .ex x env1 S1) (hc : excIn tab x.c cs = some true) (hf : x.fs = [])
    (h2 : ((dSs tab call su (env1.set i (some (.t (.exn x.c [])))) S1).gone i).seq (fun env S => dSs tab call ss env S) = r) : dSs tab call (.cons (.try_ b cs (some i) su) ss) env S = r := by
  rw [← h2]
  show (RS.seq (match dSs tab call b env S with
    | .ex x env1 S1 => (match excIn tab x.c cs with
      | some true => if x.fs.isEmpty then (dSs tab call su (env1.set i (some (.t (.exn x.c [])))) S1).gone i else .bad
      | some false => .ex x env1 S1
      | none => .bad)
    | m => m) _) = _
  rw [h]
  show (RS.seq (match excIn tab x.c cs with
      | some true => if x.fs.isEmpty then (dSs tab call su (env1.set i (some (.t (.exn x.c [])))) S1).gone i else .bad
      | some false => .ex x env1 S1
      | none => .bad) _) = _
  rw [hc, hf]
  rfl
theorem sx_tryRt {b su : ISs} {cs : List Nat} {nm : Option Nat} {v : Val} {S1 : Store} {ss : ISs} (h : dSs tab call b env S = .rt v S1) : dSs tab call (.cons (.try_ b cs nm su) ss) env S = .rt v S1 := by
  show (RS.seq (match dSs tab call b env S with
    | .ex x env1 S1 => (match excIn tab x.c cs with
      | some true => if x.fs.isEmpty then (match nm with
        | some i => (dSs tab call su (env1.set i (some (.t (.exn x.c [])))) S1).gone i
        | none => (dSs tab call su env1 S1).noex) else .bad
      | some false => .ex x env1 S1
      | none => .bad)
    | m => m) _) = _
  rw [h]
  rfl
theorem sx_tryNx {b su : ISs} {cs : List Nat} {nm : Option Nat} {env1 : Env} {S1 : Store} {ss : ISs} {r : RS} (h : dSs tab call b env S = .nx env1 S1) (h2 : dSs tab call ss env1 S1 = r) : dSs tab call (.cons (.try_ b cs nm su) ss) env S = r := by
  rw [← h2]
  show (RS.seq (match dSs tab call b env S with
    | .ex x env1 S1 => (match excIn tab x.c cs with
      | some true => if x.fs.isEmpty then (match nm with
        | some i => (dSs tab call su (env1.set i (some (.t (.exn x.c [])))) S1).gone i
        | none => (dSs tab call su env1 S1).noex) else .bad
      | some false => .ex x env1 S1
      | none => .bad)
    | m => m) _) = _
  rw [h]
  rfl
theorem sx_exprEx {x : Exn} {S1 : Store} {ss : ISs} (h : dE tab call e env S = .ex x S1) : dSs tab call (.cons (.expr e) ss) env S = .ex x env S1 := by
  show (R.st (dE tab call e env S) _ _).seq _ = _
  rw [h]
  rfl
theorem sx_setL {o lo hi : IE} {y z : Val} {S3 S4 S5 : Store} {ss : ISs} {r : RS} (h : dE tab call e env S = .ok v S1) (h1 : dE tab call o env S1 = .ok x S2) (h3 : dE tab call lo env S2 = .ok y S3) (h4 : dE tab call hi env S3 = .ok z S4) (hs : setLV x y z v S4 = some S5) (h2 : dSs tab call ss env S5 = r) : dSs tab call (.cons (.setL o lo hi e) ss) env S = r := by
  show (R.st (dE tab call e env S) env fun v S => (dE tab call o env S).st env fun x S => (dE tab call lo env S).st env fun y S => (dE tab call hi env S).st env fun z S => (match setLV x y z v S with
    | some S1 => .nx env S1
    | none => .bad)).seq _ = _
  rw [h, R.st_ok, h1, R.st_ok, h3, R.st_ok, h4, R.st_ok, hs]
  exact h2
end
theorem slc_r {S : Store} {n : Nat} {vs : List Val} {m : Bool} {lo hi : Option Int} (h : S[n]? = some (.lst vs)) : slcV m (.r n) lo hi S = alloc m (cutL vs lo hi) S := by
  show (match Val.r n, listV S (.r n) with
    | .t (.tup xs), _ => R.ok (Val.t (.tup (cutL xs lo hi))) S
    | _, some vs => alloc m (cutL vs lo hi) S
    | _, none => .bad) = _
  rw [listV_r h]
/-! dicts in cells -/
theorem subK_h {S : Store} {n : Nat} {kvs : List (Key × Val)} {x : Str} {v : Val} (h : S[n]? = some (.dct kvs)) (hv : lookK kvs (.inr x) = some v) : subV (.r n) (.t (.str x)) S = .ok v S := by
  show (match S[n]? with
    | some (.dct kvs) => ofO (lookK kvs (.inr x)) S
    | _ => .bad) = _
  rw [h]
  show ofO (lookK kvs (.inr x)) S = _
  rw [hv]
  rfl
theorem setK_h {S : Store} {n : Nat} {kvs : List (Key × Val)} {x : Str} {v : Val} (h : S[n]? = some (.dct kvs)) (hl : kvs.length < 1000) : setSV (.r n) (.t (.str x)) v S = some (S.set n (.dct (putKV kvs (.inr x) v))) := by
  show (match S[n]? with
    | some (.dct kvs) => if kvs.length < 1000 then some (S.set n (.dct (putKV kvs (.inr x) v))) else none
    | _ => none) = _
  rw [h]
  exact if_pos hl
end Rw

namespace Rw
open PySem PySem.Spec PyProof.Rows L2
/-! ### the law's text in the small language (printed by gen.py) -/
def top (i : Nat) : Stmt := PySem.Challenge.pw_rowmill_k47_near_refused.main.body.getD i (.Pass ⟨0, 0, 0, 0⟩)
def c_Slow_init : ISs := 
 (.cons (.setF (.var 0) 0 (.blt .list false (.cons (.var 1) .nil)))
 (.cons (.setF (.var 0) 1 (.con (.int 0)))
 (.cons (.setF (.var 0) 2 (.con (.int 0))) .nil)))
def f_Slow_init : Fn := ⟨false, 2, 2, [], c_Slow_init, false⟩
def c_Slow_four : ISs := 
 (.cons (.expr (.meth (.var 0) 10 (.cons (.var 1) .nil)))
 (.cons (.augF (.var 0) 1 .Add (.con (.int 1)))
 (.cons (.ret (.blt .tuple false (.cons (.slc false (.fld (.var 0) 0) (.bin .Mult (.var 1) (.glob 0)) (.bin .Add (.bin .Mult (.var 1) (.glob 0)) (.glob 0))) .nil))) .nil)))
def f_Slow_four : Fn := ⟨false, 2, 2, [], c_Slow_four, false⟩
def c_Slow_put_four : ISs := 
 (.cons (.expr (.meth (.var 0) 10 (.cons (.var 1) .nil)))
 (.cons (.augF (.var 0) 2 .Add (.con (.int 1)))
 (.cons (.set 3 (.bin .Mult (.var 1) (.glob 0)))
 (.cons (.setF (.var 0) 0 (.bin .Add (.bin .Add (.slc false (.fld (.var 0) 0) (.con .non) (.var 3)) (.blt .list false (.cons (.var 2) .nil))) (.slc false (.fld (.var 0) 0) (.bin .Add (.var 3) (.glob 0)) (.con .non)))) .nil))))
def f_Slow_put_four : Fn := ⟨false, 3, 4, [], c_Slow_put_four, false⟩
def c_Slow_need_line : ISs := 
 (.cons (.ife (.ors (.cons (.not (.val (.isi (.var 1) false [.int]))) (.cons (.val (.isi (.var 1) false [.bool])) (.cons (.not (.val (.cmp2 .LtE .Lt (.con (.int 0)) (.bin .Mult (.var 1) (.glob 0)) (.blt .len false (.cons (.fld (.var 0) 0) .nil))))) .nil)))) 
  (.cons (.raise 1 .nil) .nil) .nil) .nil)
def f_Slow_need_line : Fn := ⟨false, 2, 2, [], c_Slow_need_line, false⟩
def c_Slow_reads : ISs := 
 (.cons (.ret (.fld (.var 0) 1)) .nil)
def f_Slow_reads : Fn := ⟨false, 1, 1, [], c_Slow_reads, false⟩
def c_Slow_writes : ISs := 
 (.cons (.ret (.fld (.var 0) 2)) .nil)
def f_Slow_writes : Fn := ⟨false, 1, 1, [], c_Slow_writes, false⟩
def c_Slow_whole : ISs := 
 (.cons (.ret (.blt .list false (.cons (.fld (.var 0) 0) .nil))) .nil)
def f_Slow_whole : Fn := ⟨false, 1, 1, [], c_Slow_whole, false⟩
def c_Slow_size : ISs := 
 (.cons (.ret (.blt .len false (.cons (.fld (.var 0) 0) .nil))) .nil)
def f_Slow_size : Fn := ⟨false, 1, 1, [], c_Slow_size, false⟩
def c_Line_init : ISs := 
 (.cons (.setF (.var 0) 3 (.var 1))
 (.cons (.setF (.var 0) 4 (.blt .list true (.cons (.var 2) .nil)))
 (.cons (.setF (.var 0) 5 (.var 3)) .nil)))
def f_Line_init : Fn := ⟨false, 4, 4, [], c_Line_init, false⟩
def c_Line_shown : ISs := 
 (.cons (.ret (.tup (.cons (.fld (.var 0) 3) (.cons (.blt .tuple false (.cons (.fld (.var 0) 4) .nil)) (.cons (.fld (.var 0) 5) .nil))))) .nil)
def f_Line_shown : Fn := ⟨false, 1, 1, [], c_Line_shown, false⟩
def c_Near_init : ISs := 
 (.cons (.ife (.ors (.cons (.not (.val (.isi (.var 2) false [.int]))) (.cons (.val (.isi (.var 2) false [.bool])) (.cons (.val (.cmp .NotIn (.var 2) (.tup (.cons (.con (.int 1)) (.cons (.con (.int 2)) (.cons (.con (.int 4)) .nil)))))) .nil)))) 
  (.cons (.raise 2 .nil) .nil) .nil)
 (.cons (.setF (.var 0) 6 (.var 1))
 (.cons (.setF (.var 0) 7 (.comp true .range (.cons (.var 2) .nil) false [3] .nil (.lst true .nil))) .nil)))
def f_Near_init : Fn := ⟨false, 3, 4, [.int 2], c_Near_init, false⟩
def c_Near_need_address : ISs := 
 (.cons (.ife (.ors (.cons (.not (.val (.isi (.var 1) false [.int]))) (.cons (.val (.isi (.var 1) false [.bool])) (.cons (.not (.val (.cmp2 .LtE .Lt (.con (.int 0)) (.var 1) (.meth (.fld (.var 0) 6) 14 .nil)))) .nil)))) 
  (.cons (.raise 3 .nil) .nil) .nil) .nil)
def f_Near_need_address : Fn := ⟨false, 2, 2, [], c_Near_need_address, false⟩
def c_Near_room_of : ISs := 
 (.cons (.ret (.sub (.fld (.var 0) 7) (.bin .Mod (.var 1) (.blt .len false (.cons (.fld (.var 0) 7) .nil))))) .nil)
def f_Near_room_of : Fn := ⟨false, 2, 2, [], c_Near_room_of, false⟩
def b_Near_line_of_0 : ISs := 
 (.cons (.ife (.val (.cmp .Eq (.fld (.var 3) 3) (.var 2))) 
  (.cons (.ret (.var 3)) .nil) .nil) .nil)
def c_Near_line_of : ISs := 
 (.cons (.set 2 (.bin .FloorDiv (.var 1) (.glob 0)))
 (.cons (.for_ .seq (.cons (.meth (.var 0) 17 (.cons (.var 2) .nil)) .nil) false [3] b_Near_line_of_0)
 (.cons (.ret (.con .non)) .nil)))
def f_Near_line_of : Fn := ⟨false, 2, 4, [], c_Near_line_of, false⟩
def c_Near_write_back : ISs := 
 (.cons (.ife (.val (.fld (.var 1) 5)) 
  (.cons (.expr (.meth (.fld (.var 0) 6) 9 (.cons (.fld (.var 1) 3) (.cons (.blt .tuple false (.cons (.fld (.var 1) 4) .nil)) .nil))))
  (.cons (.setF (.var 1) 5 (.con (.bl false))) .nil)) .nil) .nil)
def f_Near_write_back : Fn := ⟨false, 2, 2, [], c_Near_write_back, false⟩
def c_Near_come_to : ISs := 
 (.cons (.set 2 (.bin .Mod (.bin .FloorDiv (.var 1) (.glob 0)) (.blt .len false (.cons (.fld (.var 0) 7) .nil))))
 (.cons (.set 3 (.sub (.fld (.var 0) 7) (.var 2)))
 (.cons (.set 4 (.meth (.var 0) 18 (.cons (.var 1) .nil)))
 (.cons (.ife (.val (.cmp .Is (.var 4) (.con .non))) 
  (.cons (.ife (.val (.cmp .Eq (.blt .len false (.cons (.var 3) .nil)) (.glob 1))) 
   (.cons (.expr (.meth (.var 0) 19 (.cons (.bm .pop false (.var 3) .nil) .nil))) .nil) .nil)
  (.cons (.set 4 (.new 1 (.cons (.bin .FloorDiv (.var 1) (.glob 0)) (.cons (.meth (.fld (.var 0) 6) 8 (.cons (.bin .FloorDiv (.var 1) (.glob 0)) .nil)) (.cons (.con (.bl false)) .nil))))) .nil)) .nil)
 (.cons (.setS (.fld (.var 0) 7) (.var 2) (.binM .Add (.lst true (.cons (.var 4) .nil)) (.comp true .seq (.cons (.var 3) .nil) false [5] (.cons (.val (.cmp .NotEq (.fld (.var 5) 3) (.fld (.var 4) 3))) .nil) (.var 5))))
 (.cons (.ret (.var 4)) .nil))))))
def f_Near_come_to : Fn := ⟨false, 2, 6, [], c_Near_come_to, false⟩
def c_Near_get : ISs := 
 (.cons (.expr (.meth (.var 0) 16 (.cons (.var 1) .nil)))
 (.cons (.ret (.sub (.fld (.meth (.var 0) 20 (.cons (.var 1) .nil)) 4) (.bin .Mod (.var 1) (.glob 0)))) .nil))
def f_Near_get : Fn := ⟨false, 2, 2, [], c_Near_get, false⟩
def c_Near_put : ISs := 
 (.cons (.expr (.meth (.var 0) 16 (.cons (.var 1) .nil)))
 (.cons (.set 3 (.meth (.var 0) 20 (.cons (.var 1) .nil)))
 (.cons (.setS (.fld (.var 3) 4) (.bin .Mod (.var 1) (.glob 0)) (.var 2))
 (.cons (.setF (.var 3) 5 (.con (.bl true))) .nil))))
def f_Near_put : Fn := ⟨false, 3, 4, [], c_Near_put, false⟩
def c_Near_cost : ISs := 
 (.cons (.expr (.meth (.var 0) 16 (.cons (.var 1) .nil)))
 (.cons (.ife (.val (.cmp .IsNot (.meth (.var 0) 18 (.cons (.var 1) .nil)) (.con .non))) 
  (.cons (.ret (.glob 2)) .nil) .nil)
 (.cons (.set 2 (.meth (.var 0) 17 (.cons (.bin .FloorDiv (.var 1) (.glob 0)) .nil)))
 (.cons (.ife (.ands (.cons (.val (.cmp .Eq (.blt .len false (.cons (.var 2) .nil)) (.glob 1))) (.cons (.val (.fld (.sub (.var 2) (.neg (.con (.int 1)))) 5)) .nil))) 
  (.cons (.ret (.glob 4)) .nil) .nil)
 (.cons (.ret (.glob 3)) .nil)))))
def f_Near_cost : Fn := ⟨false, 2, 3, [], c_Near_cost, false⟩
def c_Near_look : ISs := 
 (.cons (.expr (.meth (.var 0) 16 (.cons (.var 1) .nil)))
 (.cons (.set 2 (.meth (.var 0) 18 (.cons (.var 1) .nil)))
 (.cons (.ife (.val (.cmp .Is (.var 2) (.con .non))) 
  (.cons (.ret (.sub (.meth (.fld (.var 0) 6) 13 .nil) (.var 1))) .nil) .nil)
 (.cons (.ret (.sub (.fld (.var 2) 4) (.bin .Mod (.var 1) (.glob 0)))) .nil))))
def f_Near_look : Fn := ⟨false, 2, 3, [], c_Near_look, false⟩
def b_Near_settle_0 : ISs := 
 (.cons (.expr (.meth (.var 0) 19 (.cons (.meth (.var 0) 18 (.cons (.bin .Mult (.var 2) (.glob 0)) .nil)) .nil))) .nil)
def b_Near_settle_1 : ISs := 
 (.cons (.for_ .seq (.cons (.blt .sorted false (.cons (.comp false .seq (.cons (.var 1) .nil) false [3] .nil (.fld (.var 3) 3)) .nil)) .nil) false [2] b_Near_settle_0) .nil)
def c_Near_settle : ISs := 
 (.cons (.for_ .seq (.cons (.fld (.var 0) 7) .nil) false [1] b_Near_settle_1) .nil)
def f_Near_settle : Fn := ⟨false, 1, 4, [], c_Near_settle, false⟩
def c_Near_held : ISs := 
 (.cons (.ret (.blt .tuple false (.cons (.comp false .seq (.cons (.fld (.var 0) 7) .nil) false [2] .nil (.blt .tuple false (.cons (.comp false .seq (.cons (.var 2) .nil) false [1] .nil (.meth (.var 1) 15 .nil)) .nil))) .nil))) .nil)
def f_Near_held : Fn := ⟨false, 1, 3, [], c_Near_held, false⟩
def c__law_cell : ISs := 
 (.cons (.set 2 (.bin .Add (.bin .Mult (.con (.int 7919)) (.var 1)) (.con (.int 11))))
 (.cons (.ife (.val (.cmp .NotEq (.var 0) (.lst false .nil))) 
  (.cons (.set 2 (.bin .Add (.bin .Add (.var 2) (.bin .Mult (.sub (.var 0) (.bin .Mod (.var 1) (.blt .len false (.cons (.var 0) .nil)))) (.con (.int 48271)))) (.bin .Mult (.con (.int 96810)) (.var 1))))
  (.cons (.set 2 (.bin .Add (.var 2) (.bin .Mult (.bin .FloorDiv (.var 1) (.blt .len false (.cons (.var 0) .nil))) (.con (.int 7919))))) .nil)) .nil)
 (.cons (.set 3 (.bin .Mod (.var 2) (.con (.int 2147483647))))
 (.cons (.set 3 (.bin .Mod (.bin .Mult (.var 3) (.var 3)) (.con (.int 2147483629))))
 (.cons (.ret (.bin .Mod (.bin .Add (.bin .Add (.bin .Mult (.var 3) (.var 3)) (.bin .Mult (.con (.int 69621)) (.var 3))) (.var 1)) (.con (.int 2147483587)))) .nil)))))
def f__law_cell : Fn := ⟨true, 2, 4, [], c__law_cell, false⟩
def c__law_word : ISs := 
 (.cons (.ret (.sub (.lst false (.cons (.bin .Mod (.var 0) (.con (.int 65536))) (.cons (.con (.int 65535)) (.cons (.con (.int 0)) .nil)))) (.bin .FloorDiv (.bin .Mod (.bin .FloorDiv (.var 0) (.con (.int 65536))) (.con (.int 9))) (.con (.int 4))))) .nil)
def f__law_word : Fn := ⟨true, 1, 1, [], c__law_word, false⟩
def c__law_words : ISs := 
 (.cons (.ret (.comp true .range (.cons (.var 2) .nil) false [3] .nil (.call 23 (.cons (.call 22 (.cons (.var 0) (.cons (.bin .Add (.var 1) (.var 3)) .nil))) .nil)))) .nil)
def f__law_words : Fn := ⟨false, 3, 4, [], c__law_words, false⟩
def c__law_address : ISs := 
 (.cons (.set 3 (.call 22 (.cons (.var 0) (.cons (.var 1) .nil))))
 (.cons (.set 4 (.bin .Mod (.call 22 (.cons (.var 0) (.cons (.bin .Add (.con (.int 3)) (.bin .Mod (.bin .FloorDiv (.var 3) (.con (.int 6))) (.con (.int 4)))) .nil))) (.var 2)))
 (.cons (.set 5 (.sub (.lst false (.cons (.con (.int 4)) (.cons (.con (.int 8)) (.cons (.con (.int 16)) (.cons (.con (.int 1)) (.cons (.con (.int 2)) .nil)))))) (.bin .Mod (.call 22 (.cons (.var 0) (.cons (.con (.int 7)) .nil))) (.con (.int 5)))))
 (.cons (.set 6 (.bin .Mod (.bin .Add (.call 22 (.cons (.var 0) (.cons (.con (.int 3)) .nil))) (.bin .Mult (.var 5) (.bin .Mod (.bin .FloorDiv (.var 3) (.con (.int 24))) (.con (.int 5))))) (.var 2)))
 (.cons (.ret (.sub (.lst false (.cons (.var 4) (.cons (.var 4) (.cons (.var 6) (.cons (.var 6) (.cons (.var 6) (.cons (.bin .Mod (.bin .FloorDiv (.var 3) (.con (.int 24))) (.var 2)) .nil))))))) (.bin .Mod (.var 3) (.con (.int 6))))) .nil)))))
def f__law_address : Fn := ⟨true, 3, 7, [], c__law_address, false⟩
def c__law_deed_by : ISs := 
 (.cons (.set 3 (.call 22 (.cons (.var 0) (.cons (.bin .Add (.con (.int 40)) (.var 1)) .nil))))
 (.cons (.set 4 (.sub (.lst false (.cons (.bin .Mod (.bin .FloorDiv (.var 3) (.con (.int 11))) (.con (.int 65536))) (.cons (.bin .Mod (.bin .FloorDiv (.var 3) (.con (.int 11))) (.con (.int 3))) .nil))) (.bin .Mod (.bin .FloorDiv (.var 3) (.con (.int 7))) (.con (.int 2)))))
 (.cons (.set 5 (.lst false (.cons (.con (.str (Str.ofString "get"))) (.cons (.con (.str (Str.ofString "get"))) (.cons (.con (.str (Str.ofString "get"))) (.cons (.con (.str (Str.ofString "put"))) (.cons (.con (.str (Str.ofString "put"))) (.cons (.con (.str (Str.ofString "put"))) (.cons (.con (.str (Str.ofString "put"))) (.cons (.con (.str (Str.ofString "cost"))) (.cons (.con (.str (Str.ofString "look"))) (.cons (.con (.str (Str.ofString "look"))) (.cons (.con (.str (Str.ofString "settle"))) .nil)))))))))))))
 (.cons (.ret (.tup (.cons (.sub (.var 5) (.bin .Mod (.var 3) (.con (.int 11)))) (.cons (.call 25 (.cons (.var 0) (.cons (.bin .Add (.con (.int 100)) (.var 1)) (.cons (.var 2) .nil)))) (.cons (.var 4) .nil))))) .nil))))
def f__law_deed_by : Fn := ⟨true, 3, 6, [], c__law_deed_by, false⟩
def c__law_did : ISs := 
 (.cons (.ife (.val (.cmp .Eq (.sub (.var 1) (.con (.int 0))) (.con (.str (Str.ofString "get"))))) 
  (.cons (.ret (.meth (.var 0) 21 (.cons (.sub (.var 1) (.con (.int 1))) .nil))) .nil) .nil)
 (.cons (.ife (.val (.cmp .Eq (.sub (.var 1) (.con (.int 0))) (.con (.str (Str.ofString "put"))))) 
  (.cons (.ret (.meth (.var 0) 22 (.cons (.sub (.var 1) (.con (.int 1))) (.cons (.sub (.var 1) (.con (.int 2))) .nil)))) .nil) .nil)
 (.cons (.ife (.val (.cmp .Eq (.sub (.var 1) (.con (.int 0))) (.con (.str (Str.ofString "cost"))))) 
  (.cons (.ret (.meth (.var 0) 23 (.cons (.sub (.var 1) (.con (.int 1))) .nil))) .nil) .nil)
 (.cons (.ife (.val (.cmp .Eq (.sub (.var 1) (.con (.int 0))) (.con (.str (Str.ofString "look"))))) 
  (.cons (.ret (.meth (.var 0) 24 (.cons (.sub (.var 1) (.con (.int 1))) .nil))) .nil) .nil)
 (.cons (.ret (.meth (.var 0) 25 .nil)) .nil)))))
def f__law_did : Fn := ⟨false, 2, 2, [], c__law_did, false⟩
def c__law_whole : ISs := 
 (.cons (.ret (.ands (.cons (.isi (.var 0) false [.int]) (.cons (.not (.isi (.var 0) false [.bool])) (.cons (.cmp .Eq (.var 0) (.var 1)) .nil))))) .nil)
def f__law_whole : Fn := ⟨true, 2, 2, [], c__law_whole, false⟩
def c__law_classes : ISs := 
 (.cons (.ife (.ors (.cons (.not (.val (.exIs 0 false [some 0]))) (.cons (.not (.val (.exIs 0 false [none]))) .nil))) 
  (.cons (.ret (.lst false .nil)) .nil) .nil)
 (.cons (.ret (.lst false (.cons (.exIs 0 false [some 2]) (.cons (.exIs 0 false [some 3]) (.cons (.exIs 0 false [some 1]) .nil))))) .nil))
def f__law_classes : Fn := ⟨true, 1, 1, [], c__law_classes, true⟩
def c__law_no_sets : ISs := 
 (.cons (.try_ 
  (.cons (.expr (.new 2 (.cons (.var 0) (.cons (.var 1) .nil)))) .nil) [0] (some 2) 
  (.cons (.ret (.cmp .Eq (.hot 29 2) (.lst false (.cons (.con (.bl true)) (.cons (.con (.bl false)) (.cons (.con (.bl false)) .nil)))))) .nil))
 (.cons (.ret (.con (.bl false))) .nil))
def f__law_no_sets : Fn := ⟨false, 2, 3, [], c__law_no_sets, false⟩
def c__law_no_place : ISs := 
 (.cons (.try_ 
  (.cons (.ife (.val (.cmp .Eq (.var 1) (.con (.int 0)))) 
   (.cons (.expr (.meth (.var 0) 21 (.cons (.var 2) .nil))) .nil) 
   (.cons (.ife (.val (.cmp .Eq (.var 1) (.con (.int 1)))) 
    (.cons (.expr (.meth (.var 0) 22 (.cons (.var 2) (.cons (.con (.int 7)) .nil)))) .nil) 
    (.cons (.ife (.val (.cmp .Eq (.var 1) (.con (.int 2)))) 
     (.cons (.expr (.meth (.var 0) 23 (.cons (.var 2) .nil))) .nil) 
     (.cons (.expr (.meth (.var 0) 24 (.cons (.var 2) .nil))) .nil)) .nil)) .nil)) .nil) [0] (some 3) 
  (.cons (.ret (.cmp .Eq (.hot 29 3) (.lst false (.cons (.con (.bl false)) (.cons (.con (.bl true)) (.cons (.con (.bl false)) .nil)))))) .nil))
 (.cons (.ret (.con (.bl false))) .nil))
def f__law_no_place : Fn := ⟨false, 3, 4, [], c__law_no_place, false⟩
def c__law_odd : ISs := 
 (.cons (.set 2 (.lst false (.cons (.var 1) (.cons (.bin .Add (.var 1) (.bin .Mod (.bin .FloorDiv (.var 0) (.con (.int 60))) (.con (.int 300)))) (.cons (.neg (.con (.int 1))) (.cons (.bin .Sub (.neg (.con (.int 1))) (.bin .Mod (.bin .FloorDiv (.var 0) (.con (.int 60))) (.con (.int 64)))) (.cons (.con (.bl true)) (.cons (.con (.bl false)) (.cons (.con .non) (.cons (.con (.str (Str.ofString "0"))) (.cons (.con (.str (Str.ofString ""))) (.cons (.tup (.cons (.con (.int 1)) .nil)) (.cons (.lst false (.cons (.con (.int 0)) .nil)) (.cons (.bin .Pow (.con (.int 10)) (.con (.int 20))) .nil))))))))))))))
 (.cons (.ret (.sub (.bin .Add (.var 2) (.lst false (.cons (.neg (.bin .Pow (.con (.int 10)) (.con (.int 20)))) .nil))) (.bin .Mod (.bin .FloorDiv (.var 0) (.con (.int 4))) (.con (.int 13))))) .nil))
def f__law_odd : Fn := ⟨true, 2, 3, [], c__law_odd, false⟩
def b_law_0 : ISs := 
 (.cons (.expr (.call 27 (.cons (.var 6) (.cons (.call 26 (.cons (.var 0) (.cons (.var 7) (.cons (.var 1) .nil)))) .nil)))) .nil)
def b_law_1 : ISs := 
 (.cons (.set 10 (.call 22 (.cons (.var 0) (.cons (.bin .Add (.con (.int 20)) (.var 7)) .nil))))
 (.cons (.ife (.not (.val (.call 31 (.cons (.var 6) (.cons (.bin .Mod (.var 10) (.con (.int 4))) (.cons (.call 32 (.cons (.var 10) (.cons (.var 1) .nil))) .nil)))))) 
  (.cons (.ret (.con (.bl false))) .nil) .nil)
 (.cons (.ife (.ors (.cons (.val (.cmp .NotEq (.meth (.var 6) 26 .nil) (.var 8))) (.cons (.val (.cmp .NotEq (.tup (.cons (.meth (.var 3) 11 .nil) (.cons (.meth (.var 3) 12 .nil) (.cons (.meth (.var 3) 13 .nil) .nil)))) (.var 9))) .nil))) 
  (.cons (.ret (.con (.bl false))) .nil) .nil) .nil)))
def c_law : ISs := 
 (.cons (.set 1 (.bin .Add (.con (.int 4)) (.bin .Mult (.con (.int 4)) (.bin .Mod (.call 22 (.cons (.var 0) (.cons (.con (.int 1)) .nil))) (.con (.int 16))))))
 (.cons (.set 2 (.call 24 (.cons (.var 0) (.cons (.con (.int 200)) (.cons (.var 1) .nil)))))
 (.cons (.set 3 (.new 0 (.cons (.var 2) .nil)))
 (.cons (.set 4 (.call 22 (.cons (.var 0) (.cons (.con (.int 9)) .nil))))
 (.cons (.set 5 (.sub (.lst false (.cons (.con (.int 0)) (.cons (.con (.int 3)) (.cons (.con (.int 5)) (.cons (.con (.int 8)) (.cons (.neg (.con (.int 1))) (.cons (.con (.bl true)) (.cons (.con (.bl false)) (.cons (.con .non) (.cons (.con (.str (Str.ofString "2"))) (.cons (.tup (.cons (.con (.int 2)) .nil)) (.cons (.bin .Add (.con (.int 6)) (.bin .Mod (.bin .FloorDiv (.var 4) (.con (.int 11))) (.con (.int 99)))) .nil)))))))))))) (.bin .Mod (.var 4) (.con (.int 11)))))
 (.cons (.ife (.not (.val (.call 30 (.cons (.var 3) (.cons (.var 5) .nil))))) 
  (.cons (.ret (.con (.bl false))) .nil) .nil)
 (.cons (.set 6 (.new 2 (.cons (.var 3) (.cons (.sub (.lst false (.cons (.con (.int 1)) (.cons (.con (.int 2)) (.cons (.con (.int 4)) .nil)))) (.bin .Mod (.call 22 (.cons (.var 0) (.cons (.con (.int 2)) .nil))) (.con (.int 3)))) .nil))))
 (.cons (.for_ .range (.cons (.blt .min2 false (.cons (.blt .len false (.cons (.var 0) .nil)) (.cons (.con (.int 12)) .nil))) .nil) false [7] b_law_0)
 (.cons (.set 8 (.meth (.var 6) 26 .nil))
 (.cons (.set 9 (.tup (.cons (.meth (.var 3) 11 .nil) (.cons (.meth (.var 3) 12 .nil) (.cons (.meth (.var 3) 13 .nil) .nil)))))
 (.cons (.for_ .range (.cons (.con (.int 6)) .nil) false [7] b_law_1)
 (.cons (.ret (.ands (.cons (.cmp .In (.meth (.var 6) 23 (.cons (.bin .Sub (.var 1) (.con (.int 1))) .nil)) (.tup (.cons (.con (.int 1)) (.cons (.con (.int 5)) (.cons (.con (.int 9)) .nil))))) (.cons (.call 28 (.cons (.meth (.var 6) 24 (.cons (.con (.int 0)) .nil)) (.cons (.meth (.var 6) 21 (.cons (.con (.int 0)) .nil)) .nil))) .nil)))) .nil))))))))))))
def f_law : Fn := ⟨true, 1, 11, [], c_law, false⟩
def defs0 : List DefX := [
  ⟨((Str.ofString "Slow"), some (Str.ofString "__init__")), (Str.ofString "__init__"), (Str.ofString "Slow.__init__"), (inClass (top 7) 0), [(Str.ofString "self"), (Str.ofString "words")], [(Str.ofString "self"), (Str.ofString "words")], f_Slow_init⟩,
  ⟨((Str.ofString "Slow"), some (Str.ofString "four")), (Str.ofString "four"), (Str.ofString "Slow.four"), (inClass (top 7) 1), [(Str.ofString "self"), (Str.ofString "number")], [(Str.ofString "self"), (Str.ofString "number")], f_Slow_four⟩,
  ⟨((Str.ofString "Slow"), some (Str.ofString "put_four")), (Str.ofString "put_four"), (Str.ofString "Slow.put_four"), (inClass (top 7) 2), [(Str.ofString "self"), (Str.ofString "number"), (Str.ofString "words"), (Str.ofString "at")], [(Str.ofString "self"), (Str.ofString "number"), (Str.ofString "words")], f_Slow_put_four⟩,
  ⟨((Str.ofString "Slow"), some (Str.ofString "need_line")), (Str.ofString "need_line"), (Str.ofString "Slow.need_line"), (inClass (top 7) 3), [(Str.ofString "self"), (Str.ofString "number")], [(Str.ofString "self"), (Str.ofString "number")], f_Slow_need_line⟩,
  ⟨((Str.ofString "Slow"), some (Str.ofString "reads")), (Str.ofString "reads"), (Str.ofString "Slow.reads"), (inClass (top 7) 4), [(Str.ofString "self")], [(Str.ofString "self")], f_Slow_reads⟩,
  ⟨((Str.ofString "Slow"), some (Str.ofString "writes")), (Str.ofString "writes"), (Str.ofString "Slow.writes"), (inClass (top 7) 5), [(Str.ofString "self")], [(Str.ofString "self")], f_Slow_writes⟩,
  ⟨((Str.ofString "Slow"), some (Str.ofString "whole")), (Str.ofString "whole"), (Str.ofString "Slow.whole"), (inClass (top 7) 6), [(Str.ofString "self")], [(Str.ofString "self")], f_Slow_whole⟩,
  ⟨((Str.ofString "Slow"), some (Str.ofString "size")), (Str.ofString "size"), (Str.ofString "Slow.size"), (inClass (top 7) 7), [(Str.ofString "self")], [(Str.ofString "self")], f_Slow_size⟩,
  ⟨((Str.ofString "Line"), some (Str.ofString "__init__")), (Str.ofString "__init__"), (Str.ofString "Line.__init__"), (inClass (top 13) 0), [(Str.ofString "self"), (Str.ofString "number"), (Str.ofString "words"), (Str.ofString "changed")], [(Str.ofString "self"), (Str.ofString "number"), (Str.ofString "words"), (Str.ofString "changed")], f_Line_init⟩,
  ⟨((Str.ofString "Line"), some (Str.ofString "shown")), (Str.ofString "shown"), (Str.ofString "Line.shown"), (inClass (top 13) 1), [(Str.ofString "self")], [(Str.ofString "self")], f_Line_shown⟩]
def defs1 : List DefX := [
  ⟨((Str.ofString "Near"), some (Str.ofString "__init__")), (Str.ofString "__init__"), (Str.ofString "Near.__init__"), (inClass (top 14) 0), [(Str.ofString "self"), (Str.ofString "slow"), (Str.ofString "sets"), (Str.ofString "number")], [(Str.ofString "self"), (Str.ofString "slow"), (Str.ofString "sets")], f_Near_init⟩,
  ⟨((Str.ofString "Near"), some (Str.ofString "need_address")), (Str.ofString "need_address"), (Str.ofString "Near.need_address"), (inClass (top 14) 1), [(Str.ofString "self"), (Str.ofString "address")], [(Str.ofString "self"), (Str.ofString "address")], f_Near_need_address⟩,
  ⟨((Str.ofString "Near"), some (Str.ofString "room_of")), (Str.ofString "room_of"), (Str.ofString "Near.room_of"), (inClass (top 14) 2), [(Str.ofString "self"), (Str.ofString "number")], [(Str.ofString "self"), (Str.ofString "number")], f_Near_room_of⟩,
  ⟨((Str.ofString "Near"), some (Str.ofString "line_of")), (Str.ofString "line_of"), (Str.ofString "Near.line_of"), (inClass (top 14) 3), [(Str.ofString "self"), (Str.ofString "address"), (Str.ofString "number"), (Str.ofString "one")], [(Str.ofString "self"), (Str.ofString "address")], f_Near_line_of⟩,
  ⟨((Str.ofString "Near"), some (Str.ofString "write_back")), (Str.ofString "write_back"), (Str.ofString "Near.write_back"), (inClass (top 14) 4), [(Str.ofString "self"), (Str.ofString "one")], [(Str.ofString "self"), (Str.ofString "one")], f_Near_write_back⟩,
  ⟨((Str.ofString "Near"), some (Str.ofString "come_to")), (Str.ofString "come_to"), (Str.ofString "Near.come_to"), (inClass (top 14) 5), [(Str.ofString "self"), (Str.ofString "address"), (Str.ofString "place"), (Str.ofString "room"), (Str.ofString "found"), (Str.ofString "one")], [(Str.ofString "self"), (Str.ofString "address")], f_Near_come_to⟩,
  ⟨((Str.ofString "Near"), some (Str.ofString "get")), (Str.ofString "get"), (Str.ofString "Near.get"), (inClass (top 14) 6), [(Str.ofString "self"), (Str.ofString "address")], [(Str.ofString "self"), (Str.ofString "address")], f_Near_get⟩,
  ⟨((Str.ofString "Near"), some (Str.ofString "put")), (Str.ofString "put"), (Str.ofString "Near.put"), (inClass (top 14) 7), [(Str.ofString "self"), (Str.ofString "address"), (Str.ofString "word"), (Str.ofString "found")], [(Str.ofString "self"), (Str.ofString "address"), (Str.ofString "word")], f_Near_put⟩,
  ⟨((Str.ofString "Near"), some (Str.ofString "cost")), (Str.ofString "cost"), (Str.ofString "Near.cost"), (inClass (top 14) 8), [(Str.ofString "self"), (Str.ofString "address"), (Str.ofString "room")], [(Str.ofString "self"), (Str.ofString "address")], f_Near_cost⟩,
  ⟨((Str.ofString "Near"), some (Str.ofString "look")), (Str.ofString "look"), (Str.ofString "Near.look"), (inClass (top 14) 9), [(Str.ofString "self"), (Str.ofString "address"), (Str.ofString "found")], [(Str.ofString "self"), (Str.ofString "address")], f_Near_look⟩]
def defs2 : List DefX := [
  ⟨((Str.ofString "Near"), some (Str.ofString "settle")), (Str.ofString "settle"), (Str.ofString "Near.settle"), (inClass (top 14) 10), [(Str.ofString "self"), (Str.ofString "room"), (Str.ofString "number"), (Str.ofString "one")], [(Str.ofString "self")], f_Near_settle⟩,
  ⟨((Str.ofString "Near"), some (Str.ofString "held")), (Str.ofString "held"), (Str.ofString "Near.held"), (inClass (top 14) 11), [(Str.ofString "self"), (Str.ofString "one"), (Str.ofString "room")], [(Str.ofString "self")], f_Near_held⟩,
  ⟨((Str.ofString "_law_cell"), none), (Str.ofString "_law_cell"), (Str.ofString "_law_cell"), top 16, [(Str.ofString "_law_script"), (Str.ofString "_law_k"), (Str.ofString "_law_cell_here"), (Str.ofString "_law_more")], [(Str.ofString "_law_script"), (Str.ofString "_law_k")], f__law_cell⟩,
  ⟨((Str.ofString "_law_word"), none), (Str.ofString "_law_word"), (Str.ofString "_law_word"), top 17, [(Str.ofString "_law_cell_here")], [(Str.ofString "_law_cell_here")], f__law_word⟩,
  ⟨((Str.ofString "_law_words"), none), (Str.ofString "_law_words"), (Str.ofString "_law_words"), top 18, [(Str.ofString "_law_script"), (Str.ofString "_law_k"), (Str.ofString "_law_many"), (Str.ofString "_law_j")], [(Str.ofString "_law_script"), (Str.ofString "_law_k"), (Str.ofString "_law_many")], f__law_words⟩,
  ⟨((Str.ofString "_law_address"), none), (Str.ofString "_law_address"), (Str.ofString "_law_address"), top 19, [(Str.ofString "_law_script"), (Str.ofString "_law_k"), (Str.ofString "_law_many"), (Str.ofString "_law_cell_here"), (Str.ofString "_law_spot"), (Str.ofString "_law_stride"), (Str.ofString "_law_far")], [(Str.ofString "_law_script"), (Str.ofString "_law_k"), (Str.ofString "_law_many")], f__law_address⟩,
  ⟨((Str.ofString "_law_deed_by"), none), (Str.ofString "_law_deed_by"), (Str.ofString "_law_deed_by"), top 20, [(Str.ofString "_law_script"), (Str.ofString "_law_k"), (Str.ofString "_law_many"), (Str.ofString "_law_cell_here"), (Str.ofString "_law_word_here"), (Str.ofString "_law_some")], [(Str.ofString "_law_script"), (Str.ofString "_law_k"), (Str.ofString "_law_many")], f__law_deed_by⟩,
  ⟨((Str.ofString "_law_did"), none), (Str.ofString "_law_did"), (Str.ofString "_law_did"), top 21, [(Str.ofString "_law_near"), (Str.ofString "_law_deed")], [(Str.ofString "_law_near"), (Str.ofString "_law_deed")], f__law_did⟩,
  ⟨((Str.ofString "_law_whole"), none), (Str.ofString "_law_whole"), (Str.ofString "_law_whole"), top 22, [(Str.ofString "_law_found"), (Str.ofString "_law_due")], [(Str.ofString "_law_found"), (Str.ofString "_law_due")], f__law_whole⟩,
  ⟨((Str.ofString "_law_classes"), none), (Str.ofString "_law_classes"), (Str.ofString "_law_classes"), top 23, [(Str.ofString "_law_e")], [(Str.ofString "_law_e")], f__law_classes⟩]
def defs3 : List DefX := [
  ⟨((Str.ofString "_law_no_sets"), none), (Str.ofString "_law_no_sets"), (Str.ofString "_law_no_sets"), top 24, [(Str.ofString "_law_slow"), (Str.ofString "_law_thing"), (Str.ofString "_law_e")], [(Str.ofString "_law_slow"), (Str.ofString "_law_thing")], f__law_no_sets⟩,
  ⟨((Str.ofString "_law_no_place"), none), (Str.ofString "_law_no_place"), (Str.ofString "_law_no_place"), top 25, [(Str.ofString "_law_near"), (Str.ofString "_law_way"), (Str.ofString "_law_thing"), (Str.ofString "_law_e")], [(Str.ofString "_law_near"), (Str.ofString "_law_way"), (Str.ofString "_law_thing")], f__law_no_place⟩,
  ⟨((Str.ofString "_law_odd"), none), (Str.ofString "_law_odd"), (Str.ofString "_law_odd"), top 26, [(Str.ofString "_law_cell_here"), (Str.ofString "_law_many"), (Str.ofString "_law_some")], [(Str.ofString "_law_cell_here"), (Str.ofString "_law_many")], f__law_odd⟩,
  ⟨((Str.ofString "law"), none), (Str.ofString "law"), (Str.ofString "law"), top 27, [(Str.ofString "_law_script"), (Str.ofString "_law_many"), (Str.ofString "_law_words_here"), (Str.ofString "_law_slow"), (Str.ofString "_law_cell_here"), (Str.ofString "_law_bad"), (Str.ofString "_law_near"), (Str.ofString "_law_k"), (Str.ofString "_law_held"), (Str.ofString "_law_counts"), (Str.ofString "_law_more")], [(Str.ofString "_law_script")], f_law⟩]
def ats0 : List Str := [(Str.ofString "cells"), (Str.ofString "told_lines"), (Str.ofString "put_lines"), (Str.ofString "number"), (Str.ofString "fours"), (Str.ofString "changed"), (Str.ofString "slow"), (Str.ofString "rooms"), (Str.ofString "four"), (Str.ofString "put_four"), (Str.ofString "need_line"), (Str.ofString "reads"), (Str.ofString "writes"), (Str.ofString "whole"), (Str.ofString "size")]
def ats1 : List Str := [(Str.ofString "shown"), (Str.ofString "need_address"), (Str.ofString "room_of"), (Str.ofString "line_of"), (Str.ofString "write_back"), (Str.ofString "come_to"), (Str.ofString "get"), (Str.ofString "put"), (Str.ofString "cost"), (Str.ofString "look"), (Str.ofString "settle"), (Str.ofString "held")]
def cls0 : List (Str × Cl) := [
  ⟨(Str.ofString "Slow"), ⟨false, some 0, [0, 1, 2], [(8, 1), (9, 2), (10, 3), (11, 4), (12, 5), (13, 6), (14, 7)], [0]⟩⟩,
  ⟨(Str.ofString "Line"), ⟨false, some 8, [3, 4, 5], [(15, 9)], [1]⟩⟩,
  ⟨(Str.ofString "Near"), ⟨false, some 10, [6, 7], [(16, 11), (17, 12), (18, 13), (19, 14), (20, 15), (21, 16), (22, 17), (23, 18), (24, 19), (25, 20), (26, 21)], [2]⟩⟩]
def con0 : List (Str × T) := [((Str.ofString "IN_LINE"), .int 4), ((Str.ofString "ROOM"), .int 2), ((Str.ofString "NEAR_COST"), .int 1), ((Str.ofString "COME_COST"), .int 5), ((Str.ofString "CHANGED_COST"), .int 9)]
def exc0 : List (Str × List Nat) := [((Str.ofString "MillError"), [0]), ((Str.ofString "NoLine"), [1, 0]), ((Str.ofString "NoSets"), [2, 0]), ((Str.ofString "NoPlace"), [3, 0])]
def lawD : LawD := ⟨defs0 ++ defs1 ++ defs2 ++ defs3, cls0, con0, ats0 ++ ats1, exc0, []⟩
abbrev tab : Tab := lawD.tab
theorem tab_Slow_init : tab.fn 0 = some f_Slow_init := rfl
theorem tab_Slow_four : tab.fn 1 = some f_Slow_four := rfl
theorem tab_Slow_put_four : tab.fn 2 = some f_Slow_put_four := rfl
theorem tab_Slow_need_line : tab.fn 3 = some f_Slow_need_line := rfl
theorem tab_Slow_reads : tab.fn 4 = some f_Slow_reads := rfl
theorem tab_Slow_writes : tab.fn 5 = some f_Slow_writes := rfl
theorem tab_Slow_whole : tab.fn 6 = some f_Slow_whole := rfl
theorem tab_Slow_size : tab.fn 7 = some f_Slow_size := rfl
theorem tab_Line_init : tab.fn 8 = some f_Line_init := rfl
theorem tab_Line_shown : tab.fn 9 = some f_Line_shown := rfl
theorem tab_Near_init : tab.fn 10 = some f_Near_init := rfl
theorem tab_Near_need_address : tab.fn 11 = some f_Near_need_address := rfl
theorem tab_Near_room_of : tab.fn 12 = some f_Near_room_of := rfl
theorem tab_Near_line_of : tab.fn 13 = some f_Near_line_of := rfl
theorem tab_Near_write_back : tab.fn 14 = some f_Near_write_back := rfl
theorem tab_Near_come_to : tab.fn 15 = some f_Near_come_to := rfl
theorem tab_Near_get : tab.fn 16 = some f_Near_get := rfl
theorem tab_Near_put : tab.fn 17 = some f_Near_put := rfl
theorem tab_Near_cost : tab.fn 18 = some f_Near_cost := rfl
theorem tab_Near_look : tab.fn 19 = some f_Near_look := rfl
theorem tab_Near_settle : tab.fn 20 = some f_Near_settle := rfl
theorem tab_Near_held : tab.fn 21 = some f_Near_held := rfl
theorem tab__law_cell : tab.fn 22 = some f__law_cell := rfl
theorem tab__law_word : tab.fn 23 = some f__law_word := rfl
theorem tab__law_words : tab.fn 24 = some f__law_words := rfl
theorem tab__law_address : tab.fn 25 = some f__law_address := rfl
theorem tab__law_deed_by : tab.fn 26 = some f__law_deed_by := rfl
theorem tab__law_did : tab.fn 27 = some f__law_did := rfl
theorem tab__law_whole : tab.fn 28 = some f__law_whole := rfl
theorem tab__law_classes : tab.fn 29 = some f__law_classes := rfl
theorem tab__law_no_sets : tab.fn 30 = some f__law_no_sets := rfl
theorem tab__law_no_place : tab.fn 31 = some f__law_no_place := rfl
theorem tab__law_odd : tab.fn 32 = some f__law_odd := rfl
theorem tab_law : tab.fn 33 = some f_law := rfl
end Rw
namespace Rw
open PySem PySem.Spec PyProof.Rows L2 PySem.W
abbrev iV (i : Int) : Val := .t (.int i)
abbrev bV (b : Bool) : Val := .t (.bl b)
/-! ### the slow memory -/
structure SlowD where
  cells : List Int
  told : Int
  put : Int
def slowC (D : SlowD) : Cell := .ins 0 [(0, .t (.lst (D.cells.map .int))), (1, iV D.told), (2, iV D.put)]
section
variable {S : Store} {s : Nat} {D : SlowD}
theorem sl_cells (h : S[s]? = some (slowC D)) : fldV tab (.r s) 0 S = .ok (.t (.lst (D.cells.map .int))) S := fld_r h rfl rfl
theorem sl_told (h : S[s]? = some (slowC D)) : fldV tab (.r s) 1 S = .ok (iV D.told) S := fld_r h rfl rfl
theorem sl_put (h : S[s]? = some (slowC D)) : fldV tab (.r s) 2 S = .ok (iV D.put) S := fld_r h rfl rfl
theorem sl_m {f g m : Nat} (h : S[s]? = some (slowC D)) (hn : [(0, Val.t (.lst (D.cells.map .int))), (1, iV D.told), (2, iV D.put)].lookup f = none) (hg : ((tab.cl 0).bind fun k => k.meths.lookup f) = some g) (ha : arity tab g m = true) :
    methV tab f m (.r s) S = .ok g S := meth_h h hn hg ha
theorem con_line : tab.con 0 = some (.int 4) := rfl
theorem big4 : bigI 4 = true := by decide
theorem call_need_line (n : Nat) (h : S[s]? = some (slowC D)) (k : Int) (h0 : 0 ≤ k) (h1 : k * 4 < D.cells.length) : callF tab (n + 1) 3 [.r s, iV k] S = .ok (.t .non) S := by
  rw [callI _ [some (.r s), some (iV k)] tab_Slow_need_line rfl rfl, c_Slow_need_line]
  have f := sl_cells h
  have h2 : (0 : Int) ≤ k * 4 := by omega
  rw [stay_ifF (by simp (decide := true) [dB, dOr, dE, dEs, con_line, binI_mulR big4, f, h1, h2])]
  rfl
theorem call_slow_size (n : Nat) (h : S[s]? = some (slowC D)) : callF tab (n + 1) 7 [.r s] S = .ok (iV D.cells.length) S := by
  rw [callI _ [some (.r s)] tab_Slow_size rfl rfl, c_Slow_size]
  have f := sl_cells h
  simp (decide := true) [dSs, dS, dE, dEs, f]
theorem call_slow_whole (n : Nat) (h : S[s]? = some (slowC D)) (hz : D.cells.length ≤ szLine) : callF tab (n + 1) 6 [.r s] S = .ok (.t (.lst (D.cells.map .int))) S := by
  rw [callI _ [some (.r s)] tab_Slow_whole rfl rfl, c_Slow_whole]
  have f := sl_cells h
  rw [step_ret (.t (.lst (D.cells.map .int))) (by rw [dE_blt (v := .t (.lst (D.cells.map .int))) (by exact f), blt_list _ _ (by rw [List.length_map]; exact hz)])]
  rfl
def line4 (D : SlowD) (k : Int) : List Int := (D.cells.drop (k * 4).toNat).take 4
theorem call_four (n : Nat) (h : S[s]? = some (slowC D)) (k : Int) (h0 : 0 ≤ k) (h1 : k * 4 + 4 ≤ D.cells.length) (hz : D.cells.length ≤ 64) :
    callF tab (n + 2) 1 [.r s, iV k] S = .ok (.t (.tup ((line4 D k).map .int))) (S.set s (slowC { D with told := D.told + 1 })) := by
  rw [callI _ [some (.r s), some (iV k)] tab_Slow_four rfl rfl, c_Slow_four]
  have ez : szLine = 16777216 := rfl
  have m := sl_m (f := 10) (g := 3) (m := 2) h rfl rfl rfl
  have c := call_need_line n h k h0 (by omega)
  rw [step_expr (S1 := S) (.t .non) (by simp (decide := true) [dE, dEs, IEs.len, m, c])]
  have f := sl_told h
  have hs := setF_h (tab := tab) (f := 1) (v := iV (D.told + 1)) h rfl (show 3 < 1000 by decide)
  have e1 : dS tab (callF tab (n + 1)) (.augF (.var 0) 1 .Add (.con (.int 1))) [some (.r s), some (iV k)] S = .nx [some (.r s), some (iV k)] (S.set s (slowC { D with told := D.told + 1 })) := by
    simp (decide := true) [dS, dE, f, binA, binT, hs]
    rfl
  rw [show ∀ ss, dSs tab (callF tab (n + 1)) (.cons (.augF (.var 0) 1 .Add (.con (.int 1))) ss) [some (.r s), some (iV k)] S = dSs tab (callF tab (n + 1)) ss [some (.r s), some (iV k)] (S.set s (slowC { D with told := D.told + 1 })) from fun ss => by show (dS _ _ _ _ _).seq _ = _; rw [e1]; rfl]
  have hl : s < S.length := (List.getElem?_eq_some_iff.mp h).1
  have h' : (S.set s (slowC { D with told := D.told + 1 }))[s]? = some (slowC { D with told := D.told + 1 }) := List.getElem?_set_self hl
  generalize S.set s (slowC { D with told := D.told + 1 }) = S' at *
  have f' := sl_cells h'
  have k2 := slc_two (D.cells.map T.int) (k * 4) S' (by omega) (by rw [List.length_map]; omega) (by rw [List.length_map]; omega)
  rw [step_ret (.t (.tup ((line4 D k).map .int))) (by
    rw [dE_blt (v := .t (.lst ((line4 D k).map .int))) (S1 := S') (by
      simp (decide := true) [dE, f', con_line, binI_mulR big4, isNo, optI, k2, line4]), blt_tuple _ _ _ (by rw [List.length_map]; unfold line4; rw [List.length_take]; omega)])]
  rfl
/-- a line put -/
def putL (D : SlowD) (k : Int) (ws : List Int) : SlowD := { D with put := D.put + 1, cells := D.cells.take (k * 4).toNat ++ ws ++ D.cells.drop (k * 4 + 4).toNat }
theorem call_put_four (n : Nat) (h : S[s]? = some (slowC D)) (k : Int) (ws : List Int) (h0 : 0 ≤ k) (h1 : k * 4 + 4 ≤ D.cells.length) (hz : D.cells.length ≤ 64) (hw : ws.length = 4) :
    callF tab (n + 2) 2 [.r s, iV k, .t (.tup (ws.map .int))] S = .ok (.t .non) (S.set s (slowC (putL D k ws))) := by
  rw [callI _ [some (.r s), some (iV k), some (.t (.tup (ws.map .int))), none] tab_Slow_put_four rfl rfl, c_Slow_put_four]
  have ez : szLine = 16777216 := rfl
  have m := sl_m (f := 10) (g := 3) (m := 2) h rfl rfl rfl
  have c := call_need_line n h k h0 (by omega)
  rw [step_expr (S1 := S) (.t .non) (by simp (decide := true) [dE, dEs, IEs.len, m, c])]
  have f := sl_put h
  have hs := setF_h (tab := tab) (f := 2) (v := iV (D.put + 1)) h rfl (show 3 < 1000 by decide)
  let env : Env := [some (.r s), some (iV k), some (.t (.tup (ws.map .int))), none]
  have e1 : dS tab (callF tab (n + 1)) (.augF (.var 0) 2 .Add (.con (.int 1))) env S = .nx env (S.set s (slowC { D with put := D.put + 1 })) := by
    simp (decide := true) [dS, dE, f, binA, binT, hs, env]
    rfl
  rw [show ∀ ss, dSs tab (callF tab (n + 1)) (.cons (.augF (.var 0) 2 .Add (.con (.int 1))) ss) env S = dSs tab (callF tab (n + 1)) ss env (S.set s (slowC { D with put := D.put + 1 })) from fun ss => by show (dS _ _ _ _ _).seq _ = _; rw [e1]; rfl]
  have hl : s < S.length := (List.getElem?_eq_some_iff.mp h).1
  have h' : (S.set s (slowC { D with put := D.put + 1 }))[s]? = some (slowC { D with put := D.put + 1 }) := List.getElem?_set_self hl
  rw [stay_set (iV (k * 4)) (by simp (decide := true) [dE, con_line, binI_mulR big4, env])]
  simp only [List.set_cons_succ, List.set_cons_zero, env]
  have f' := sl_cells h'
  have hl' : s < (S.set s (slowC { D with put := D.put + 1 })).length := by rw [List.length_set]; exact hl
  have k1 := slc_take (D.cells.map T.int) (k := k * 4) (S.set s (slowC { D with put := D.put + 1 })) (by omega) (by rw [List.length_map]; omega)
  have k2 := slc_drop (D.cells.map T.int) (k := k * 4 + 4) (S.set s (slowC { D with put := D.put + 1 })) (by omega) (by rw [List.length_map]; omega) (by rw [List.length_map]; omega)
  have k3 := blt_listT (ws.map T.int) (S.set s (slowC { D with put := D.put + 1 })) (by rw [List.length_map]; omega)
  have hs2 := setF_h (tab := tab) (f := 0) (v := .t (.lst ((putL D k ws).cells.map .int))) h' rfl (show 3 < 1000 by decide)
  have a1 := alloc_t ((D.cells.map T.int).take (k * 4).toNat ++ ws.map T.int) (S.set s (slowC { D with put := D.put + 1 })) (by rw [List.length_append, List.length_take, List.length_map, List.length_map]; omega)
  have a2 := alloc_t ((D.cells.map T.int).take (k * 4).toNat ++ ws.map T.int ++ (D.cells.map T.int).drop (k * 4 + 4).toNat) (S.set s (slowC { D with put := D.put + 1 })) (by rw [List.length_append, List.length_append, List.length_take, List.length_drop, List.length_map, List.length_map]; omega)
  have em : (D.cells.map T.int).take (k * 4).toNat ++ ws.map T.int ++ (D.cells.map T.int).drop (k * 4 + 4).toNat = (putL D k ws).cells.map T.int := by
    unfold putL
    simp only [List.map_append, List.map_take, List.map_drop]
  rw [em] at a2
  generalize hS1 : S.set s (slowC { D with put := D.put + 1 }) = S1 at *
  have ev : dE tab (callF tab (n + 1)) (.bin .Add (.bin .Add (.slc false (.fld (.var 0) 0) (.con .non) (.var 3)) (.blt .list false (.cons (.var 2) .nil))) (.slc false (.fld (.var 0) 0) (.bin .Add (.var 3) (.glob 0)) (.con .non))) [some (.r s), some (iV k), some (.t (.tup (ws.map .int))), some (iV (k * 4))] S1 = .ok (.t (.lst ((putL D k ws).cells.map .int))) S1 := by
    simp only [dE, dEs, isNo, List.getElem?_cons_zero, List.getElem?_cons_succ, f', R.bind_ok, ofT_some, con_line, optI, if_true, if_false, Bool.false_eq_true, k1, k3, binV_cat, a1, binV_int, binI_add, Option.map_some, k2, em, a2]
  show resI (RS.seq (R.st (dE _ _ _ _ _) _ _) _) = _
  rw [ev]
  show resI (RS.seq (match setFV tab (.r s) 0 (.t (.lst ((putL D k ws).cells.map .int))) S1 with
    | some S1 => RS.nx _ S1
    | none => .bad) _) = _
  rw [hs2, ← hS1, List.set_set]
  rfl
end
/-! ### lines, rooms, the near memory -/
structure LineD where
  o : Nat
  f : Nat
  num : Int
  w : List Int
  ch : Bool
def lineC (L : LineD) : Cell := .ins 1 [(3, iV L.num), (4, .r L.f), (5, bV L.ch)]
def lineF (L : LineD) : Fr := [(L.o, lineC L), (L.f, .lst (L.w.map iV))]
structure RoomD where
  o : Nat
  ls : List LineD
def roomF (R : RoomD) : Fr := (R.o, .lst (R.ls.map fun L => .r L.o)) :: R.ls.flatMap lineF
structure NearD where
  o : Nat
  s : Nat
  r : Nat
  sl : SlowD
  rooms : List RoomD
def nearC (D : NearD) : Cell := .ins 2 [(6, .r D.s), (7, .r D.r)]
def roomsC (D : NearD) : Cell := .lst (D.rooms.map fun R => .r R.o)
def nearF (D : NearD) : Fr := (D.o, nearC D) :: (D.s, slowC D.sl) :: (D.r, roomsC D) :: D.rooms.flatMap roomF
/-- the place of a line's room -/
def NearD.pl (D : NearD) (n : Int) : Nat := (n % D.rooms.length).toNat
def NearD.room (D : NearD) (n : Int) : RoomD := (D.rooms[D.pl n]?).getD ⟨0, []⟩
def NearD.line (D : NearD) (n : Int) : Option LineD := (D.room n).ls.find? fun L => decide (L.num = n)
/-- a line by what it says -/
structure LineA where
  num : Int
  w : List Int
  ch : Bool
def absL (L : LineD) : LineA := ⟨L.num, L.w, L.ch⟩
structure RoomOk (len m : Nat) (i : Nat) (ls : List LineA) : Prop where
  few : ls.length ≤ 2
  lo : ∀ L ∈ ls, 0 ≤ L.num
  hi : ∀ L ∈ ls, L.num * 4 + 4 ≤ len
  w : ∀ L ∈ ls, L.w.length = 4
  pl : ∀ L ∈ ls, (L.num % m).toNat = i
  nd : (ls.map (·.num)).Nodup
structure NearOk (D : NearD) : Prop where
  rp : 0 < D.rooms.length
  r4 : D.rooms.length ≤ 4
  len : D.sl.cells.length ≤ 64
  four : (D.sl.cells.length : Int) % 4 = 0
  room : ∀ i R, D.rooms[i]? = some R → RoomOk D.sl.cells.length D.rooms.length i (R.ls.map absL)
section
variable {S : Store} {D : NearD} {rest : Fr}
theorem pl_lt (h : NearOk D) (n : Int) : D.pl n < D.rooms.length := by
  have := mod_bd n (j := D.rooms.length) (by have := h.rp; omega)
  unfold NearD.pl
  omega
theorem room_at (h : NearOk D) (n : Int) : D.rooms[D.pl n]? = some (D.room n) := by
  unfold NearD.room
  rw [List.getElem?_eq_getElem (pl_lt h n)]
  rfl
theorem room_ok (h : NearOk D) (n : Int) : RoomOk D.sl.cells.length D.rooms.length (D.pl n) ((D.room n).ls.map absL) := h.room _ _ (room_at h n)
theorem h_near (H : Hs S (nearF D ++ rest)) : S[D.o]? = some (nearC D) := H.get (by simp [nearF])
theorem h_slow (H : Hs S (nearF D ++ rest)) : S[D.s]? = some (slowC D.sl) := H.get (by simp [nearF])
theorem h_rooms (H : Hs S (nearF D ++ rest)) : S[D.r]? = some (roomsC D) := H.get (by simp [nearF])
theorem mem_room (h : NearOk D) (n : Int) {p : Nat × Cell} (m : p ∈ roomF (D.room n)) : p ∈ nearF D ++ rest := by
  refine List.mem_append_left _ ?_
  unfold nearF
  refine List.mem_cons_of_mem _ (List.mem_cons_of_mem _ (List.mem_cons_of_mem _ ?_))
  exact List.mem_flatMap.mpr ⟨_, List.mem_of_getElem? (room_at h n), m⟩
theorem h_room (h : NearOk D) (H : Hs S (nearF D ++ rest)) (n : Int) : S[(D.room n).o]? = some (.lst ((D.room n).ls.map fun L => .r L.o)) := H.get (mem_room h n (by simp [roomF]))
theorem h_line (h : NearOk D) (H : Hs S (nearF D ++ rest)) (n : Int) {L : LineD} (m : L ∈ (D.room n).ls) : S[L.o]? = some (lineC L) := H.get (mem_room h n (List.mem_cons_of_mem _ (List.mem_flatMap.mpr ⟨L, m, by simp [lineF]⟩)))
theorem h_four (h : NearOk D) (H : Hs S (nearF D ++ rest)) (n : Int) {L : LineD} (m : L ∈ (D.room n).ls) : S[L.f]? = some (.lst (L.w.map iV)) := H.get (mem_room h n (List.mem_cons_of_mem _ (List.mem_flatMap.mpr ⟨L, m, by simp [lineF]⟩)))
theorem nr_slow (H : Hs S (nearF D ++ rest)) : fldV tab (.r D.o) 6 S = .ok (.r D.s) S := fld_r (h_near H) rfl rfl
theorem nr_rooms (H : Hs S (nearF D ++ rest)) : fldV tab (.r D.o) 7 S = .ok (.r D.r) S := fld_r (h_near H) rfl rfl
theorem nr_len (H : Hs S (nearF D ++ rest)) : lenV (.r D.r) S = .ok (iV D.rooms.length) S := by
  have e := len_r (show S[D.r]? = some (.lst _) from h_rooms H)
  rw [List.length_map] at e
  exact e
theorem nr_sub (h : NearOk D) (H : Hs S (nearF D ++ rest)) (n : Int) : subV (.r D.r) (iV (n % D.rooms.length)) S = .ok (.r (D.room n).o) S := by
  have b := mod_bd n (j := D.rooms.length) (by have := h.rp; omega)
  refine sub_h (h_rooms H) ?_
  rw [atL_nat b.1 (by rw [List.length_map]; exact b.2), List.getElem?_map]
  show (D.rooms[D.pl n]?).map _ = _
  rw [room_at h n]
  rfl
theorem nr_m {f g m : Nat} (H : Hs S (nearF D ++ rest)) (hn : [(6, Val.r D.s), (7, .r D.r)].lookup f = none) (hg : ((tab.cl 2).bind fun k => k.meths.lookup f) = some g) (ha : arity tab g m = true) :
    methV tab f m (.r D.o) S = .ok g S := meth_h (h_near H) hn hg ha
theorem ln_num {L : LineD} (h : S[L.o]? = some (lineC L)) : fldV tab (.r L.o) 3 S = .ok (iV L.num) S := fld_r h rfl rfl
theorem ln_four {L : LineD} (h : S[L.o]? = some (lineC L)) : fldV tab (.r L.o) 4 S = .ok (.r L.f) S := fld_r h rfl rfl
theorem ln_ch {L : LineD} (h : S[L.o]? = some (lineC L)) : fldV tab (.r L.o) 5 S = .ok (bV L.ch) S := fld_r h rfl rfl
theorem call_need_address (n : Nat) (h : NearOk D) (H : Hs S (nearF D ++ rest)) (a : Int) (h0 : 0 ≤ a) (h1 : a < D.sl.cells.length) : callF tab (n + 2) 11 [.r D.o, iV a] S = .ok (.t .non) S := by
  rw [callI _ [some (.r D.o), some (iV a)] tab_Near_need_address rfl rfl, c_Near_need_address]
  have f := nr_slow H
  have m := sl_m (f := 14) (g := 7) (m := 1) (h_slow H) rfl rfl rfl
  have c := call_slow_size n (h_slow H)
  rw [stay_ifF (by simp (decide := true) [dB, dOr, dE, dEs, IEs.len, f, m, c, h0, h1])]
  rfl
theorem call_room_of (n : Nat) (h : NearOk D) (H : Hs S (nearF D ++ rest)) (k : Int) : callF tab (n + 1) 12 [.r D.o, iV k] S = .ok (.r (D.room k).o) S := by
  rw [callI _ [some (.r D.o), some (iV k)] tab_Near_room_of rfl rfl, c_Near_room_of]
  have f := nr_rooms H
  have e := nr_len H
  have u := nr_sub h H k
  have rp := h.rp
  simp (decide := true) [dSs, dS, dE, dEs, f, e, u, binI_mod (show (0 : Int) < D.rooms.length by omega)]
/-- a loop that looks for something -/
theorem forL_find {w : Wk} {i : Nat} {body : Env → Store → RS} {S : Store} (hw : okW w S) {α : Type} (vv : α → Val) (p : α → Bool) (g : α → Val) : ∀ (its : List α) (env : Env), (∀ x ∈ its, ∀ e, (e = env ∨ ∃ y, e = env.set i y) → body (e.set i (some (vv x))) S = if p x then .rt (g x) S else .nx (e.set i (some (vv x))) S) →
    ∃ env', (env' = env ∨ ∃ y, env' = env.set i y) ∧ forL w false [i] body (its.map vv) env S = (match its.find? p with | some x => .rt (g x) S | none => .nx env' S)
  | [], env, _ => ⟨env, .inl rfl, by rw [List.map_nil, forL_nil hw]; rfl⟩
  | x :: l, env, hb => by
    have h0 := hb x List.mem_cons_self env (.inl rfl)
    rw [List.map_cons, forL_cons hw]
    show ∃ env', _ ∧ (match body (env.set i (some (vv x))) S with
      | .nx env2 S2 => forL w false [i] body (l.map vv) env2 S2
      | .ct env2 S2 => forL w false [i] body (l.map vv) env2 S2
      | .bk env2 S2 => .nx env2 S2
      | m => m) = _
    rw [h0]
    cases q : p x with
    | true =>
      refine ⟨env, .inl rfl, ?_⟩
      rw [List.find?_cons_of_pos q]
      rfl
    | false =>
      obtain ⟨e', he, hf⟩ := forL_find hw vv p g l (env.set i (some (vv x))) (fun y hy e he => hb y (List.mem_cons_of_mem _ hy) e (by
        rcases he with rfl | ⟨z, rfl⟩
        · exact .inr ⟨_, rfl⟩
        · exact .inr ⟨z, by rw [List.set_set]⟩))
      refine ⟨e', ?_, ?_⟩
      · rcases he with rfl | ⟨z, rfl⟩
        · exact .inr ⟨_, rfl⟩
        · exact .inr ⟨z, by rw [List.set_set]⟩
      · rw [List.find?_cons_of_neg (by rw [q]; decide)]
        exact hf
def lineV (o : Option LineD) : Val := match o with
  | some L => .r L.o
  | none => .t .non
theorem call_line_of (n : Nat) (h : NearOk D) (H : Hs S (nearF D ++ rest)) (a : Int) (h0 : 0 ≤ a) : callF tab (n + 2) 13 [.r D.o, iV a] S = .ok (lineV (D.line (a / 4))) S := by
  rw [callI _ [some (.r D.o), some (iV a), none, none] tab_Near_line_of rfl rfl, c_Near_line_of]
  rw [stay_set (iV (a / 4)) (by simp (decide := true) [dE, con_line, binI_div])]
  simp only [List.set_cons_succ, List.set_cons_zero]
  have m := nr_m (f := 17) (g := 12) (m := 2) H rfl rfl rfl
  have c := call_room_of n h H (a / 4)
  have hr := h_room h H (a / 4)
  rw [step_for (vs := [.r (D.room (a / 4)).o]) (its := (D.room (a / 4)).ls.map fun L => .r L.o) (w := some ((D.room (a / 4)).o, (D.room (a / 4)).ls.map fun L => .r L.o)) (S1 := S) (S2 := S) (by simp (decide := true) [dE, dEs, IEs.len, m, c]) (items_h hr)]
  obtain ⟨env', he, hf⟩ := forL_find (w := some ((D.room (a / 4)).o, (D.room (a / 4)).ls.map fun L => .r L.o)) (i := 3) (body := fun env S => dSs tab (callF tab (n + 1)) b_Near_line_of_0 env S) (S := S) hr (fun L => .r L.o) (fun L => decide (L.num = a / 4)) (fun L => .r L.o) (D.room (a / 4)).ls
    [some (.r D.o), some (iV a), some (iV (a / 4)), none] (fun L hL e he => by
      have f := ln_num (h_line h H (a / 4) hL)
      rcases he with rfl | ⟨y, rfl⟩ <;>
      · unfold b_Near_line_of_0
        by_cases q : L.num = a / 4
        · rw [if_pos (decide_eq_true q)]
          simp (decide := true) [dSs, dS, dB, dE, f, q]
        · rw [if_neg (by simpa using q)]
          simp (decide := true) [dSs, dS, dB, dE, f, q])
  rw [hf, show (D.room (a / 4)).ls.find? (fun L => decide (L.num = a / 4)) = D.line (a / 4) from rfl]
  cases D.line (a / 4) with
  | some L => rfl
  | none => rcases he with rfl | ⟨y, rfl⟩ <;> rfl
end
theorem set_last {S : List Cell} {c c' : Cell} : (S ++ [c]).set S.length c' = S ++ [c'] := by
  rw [List.set_append_right _ _ (Nat.le_refl _)]
  simp
theorem set_last2 {S : List Cell} {c d c' : Cell} : (S ++ [c] ++ [d]).set S.length c' = S ++ [c'] ++ [d] := by
  rw [List.set_append_left _ _ (by simp), set_last]
theorem new_line (n : Nat) (S : Store) (k : Int) (ws : List Int) (b : Bool) (hw : ws.length ≤ 64) :
    newV tab (callF tab (n + 1)) 1 [iV k, .t (.tup (ws.map .int)), bV b] S = .ok (.r S.length) (S ++ [lineC ⟨S.length, S.length + 1, k, ws, b⟩] ++ [.lst (ws.map iV)]) := by
  have ez : szLine = 16777216 := rfl
  have e0 : callF tab (n + 1) 8 [.r S.length, iV k, .t (.tup (ws.map .int)), bV b] (S ++ [.ins 1 []]) = .ok (.t .non) (S ++ [lineC ⟨S.length, S.length + 1, k, ws, b⟩] ++ [.lst (ws.map iV)]) := by
    rw [callI _ [some (.r S.length), some (iV k), some (.t (.tup (ws.map .int))), some (bV b)] tab_Line_init rfl rfl, c_Line_init]
    have h1 := setF_h (tab := tab) (f := 3) (v := iV k) (get_len S (.ins 1 [])) rfl (by decide)
    rw [set_last] at h1
    have h2 := setF_h (tab := tab) (f := 4) (v := .r (S.length + 1)) (S := S ++ [.ins 1 (putN 3 (iV k) [])] ++ [.lst (ws.map iV)]) (n := S.length) (c := 1) (fs := putN 3 (iV k) []) (by rw [List.getElem?_append_left (by simp)]; exact get_len S _) rfl (show 1 < 1000 by decide)
    rw [set_last2] at h2
    have h3 := setF_h (tab := tab) (f := 5) (v := bV b) (S := S ++ [.ins 1 (putN 4 (.r (S.length + 1)) (putN 3 (iV k) []))] ++ [.lst (ws.map iV)]) (n := S.length) (c := 1) (fs := putN 4 (.r (S.length + 1)) (putN 3 (iV k) [])) (by rw [List.getElem?_append_left (by simp)]; exact get_len S _) rfl (show 2 < 1000 by decide)
    rw [set_last2] at h3
    have a1 : bltV .list true [.t (.tup (ws.map .int))] (S ++ [.ins 1 (putN 3 (iV k) [])]) = .ok (.r (S.length + 1)) (S ++ [.ins 1 (putN 3 (iV k) [])] ++ [.lst (ws.map iV)]) := by
      have z := alloc_r ((ws.map T.int).map Val.t) (S ++ [.ins 1 (putN 3 (iV k) [])]) (by rw [List.length_map, List.length_map]; omega)
      rw [List.length_append, List.map_map] at z
      show alloc true ((ws.map T.int).map Val.t) _ = _
      rw [List.map_map]
      exact z
    simp (decide := true) only [dSs, dS, dE, dEs, List.getElem?_cons_zero, List.getElem?_cons_succ, R.bind_ok, R.st_ok, seq_nx, h1, a1, h2, h3]
    rfl
  show (callF tab (n + 1) 8 [.r S.length, iV k, .t (.tup (ws.map .int)), bV b] (S ++ [.ins 1 []])).bind _ = _
  rw [e0]
  rfl
/-- the slow memory behind a line's writing back -/
def wbD (sl : SlowD) (ch : Bool) (k : Int) (ws : List Int) : SlowD := if ch then putL sl k ws else sl
section
variable {S : Store} {D : NearD} {rest : Fr}
theorem call_write_back (n : Nat) {L : LineD} {sl : SlowD} (ho : S[D.o]? = some (nearC D)) (hs : S[D.s]? = some (slowC sl)) (hl : S[L.o]? = some (lineC L)) (hf : S[L.f]? = some (.lst (L.w.map iV))) (ne : D.s ≠ L.o) (h0 : 0 ≤ L.num) (h1 : L.num * 4 + 4 ≤ sl.cells.length) (hz : sl.cells.length ≤ 64) (hw : L.w.length = 4) :
    callF tab (n + 3) 14 [.r D.o, .r L.o] S = .ok (.t .non) (if L.ch then (S.set D.s (slowC (putL sl L.num L.w))).set L.o (lineC { L with ch := false }) else S) := by
  rw [callI _ [some (.r D.o), some (.r L.o)] tab_Near_write_back rfl rfl, c_Near_write_back]
  have ez : szLine = 16777216 := rfl
  have f1 := ln_ch hl
  cases hc : L.ch with
  | false =>
    rw [hc] at f1
    rw [stay_ifF (by simp (decide := true) [dB, dE, f1])]
    rfl
  | true =>
    rw [hc] at f1
    rw [stay_if true (by simp (decide := true) [dB, dE, f1]), if_pos rfl]
    have f2 : fldV tab (.r D.o) 6 S = .ok (.r D.s) S := fld_r ho rfl rfl
    have f3 := ln_num hl
    have f4 := ln_four hl
    have m := sl_m (f := 9) (g := 2) (m := 3) hs rfl rfl rfl
    have e4 : bltV .tuple false [.r L.f] S = .ok (.t (.tup (L.w.map .int))) S := blt_tupleR (L.w.map T.int) L.f false S (by rw [listV_r hf, List.map_map]; rfl) (by rw [List.length_map]; omega)
    have c := call_put_four n hs L.num L.w h0 h1 hz hw
    rw [step_expr (S1 := S.set D.s (slowC (putL sl L.num L.w))) (.t .non) (by simp (decide := true) [dE, dEs, IEs.len, f2, m, f3, f4, e4, c])]
    have hl' : (S.set D.s (slowC (putL sl L.num L.w)))[L.o]? = some (lineC L) := by rw [List.getElem?_set_ne ne]; exact hl
    have g := setF_h (tab := tab) (f := 5) (v := bV false) hl' rfl (show 3 < 1000 by decide)
    simp (decide := true) only [dSs, dS, dE, List.getElem?_cons_zero, List.getElem?_cons_succ, R.bind_ok, R.st_ok, seq_nx, g]
    rfl
theorem come_tail (n : Nat) {call : Call} {L : LineD} {ls : List LineD} {a : Int} {pl Ro : Nat} {x5 : Option Val} (hz : ls.length ≤ 64) (ho : S[D.o]? = some (nearC D)) (hr : S[D.r]? = some (roomsC D)) (hR : S[Ro]? = some (.lst (ls.map fun L => .r L.o))) (hls : ∀ x ∈ ls, S[x.o]? = some (lineC x)) (hL : S[L.o]? = some (lineC L)) (hp : pl < D.rooms.length) :
    dSs tab call (.cons (.setS (.fld (.var 0) 7) (.var 2) (.binM .Add (.lst true (.cons (.var 4) .nil)) (.comp true .seq (.cons (.var 3) .nil) false [5] (.cons (.val (.cmp .NotEq (.fld (.var 5) 3) (.fld (.var 4) 3))) .nil) (.var 5))))
      (.cons (.ret (.var 4)) .nil)) [some (.r D.o), some (iV a), some (iV pl), some (.r Ro), some (.r L.o), x5] S
    = .rt (.r L.o) ((S ++ [Cell.lst [.r L.o]] ++ [Cell.lst ((ls.filter fun x => decide (x.num ≠ L.num)).map fun x => .r x.o)] ++ [Cell.lst (.r L.o :: (ls.filter fun x => decide (x.num ≠ L.num)).map fun x => .r x.o)]).set D.r (.lst ((D.rooms.map fun R => Val.r R.o).set pl (.r (S.length + 2))))) := by
  have ez : szLine = 16777216 := rfl
  let S1 : Store := S ++ [Cell.lst [.r L.o]]
  let F : List Val := (ls.filter fun x => decide (x.num ≠ L.num)).map fun x => .r x.o
  have hF : F.length ≤ 64 := by
    show (List.map _ _).length ≤ 64
    rw [List.length_map]
    exact Nat.le_trans (List.length_filter_le _ _) hz
  have l1 : S1.length = S.length + 1 := by simp [S1]
  let S2 : Store := S1 ++ [Cell.lst F]
  have l2 : S2.length = S.length + 2 := by simp [S2, l1]
  let S3 : Store := S2 ++ [Cell.lst (.r L.o :: F)]
  have up1 : ∀ {i : Nat} {c : Cell}, S[i]? = some c → S1[i]? = some c := fun {i c} e => by rw [List.getElem?_append_left (List.getElem?_eq_some_iff.mp e).1]; exact e
  have up2 : ∀ {i : Nat} {c : Cell}, S1[i]? = some c → S2[i]? = some c := fun {i c} e => by rw [List.getElem?_append_left (List.getElem?_eq_some_iff.mp e).1]; exact e
  have up3 : ∀ {i : Nat} {c : Cell}, S2[i]? = some c → S3[i]? = some c := fun {i c} e => by rw [List.getElem?_append_left (List.getElem?_eq_some_iff.mp e).1]; exact e
  have a1 : alloc true [Val.r L.o] S = .ok (.r S.length) S1 := alloc_r _ _ (by show 1 ≤ szLine; omega)
  have cm : dE tab call (.comp true .seq (.cons (.var 3) .nil) false [5] (.cons (.val (.cmp .NotEq (.fld (.var 5) 3) (.fld (.var 4) 3))) .nil) (.var 5)) [some (.r D.o), some (iV a), some (iV pl), some (.r Ro), some (.r L.o), x5] S1 = .ok (.r S1.length) S2 := by
    rw [comp_V (w := some (Ro, ls.map fun L => .r L.o)) ls (fun L => .r L.o) (fun L => .r L.o) (fun x => decide (x.num ≠ L.num)) (by omega) (by
      show (items .seq [.r Ro] S1) = _
      exact items_h (up1 hR)) (up1 hR) (fun x hx => ?_)]
    · exact alloc_r _ _ (by show F.length ≤ szLine; omega)
    · refine ⟨_, rfl, ?_, fun _ => rfl⟩
      have f1 := ln_num (up1 (hls x hx))
      have f2 := ln_num (up1 hL)
      by_cases q : x.num = L.num <;> simp (decide := true) [dAnd, dB, dE, wipeE, f1, f2, q]
  have b1 : binL true .Add (.r S.length) (.r S1.length) S2 = .ok (.r S2.length) S3 := by
    have g1 : lstV S2 (.r S.length) = some [.r L.o] := lstV_h (up2 (get_len S _))
    have g2 : lstV S2 (.r S1.length) = some F := lstV_h (get_len S1 _)
    show (match lstV S2 (.r S.length) with
      | none => R.bad
      | some xs => (match lstV S2 (.r S1.length) with
        | some ys => alloc true (xs ++ ys) S2
        | none => .bad)) = _
    rw [g1, g2]
    exact alloc_r _ _ (by show (.r L.o :: F).length ≤ szLine; rw [List.length_cons]; omega)
  have f3 : fldV tab (.r D.o) 7 S3 = .ok (.r D.r) S3 := fld_r (up3 (up2 (up1 ho))) rfl rfl
  have st := setS_h (v := .r S2.length) (up3 (up2 (up1 (show S[D.r]? = some (.lst _) from hr)))) (i := (pl : Int)) (by omega) (by rw [List.length_map]; omega)
  rw [Int.toNat_natCast, l2] at st
  rw [show (S ++ [Cell.lst [.r L.o]] ++ [Cell.lst ((ls.filter fun x => decide (x.num ≠ L.num)).map fun x => .r x.o)] ++ [Cell.lst (.r L.o :: (ls.filter fun x => decide (x.num ≠ L.num)).map fun x => .r x.o)]) = S3 from rfl]
  have ev : dE tab call (.binM .Add (.lst true (.cons (.var 4) .nil)) (.comp true .seq (.cons (.var 3) .nil) false [5] (.cons (.val (.cmp .NotEq (.fld (.var 5) 3) (.fld (.var 4) 3))) .nil) (.var 5))) [some (.r D.o), some (iV a), some (iV pl), some (.r Ro), some (.r L.o), x5] S = .ok (.r (S.length + 2)) S3 := by
    show (dE tab call (.lst true (.cons (.var 4) .nil)) [some (.r D.o), some (iV a), some (iV pl), some (.r Ro), some (.r L.o), x5] S).bind _ = _
    rw [show dE tab call (.lst true (.cons (.var 4) .nil)) [some (.r D.o), some (iV a), some (iV pl), some (.r Ro), some (.r L.o), x5] S = .ok (.r S.length) S1 from a1]
    show (dE tab call (.comp true .seq (.cons (.var 3) .nil) false [5] _ (.var 5)) _ S1).bind _ = _
    rw [cm]
    show binL true .Add (.r S.length) (.r S1.length) S2 = _
    rw [b1, l2]
  show (R.st (dE tab call _ _ S) _ _).seq _ = _
  rw [ev]
  show (R.st (fldV tab (.r D.o) 7 S3) _ _).seq _ = _
  rw [f3]
  show (match setSV (.r D.r) (iV pl) (.r (S.length + 2)) S3 with
    | some S1 => RS.nx _ S1
    | none => .bad).seq _ = _
  rw [st]
  rfl
end
end Rw

namespace Rw
open PySem PySem.Spec PyProof.Rows L2 PySem.W
/-! ### a line comes -/
section
variable {S : Store} {D : NearD} {rest : Fr}
def upR (D : NearD) (k : Int) (sl : SlowD) (R : RoomD) : NearD := { D with sl := sl, rooms := D.rooms.set (D.pl k) R }
def others (D : NearD) (k : Int) : Fr := (D.rooms.take (D.pl k) ++ D.rooms.drop (D.pl k + 1)).flatMap roomF
theorem perm_mid (a b c : Fr) : (a ++ (b ++ c)).Perm (b ++ (a ++ c)) := by
  rw [← List.append_assoc, ← List.append_assoc]
  exact List.perm_append_comm.append_right c
theorem flat_split (rs : List RoomD) (i : Nat) (R : RoomD) (h : rs[i]? = some R) : (rs.flatMap roomF).Perm (roomF R ++ (rs.take i ++ rs.drop (i + 1)).flatMap roomF) := by
  have hi := (List.getElem?_eq_some_iff.mp h).1
  have e : rs[i] = R := (List.getElem?_eq_some_iff.mp h).2
  have e2 : rs = rs.take i ++ R :: rs.drop (i + 1) := by
    rw [← e, List.getElem_cons_drop, List.take_append_drop]
  conv => lhs; rw [e2]
  rw [List.flatMap_append, List.flatMap_cons, List.flatMap_append]
  exact perm_mid _ _ _
theorem near_split (h : NearOk D) (k : Int) : (nearF D ++ rest).Perm ((D.o, nearC D) :: (D.s, slowC D.sl) :: (D.r, roomsC D) :: (roomF (D.room k) ++ (others D k ++ rest))) := by
  unfold nearF
  refine List.Perm.cons _ (List.Perm.cons _ (List.Perm.cons _ ?_))
  rw [← List.append_assoc]
  exact (flat_split _ _ _ (room_at h k)).append_right rest
theorem near_join (h : NearOk D) (k : Int) (sl : SlowD) (R : RoomD) : ((D.o, nearC D) :: (D.s, slowC sl) :: (D.r, roomsC (upR D k sl R)) :: (roomF R ++ (others D k ++ rest))).Perm (nearF (upR D k sl R) ++ rest) := by
  unfold nearF upR
  refine List.Perm.cons _ (List.Perm.cons _ (List.Perm.cons _ ?_))
  rw [← List.append_assoc]
  refine (List.Perm.symm ?_).append_right rest
  have z := flat_split (D.rooms.set (D.pl k) R) (D.pl k) R (List.getElem?_set_self (pl_lt h k))
  rw [List.take_set_of_le (Nat.le_refl _), List.drop_set_of_lt (Nat.lt_succ_self _)] at z
  exact z
/-- what comes of a room when a line of it is asked -/
def comeR (sl : SlowD) (ls : List LineA) (k : Int) : SlowD × List LineA := match ls.find? fun L => decide (L.num = k) with
  | some L => (sl, L :: ls.filter fun x => decide (x.num ≠ L.num))
  | none => match ls with
    | [x, y] => ({ wbD sl y.ch y.num y.w with told := (wbD sl y.ch y.num y.w).told + 1 }, [⟨k, line4 (wbD sl y.ch y.num y.w) k, false⟩, x])
    | ls => ({ sl with told := sl.told + 1 }, ⟨k, line4 sl k, false⟩ :: ls)
theorem perm_front {L : LineD} : ∀ {ls : List LineD}, L ∈ ls → (ls.map (·.num)).Nodup → (L :: ls.filter fun x => decide (x.num ≠ L.num)).Perm ls
  | [], h, _ => by cases h
  | x :: l, h, hn => by
    rw [List.map_cons, List.nodup_cons] at hn
    by_cases q : x.num = L.num
    · have e : x = L := by
        rcases List.mem_cons.mp h with z | z
        · exact z.symm
        · exact absurd (List.mem_map.mpr ⟨L, z, q.symm⟩) hn.1
      subst e
      rw [List.filter_cons_of_neg (by simp)]
      have : l.filter (fun y => decide (y.num ≠ x.num)) = l := List.filter_eq_self.mpr fun y hy => by
        refine decide_eq_true fun z => hn.1 (List.mem_map.mpr ⟨y, hy, z⟩)
      rw [this]
    · have hm : L ∈ l := by
        rcases List.mem_cons.mp h with z | z
        · exact absurd (by rw [z]) q
        · exact z
      rw [List.filter_cons_of_pos (by simpa using q)]
      exact (List.Perm.swap _ _ _).trans ((perm_front hm hn.2).cons x)
theorem perm_lines {a b : List LineD} (h : a.Perm b) : (a.flatMap lineF).Perm (b.flatMap lineF) := h.flatMap_right lineF
theorem abs_filter (L : LineD) (ls : List LineD) : (ls.filter fun x => decide (x.num ≠ L.num)).map absL = (ls.map absL).filter fun x => decide (x.num ≠ (absL L).num) := by
  rw [List.filter_map]
  rfl
theorem abs_find (k : Int) (ls : List LineD) : ((ls.map absL).find? fun L => decide (L.num = k)) = (ls.find? fun L => decide (L.num = k)).map absL := by
  rw [List.find?_map]
  rfl
/-- behind come_tail: the store's pieces -/
theorem come_hs {L : LineD} {lsR' X : Fr} {o s r : Nat} {cn cs : Cell} {rs : List Val} {F : List Val} {pl : Nat} (H : Hs S ((o, cn) :: (s, cs) :: (r, .lst rs) :: X)) (c1 c2 : Cell) :
    Hs ((S ++ [c1] ++ [c2] ++ [Cell.lst F]).set r (.lst (rs.set pl (.r (S.length + 2))))) ((o, cn) :: (s, cs) :: (r, .lst (rs.set pl (.r (S.length + 2)))) :: (S.length + 2, .lst F) :: X) := by
  have l1 : (S ++ [c1]).length = S.length + 1 := by simp
  have l2 : (S ++ [c1] ++ [c2]).length = S.length + 2 := by simp
  have H3 := ((H.push c1).push c2).push (.lst F)
  rw [l2, l1] at H3
  have H4 := H3.setk 5 (i := r) (c := .lst rs) rfl (.lst (rs.set pl (.r (S.length + 2))))
  exact Hs.sel (A := [(S.length + 2, .lst F), (S.length + 1, c2), (S.length, c1), (o, cn), (s, cs), (r, .lst (rs.set pl (.r (S.length + 2))))]) (X := X) H4 [3, 4, 5, 0] (by decide)
theorem one_then {tab : Tab} {call : Call} {s : IS} {ss : ISs} {env env2 : Env} {S S2 : Store} (h : dSs tab call (.cons s .nil) env S = .nx env2 S2) : dSs tab call (.cons s ss) env S = dSs tab call ss env2 S2 := by
  have h1 : (dS tab call s env S).seq (fun env S => .nx env S) = .nx env2 S2 := h
  show (dS tab call s env S).seq _ = _
  cases e : dS tab call s env S with
  | nx a b =>
    rw [e] at h1
    cases h1
    rfl
  | _ => rw [e] at h1; cases h1
theorem come_new (n : Nat) {sl : SlowD} {Ro : Nat} {ls : List LineD} {X : Fr} (H : Hs S ((D.o, nearC D) :: (D.s, slowC sl) :: (D.r, roomsC D) :: (Ro, .lst (ls.map fun L => .r L.o)) :: X)) (a pl : Int) (x5 : Option Val) (h0 : 0 ≤ a / 4) (h1 : a / 4 * 4 + 4 ≤ sl.cells.length) (hz : sl.cells.length ≤ 64) :
    dE tab (callF tab (n + 3)) (.new 1 (.cons (.bin .FloorDiv (.var 1) (.glob 0)) (.cons (.meth (.fld (.var 0) 6) 8 (.cons (.bin .FloorDiv (.var 1) (.glob 0)) .nil)) (.cons (.con (.bl false)) .nil)))) [some (.r D.o), some (iV a), some (iV pl), some (.r Ro), some (.t .non), x5] S
      = .ok (.r S.length) (S.set D.s (slowC { sl with told := sl.told + 1 }) ++ [lineC ⟨S.length, S.length + 1, a / 4, line4 sl (a / 4), false⟩] ++ [.lst ((line4 sl (a / 4)).map iV)]) ∧
    Hs (S.set D.s (slowC { sl with told := sl.told + 1 }) ++ [lineC ⟨S.length, S.length + 1, a / 4, line4 sl (a / 4), false⟩] ++ [.lst ((line4 sl (a / 4)).map iV)])
      ((D.o, nearC D) :: (D.s, slowC { sl with told := sl.told + 1 }) :: (D.r, roomsC D) :: (Ro, .lst (ls.map fun L => .r L.o)) :: (S.length, lineC ⟨S.length, S.length + 1, a / 4, line4 sl (a / 4), false⟩) :: (S.length + 1, .lst ((line4 sl (a / 4)).map iV)) :: X) := by
  have ho : S[D.o]? = some (nearC D) := H.get List.mem_cons_self
  have hs : S[D.s]? = some (slowC sl) := H.get (List.mem_cons_of_mem _ List.mem_cons_self)
  have f2 : fldV tab (.r D.o) 6 S = .ok (.r D.s) S := fld_r ho rfl rfl
  have m := sl_m (f := 8) (g := 1) (m := 2) hs rfl rfl rfl
  have c := call_four (n + 1) hs (a / 4) h0 h1 hz
  have hl : (line4 sl (a / 4)).length ≤ 64 := by
    unfold line4
    rw [List.length_take]
    omega
  have nl := new_line (n + 2) (S.set D.s (slowC { sl with told := sl.told + 1 })) (a / 4) (line4 sl (a / 4)) false hl
  rw [List.length_set] at nl
  refine ⟨?_, ?_⟩
  · simp (decide := true) [dE, dEs, IEs.len, f2, m, c, con_line, binI_div, nl]
  · have H3 := ((H.setk 1 (i := D.s) (c := slowC sl) rfl (slowC { sl with told := sl.told + 1 })).push (lineC ⟨S.length, S.length + 1, a / 4, line4 sl (a / 4), false⟩)).push (.lst ((line4 sl (a / 4)).map iV))
    rw [List.length_append, List.length_set] at H3
    exact Hs.sel (A := [(S.length + 1, Cell.lst ((line4 sl (a / 4)).map iV)), (S.length, lineC ⟨S.length, S.length + 1, a / 4, line4 sl (a / 4), false⟩), (D.o, nearC D), (D.s, slowC { sl with told := sl.told + 1 }), (D.r, roomsC D), (Ro, .lst (ls.map fun L => .r L.o))]) (X := X) H3 [2, 3, 4, 5, 1, 0] (by decide)
theorem call_come_to (n : Nat) (h : NearOk D) (H : Hs S (nearF D ++ rest)) (a : Int) (h0 : 0 ≤ a) (h1 : a < D.sl.cells.length) : ∃ (S' : Store) (o : Nat) (L : LineD) (ls : List LineD),
    callF tab (n + 4) 15 [.r D.o, iV a] S = .ok (.r L.o) S' ∧ Hs S' (nearF (upR D (a / 4) (comeR D.sl ((D.room (a / 4)).ls.map absL) (a / 4)).1 ⟨o, L :: ls⟩) ++ rest) ∧
    (L :: ls).map absL = (comeR D.sl ((D.room (a / 4)).ls.map absL) (a / 4)).2 := by
  rw [callI _ [some (.r D.o), some (iV a), none, none, none, none] tab_Near_come_to rfl rfl, c_Near_come_to]
  have rp := h.rp
  have r4 := h.r4
  have len := h.len
  have four := h.four
  have k0 : 0 ≤ a / 4 := by omega
  have k1 : a / 4 * 4 + 4 ≤ D.sl.cells.length := by omega
  have f := nr_rooms H
  have e := nr_len H
  have bd := mod_bd (a / 4) (j := D.rooms.length) (by omega)
  have ep : a / 4 % (D.rooms.length : Int) = (D.pl (a / 4) : Int) := by
    unfold NearD.pl
    omega
  rw [stay_set (iV (D.pl (a / 4))) (by simp (decide := true) [dE, dEs, f, e, con_line, binI_div, binI_mod (show (0 : Int) < D.rooms.length by omega), ep])]
  simp only [List.set_cons_succ, List.set_cons_zero]
  have u := nr_sub h H (a / 4)
  rw [ep] at u
  rw [stay_set (.r (D.room (a / 4)).o) (by simp (decide := true) [dE, f, u])]
  simp only [List.set_cons_succ, List.set_cons_zero]
  have m := nr_m (f := 18) (g := 13) (m := 2) H rfl rfl rfl
  have c := call_line_of (n + 1) h H a h0
  rw [stay_set (lineV (D.line (a / 4))) (by simp (decide := true) [dE, dEs, IEs.len, m, c])]
  simp only [List.set_cons_succ, List.set_cons_zero]
  have rok := room_ok h (a / 4)
  have H2 := H.perm (near_split h (a / 4))
  have efind : (((D.room (a / 4)).ls.map absL).find? fun L => decide (L.num = a / 4)) = (D.line (a / 4)).map absL := abs_find _ _
  have ho := h_near H
  have hs := h_slow H
  have hr := h_rooms H
  have hR := h_room h H (a / 4)
  have hls : ∀ x ∈ (D.room (a / 4)).ls, S[x.o]? = some (lineC x) := fun x hx => h_line h H (a / 4) hx
  have hfs : ∀ x ∈ (D.room (a / 4)).ls, S[x.f]? = some (.lst (x.w.map iV)) := fun x hx => h_four h H (a / 4) hx
  have few : (D.room (a / 4)).ls.length ≤ 2 := by
    have := rok.few
    rw [List.length_map] at this
    exact this
  have join := fun sl R => near_join (rest := rest) h (a / 4) sl R
  have hroomsC : ∀ sl i ls, roomsC (upR D (a / 4) sl ⟨i, ls⟩) = .lst ((D.rooms.map fun R => Val.r R.o).set (D.pl (a / 4)) (.r i)) := fun sl i ls => by
    unfold roomsC upR
    rw [List.map_set]
  have hrooms0 : roomsC D = .lst (D.rooms.map fun R => Val.r R.o) := rfl
  cases hq : D.line (a / 4) with
  | some L =>
    rw [hq] at efind
    have hL : L ∈ (D.room (a / 4)).ls := List.mem_of_find?_eq_some hq
    have hnd : ((D.room (a / 4)).ls.map (·.num)).Nodup := by
      have := rok.nd
      rw [List.map_map] at this
      exact this
    rw [stay_ifF (by simp (decide := true) [dB, dE, lineV])]
    rw [show lineV (some L) = .r L.o from rfl]
    rw [come_tail n (L := L) (ls := (D.room (a / 4)).ls) (a := a) (pl := D.pl (a / 4)) (Ro := (D.room (a / 4)).o) (by omega) ho hr hR hls (hls L hL) (pl_lt h _)]
    have ec : comeR D.sl ((D.room (a / 4)).ls.map absL) (a / 4) = (D.sl, absL L :: ((D.room (a / 4)).ls.map absL).filter fun x => decide (x.num ≠ (absL L).num)) := by
      unfold comeR
      rw [efind]
      rfl
    rw [ec]
    refine ⟨_, S.length + 2, L, (D.room (a / 4)).ls.filter (fun x => decide (x.num ≠ L.num)), rfl, ?_, ?_⟩
    · refine Hs.perm ?_ (join _ _)
      rw [hroomsC]
      have H5 := come_hs (L := L) (lsR' := []) (F := .r L.o :: ((D.room (a / 4)).ls.filter fun x => decide (x.num ≠ L.num)).map fun x => .r x.o) (pl := D.pl (a / 4)) (rs := D.rooms.map fun R => Val.r R.o) (hrooms0 ▸ H2) (.lst [.r L.o]) (.lst (((D.room (a / 4)).ls.filter fun x => decide (x.num ≠ L.num)).map fun x => .r x.o))
      -- the old room goes
      have H6 := Hs.sel (A := [(D.o, nearC D), (D.s, slowC D.sl), (D.r, .lst ((D.rooms.map fun R => Val.r R.o).set (D.pl (a / 4)) (.r (S.length + 2)))), (S.length + 2, .lst (.r L.o :: ((D.room (a / 4)).ls.filter fun x => decide (x.num ≠ L.num)).map fun x => .r x.o)), ((D.room (a / 4)).o, .lst ((D.room (a / 4)).ls.map fun L => .r L.o))]) (X := (D.room (a / 4)).ls.flatMap lineF ++ (others D (a / 4) ++ rest)) H5 [0, 1, 2, 3] (by decide)
      refine H6.perm (List.Perm.cons _ (List.Perm.cons _ (List.Perm.cons _ (List.Perm.cons _ ?_))))
      exact (perm_lines (perm_front hL hnd).symm).append_right _
    · rw [List.map_cons, abs_filter]
  | none =>
    rw [hq] at efind
    -- what comes of the room's lines, ahead of the new one
    obtain ⟨S2, sl2, ls2, X2, hif, H6, hcome, hln, hc2, hsub, hX⟩ : ∃ (S2 : Store) (sl2 : SlowD) (ls2 : List LineD) (X2 : Fr),
        dSs tab (callF tab (n + 3)) (.cons (.ife (.val (.cmp .Eq (.blt .len false (.cons (.var 3) .nil)) (.glob 1))) (.cons (.expr (.meth (.var 0) 19 (.cons (.bm .pop false (.var 3) .nil) .nil))) .nil) .nil) .nil) [some (.r D.o), some (iV a), some (iV (D.pl (a / 4))), some (.r (D.room (a / 4)).o), some (.t .non), none] S
          = .nx [some (.r D.o), some (iV a), some (iV (D.pl (a / 4))), some (.r (D.room (a / 4)).o), some (.t .non), none] S2 ∧
        Hs S2 ((D.o, nearC D) :: (D.s, slowC sl2) :: (D.r, roomsC D) :: ((D.room (a / 4)).o, .lst (ls2.map fun L => .r L.o)) :: (ls2.flatMap lineF ++ X2)) ∧
        comeR D.sl ((D.room (a / 4)).ls.map absL) (a / 4) = ({ sl2 with told := sl2.told + 1 }, ⟨a / 4, line4 sl2 (a / 4), false⟩ :: ls2.map absL) ∧ sl2.cells.length = D.sl.cells.length ∧ ls2.length ≤ 2 ∧ (∀ z ∈ ls2, z ∈ (D.room (a / 4)).ls) ∧ X2 = others D (a / 4) ++ rest := by
      have f3 : ∀ ls : List LineD, S[(D.room (a / 4)).o]? = some (.lst (ls.map fun L => .r L.o)) → lenV (.r (D.room (a / 4)).o) S = .ok (iV ls.length) S := fun ls hh => by
        have z := len_r hh
        rw [List.length_map] at z
        exact z
      have gr : tab.con 1 = some (.int 2) := rfl
      by_cases h2 : (D.room (a / 4)).ls.length = 2
      · obtain ⟨x, y, exy⟩ : ∃ x y, (D.room (a / 4)).ls = [x, y] := by
          match hh : (D.room (a / 4)).ls, h2 with
          | [x, y], _ => exact ⟨x, y, rfl⟩
        have hR' := hR
        rw [exy] at hR'
        have e3 := f3 [x, y] hR'
        have hpop := pop_h (v := .r y.o) hR' rfl
        have hcell := cellB_h hR'
        have hy : y ∈ (D.room (a / 4)).ls := by rw [exy]; simp
        have yo := rok.hi (absL y) (List.mem_map.mpr ⟨y, hy, rfl⟩)
        have yl := rok.lo (absL y) (List.mem_map.mpr ⟨y, hy, rfl⟩)
        have yw := rok.w (absL y) (List.mem_map.mpr ⟨y, hy, rfl⟩)
        have H3 : Hs S ([(D.o, nearC D), (D.s, slowC D.sl), (D.r, roomsC D), ((D.room (a / 4)).o, .lst [.r x.o, .r y.o]), (x.o, lineC x), (x.f, .lst (x.w.map iV)), (y.o, lineC y), (y.f, .lst (y.w.map iV))] ++ (others D (a / 4) ++ rest)) := by
          unfold roomF at H2
          rw [exy] at H2
          exact H2
        have H4 := H3.setk 3 (i := (D.room (a / 4)).o) (c := .lst [.r x.o, .r y.o]) rfl (.lst [.r x.o])
        have H4 : Hs (S.set (D.room (a / 4)).o (.lst [.r x.o])) ([(D.o, nearC D), (D.s, slowC D.sl), (D.r, roomsC D), ((D.room (a / 4)).o, .lst [.r x.o]), (x.o, lineC x), (x.f, .lst (x.w.map iV)), (y.o, lineC y), (y.f, .lst (y.w.map iV))] ++ (others D (a / 4) ++ rest)) := H4
        have g1 := H4.get (i := D.o) (c := nearC D) (by simp)
        have g2 := H4.get (i := D.s) (c := slowC D.sl) (by simp)
        have g3 := H4.get (i := y.o) (c := lineC y) (by simp)
        have g4 := H4.get (i := y.f) (c := .lst (y.w.map iV)) (by simp)
        have ne : D.s ≠ y.o := fun z => by
          have nd := H4.nd
          simp only [List.cons_append, List.nil_append, List.map_cons, List.nodup_cons, List.mem_cons, not_or] at nd
          exact nd.2.1.2.2.2.2.1 z
        have cw := call_write_back (D := D) n (L := y) g1 g2 g3 g4 ne yl yo len yw
        have mw : methV tab 19 2 (.r D.o) S = .ok 14 S := nr_m H rfl rfl rfl
        refine ⟨if y.ch then ((S.set (D.room (a / 4)).o (.lst [.r x.o])).set D.s (slowC (putL D.sl y.num y.w))).set y.o (lineC { y with ch := false }) else S.set (D.room (a / 4)).o (.lst [.r x.o]), wbD D.sl y.ch y.num y.w, [x], others D (a / 4) ++ rest, ?_, ?_, ?_, ?_, by simp, fun z hz => by rw [exy]; simp at hz; simp [hz], rfl⟩
        · rw [stay_if true (by simp (decide := true) [dB, dE, dEs, e3, gr]), if_pos rfl]
          rw [step_expr (.t .non) (by
            simp (decide := true) only [dE, dEs, IEs.len, List.getElem?_cons_zero, List.getElem?_cons_succ, R.bind_ok, mw, hcell, if_true, hpop]
            exact cw)]
          rfl
        · cases hc : y.ch with
          | false =>
            rw [if_neg Bool.false_ne_true]
            exact Hs.sel (A := [(D.o, nearC D), (D.s, slowC D.sl), (D.r, roomsC D), ((D.room (a / 4)).o, .lst [.r x.o]), (x.o, lineC x), (x.f, .lst (x.w.map iV)), (y.o, lineC y), (y.f, .lst (y.w.map iV))]) H4 [0, 1, 2, 3, 4, 5] (by decide)
          | true =>
            rw [if_pos rfl]
            have H5 := (H4.setk 1 (i := D.s) (c := slowC D.sl) rfl (slowC (putL D.sl y.num y.w))).setk 6 (i := y.o) (c := lineC y) rfl (lineC { y with ch := false })
            exact Hs.sel (A := [(D.o, nearC D), (D.s, slowC (putL D.sl y.num y.w)), (D.r, roomsC D), ((D.room (a / 4)).o, .lst [.r x.o]), (x.o, lineC x), (x.f, .lst (x.w.map iV)), (y.o, lineC { y with ch := false }), (y.f, .lst (y.w.map iV))]) H5 [0, 1, 2, 3, 4, 5] (by decide)
        · unfold comeR
          rw [efind, exy]
          rfl
        · unfold wbD
          cases y.ch with
          | false => rfl
          | true =>
            show (D.sl.cells.take (y.num * 4).toNat ++ y.w ++ D.sl.cells.drop (y.num * 4 + 4).toNat).length = _
            have yw : y.w.length = 4 := yw
            have yo : y.num * 4 + 4 ≤ D.sl.cells.length := yo
            have yl : 0 ≤ y.num := yl
            rw [List.length_append, List.length_append, List.length_take, List.length_drop, yw]
            omega
      · have e3 := f3 _ hR
        have hne : ¬ ((D.room (a / 4)).ls.length : Int) = 2 := by omega
        refine ⟨S, D.sl, (D.room (a / 4)).ls, others D (a / 4) ++ rest, ?_, H2, ?_, rfl, few, fun _ h => h, rfl⟩
        · rw [stay_ifF (by simp (decide := true) [dB, dE, dEs, e3, gr, hne])]
          rfl
        · unfold comeR
          rw [efind]
          match hh : (D.room (a / 4)).ls, few with
          | [], _ => rfl
          | [x], _ => rfl
          | [x, y], _ => exact absurd (by rw [hh]; rfl) h2
    obtain ⟨hnew, H7⟩ := come_new (x5 := none) (D := D) n H6 a (D.pl (a / 4)) k0 (by rw [hln]; exact k1) (by rw [hln]; exact len)
    rw [stay_if true (by simp (decide := true) [dB, dE, lineV]), if_pos rfl]
    rw [show lineV none = .t .non from rfl, one_then hif, step_set (.r S2.length) (by exact hnew)]
    simp only [List.set_cons_succ, List.set_cons_zero, dSs_nil, seq_nx]
    generalize hS3 : S2.set D.s (slowC { sl2 with told := sl2.told + 1 }) ++ [lineC ⟨S2.length, S2.length + 1, a / 4, line4 sl2 (a / 4), false⟩] ++ [Cell.lst ((line4 sl2 (a / 4)).map iV)] = S3 at *
    have l3 : S3.length = S2.length + 2 := by
      rw [← hS3, List.length_append, List.length_append, List.length_set]
      rfl
    rw [come_tail n (L := ⟨S2.length, S2.length + 1, a / 4, line4 sl2 (a / 4), false⟩) (ls := ls2) (a := a) (pl := D.pl (a / 4)) (Ro := (D.room (a / 4)).o) (by omega) (H7.get List.mem_cons_self) (H7.get (by simp)) (H7.get (by simp)) (fun x hx => H7.get (by
      simp only [List.mem_cons, List.mem_append, List.mem_flatMap]
      exact .inr (.inr (.inr (.inr (.inr (.inr (.inl ⟨x, hx, by simp [lineF]⟩)))))))) (H7.get (by simp)) (pl_lt h _)]
    rw [hcome]
    -- none of them is the new one
    have hnot : ls2.filter (fun x => decide (x.num ≠ a / 4)) = ls2 := by
      have hno := List.find?_eq_none.mp hq
      refine List.filter_eq_self.mpr fun x hx => decide_eq_true fun z => ?_
      exact hno x (hsub x hx) (decide_eq_true z)
    refine ⟨_, S3.length + 2, ⟨S2.length, S2.length + 1, a / 4, line4 sl2 (a / 4), false⟩, ls2, rfl, ?_, rfl⟩
    refine Hs.perm ?_ (join _ _)
    rw [hroomsC]
    show Hs ((S3 ++ [Cell.lst [.r S2.length]] ++ [Cell.lst ((ls2.filter fun x => decide (x.num ≠ a / 4)).map fun x => .r x.o)] ++ [Cell.lst (.r S2.length :: (ls2.filter fun x => decide (x.num ≠ a / 4)).map fun x => .r x.o)]).set D.r _) _
    rw [hnot]
    have H8 := come_hs (L := ⟨S2.length, S2.length + 1, a / 4, line4 sl2 (a / 4), false⟩) (lsR' := []) (F := .r S2.length :: ls2.map fun x => .r x.o) (pl := D.pl (a / 4)) (rs := D.rooms.map fun R => Val.r R.o) (hrooms0 ▸ H7) (.lst [.r S2.length]) (.lst (ls2.map fun x => .r x.o))
    have H9 := Hs.sel (A := [(D.o, nearC D), (D.s, slowC { sl2 with told := sl2.told + 1 }), (D.r, .lst ((D.rooms.map fun R => Val.r R.o).set (D.pl (a / 4)) (.r (S3.length + 2)))), (S3.length + 2, .lst (.r S2.length :: ls2.map fun x => .r x.o)), ((D.room (a / 4)).o, .lst (ls2.map fun L => .r L.o)), (S2.length, lineC ⟨S2.length, S2.length + 1, a / 4, line4 sl2 (a / 4), false⟩), (S2.length + 1, .lst ((line4 sl2 (a / 4)).map iV))]) (X := ls2.flatMap lineF ++ X2) H8 [0, 1, 2, 3, 5, 6] (by decide)
    rw [hX] at H9
    exact H9
end
end Rw

namespace Rw
open PySem PySem.Spec PyProof.Rows L2 PySem.W
/-! ### the near memory by what it says -/
structure NearA where
  sl : SlowD
  rooms : List (List LineA)
def absN (D : NearD) : NearA := ⟨D.sl, D.rooms.map fun R => R.ls.map absL⟩
def NearA.pl (A : NearA) (k : Int) : Nat := (k % A.rooms.length).toNat
def NearA.room (A : NearA) (k : Int) : List LineA := (A.rooms[A.pl k]?).getD []
def NearA.line (A : NearA) (k : Int) : Option LineA := (A.room k).find? fun L => decide (L.num = k)
structure OkA (A : NearA) : Prop where
  rp : 0 < A.rooms.length
  r4 : A.rooms.length ≤ 4
  len : A.sl.cells.length ≤ 64
  four : (A.sl.cells.length : Int) % 4 = 0
  room : ∀ i ls, A.rooms[i]? = some ls → RoomOk A.sl.cells.length A.rooms.length i ls
def comeA (A : NearA) (k : Int) : NearA := ⟨(comeR A.sl (A.room k) k).1, A.rooms.set (A.pl k) (comeR A.sl (A.room k) k).2⟩
/-- the word that stands at an address -/
def lookA (A : NearA) (a : Int) : Int := match A.line (a / 4) with
  | some L => (L.w[(a % 4).toNat]?).getD 0
  | none => (A.sl.cells[a.toNat]?).getD 0
theorem ok_abs {D : NearD} : NearOk D ↔ OkA (absN D) := by
  constructor
  · intro h
    refine ⟨by show 0 < (D.rooms.map _).length; rw [List.length_map]; exact h.rp, by show (D.rooms.map _).length ≤ 4; rw [List.length_map]; exact h.r4, h.len, h.four, fun i ls e => ?_⟩
    have e : (D.rooms.map fun R => R.ls.map absL)[i]? = some ls := e
    rw [List.getElem?_map] at e
    obtain ⟨R, h1, rfl⟩ := Option.map_eq_some_iff.mp e
    have z := h.room i R h1
    show RoomOk _ (D.rooms.map _).length _ _
    rw [List.length_map]
    exact z
  · intro h
    have e1 : (absN D).rooms.length = D.rooms.length := List.length_map ..
    refine ⟨by rw [← e1]; exact h.rp, by rw [← e1]; exact h.r4, h.len, h.four, fun i R e => ?_⟩
    have z := h.room i (R.ls.map absL) (by show (D.rooms.map fun R => R.ls.map absL)[i]? = _; rw [List.getElem?_map, e]; rfl)
    rw [e1] at z
    exact z
theorem abs_pl (D : NearD) (k : Int) : (absN D).pl k = D.pl k := by
  unfold NearA.pl NearD.pl absN
  rw [List.length_map]
theorem abs_room {D : NearD} (h : NearOk D) (k : Int) : (absN D).room k = (D.room k).ls.map absL := by
  unfold NearA.room
  rw [abs_pl]
  show ((D.rooms.map fun R => R.ls.map absL)[D.pl k]?).getD [] = _
  rw [List.getElem?_map, room_at h k]
  rfl
theorem abs_line {D : NearD} (h : NearOk D) (k : Int) : (absN D).line k = (D.line k).map absL := by
  unfold NearA.line
  rw [abs_room h]
  exact abs_find k _
theorem abs_come {D : NearD} (h : NearOk D) (k : Int) (o : Nat) (ls : List LineD) (e : ls.map absL = (comeR D.sl ((D.room k).ls.map absL) k).2) :
    absN (upR D k (comeR D.sl ((D.room k).ls.map absL) k).1 ⟨o, ls⟩) = comeA (absN D) k := by
  unfold comeA
  rw [abs_room h, abs_pl]
  show NearA.mk _ ((D.rooms.set (D.pl k) ⟨o, ls⟩).map fun R => R.ls.map absL) = NearA.mk _ _
  rw [List.map_set]
  show NearA.mk _ ((D.rooms.map fun R => R.ls.map absL).set _ (ls.map absL)) = _
  rw [e]
  rfl
/-! words -/
theorem put_len {sl : SlowD} {k : Int} {ws : List Int} (h0 : 0 ≤ k) (h1 : k * 4 + 4 ≤ sl.cells.length) (hw : ws.length = 4) : (putL sl k ws).cells.length = sl.cells.length := by
  show (sl.cells.take (k * 4).toNat ++ ws ++ sl.cells.drop (k * 4 + 4).toNat).length = _
  rw [List.length_append, List.length_append, List.length_take, List.length_drop, hw]
  omega
theorem put_get {sl : SlowD} {k : Int} {ws : List Int} (h0 : 0 ≤ k) (h1 : k * 4 + 4 ≤ sl.cells.length) (hw : ws.length = 4) (i : Nat) : (putL sl k ws).cells[i]? = if (i / 4 : Nat) = k.toNat then ws[i % 4]? else sl.cells[i]? := by
  show (sl.cells.take (k * 4).toNat ++ ws ++ sl.cells.drop (k * 4 + 4).toNat)[i]? = _
  have l1 : (sl.cells.take (k * 4).toNat).length = k.toNat * 4 := by rw [List.length_take]; omega
  by_cases q : i / 4 = k.toNat
  · rw [if_pos q, List.append_assoc, List.getElem?_append_right (by omega), List.getElem?_append_left (by omega), l1]
    congr 1
    omega
  · rw [if_neg q]
    by_cases z : i < k.toNat * 4
    · rw [List.append_assoc, List.getElem?_append_left (by omega), List.getElem?_take, if_pos (by omega)]
    · rw [List.getElem?_append_right (by rw [List.length_append]; omega), List.length_append, l1, hw, List.getElem?_drop]
      congr 1
      omega
theorem line4_get {sl : SlowD} {k : Int} (h0 : 0 ≤ k) (j : Nat) (hj : j < 4) : (line4 sl k)[j]? = sl.cells[k.toNat * 4 + j]? := by
  unfold line4
  rw [List.getElem?_take, if_pos hj, List.getElem?_drop]
  congr 1
  omega
theorem line4_put {sl : SlowD} {k y : Int} {ws : List Int} (h0 : 0 ≤ k) (hk : 0 ≤ y) (h1 : y * 4 + 4 ≤ sl.cells.length) (hw : ws.length = 4) (ne : y ≠ k) : line4 (putL sl y ws) k = line4 sl k := by
  apply List.ext_getElem?
  intro j
  by_cases hj : j < 4
  · rw [line4_get h0 j hj, line4_get h0 j hj, put_get hk h1 hw, if_neg (by omega)]
  · unfold line4
    rw [List.getElem?_take, List.getElem?_take, if_neg hj, if_neg hj]
theorem line4_wb {sl : SlowD} {k y : Int} {ws : List Int} {c : Bool} (h0 : 0 ≤ k) (hk : 0 ≤ y) (h1 : y * 4 + 4 ≤ sl.cells.length) (hw : ws.length = 4) (ne : y ≠ k) : line4 (wbD sl c y ws) k = line4 sl k := by
  unfold wbD
  cases c
  · rfl
  · exact line4_put h0 hk h1 hw ne
theorem wb_len {sl : SlowD} {k : Int} {ws : List Int} {c : Bool} (h0 : 0 ≤ k) (h1 : k * 4 + 4 ≤ sl.cells.length) (hw : ws.length = 4) : (wbD sl c k ws).cells.length = sl.cells.length := by
  unfold wbD
  cases c
  · rfl
  · exact put_len h0 h1 hw
theorem line4_len {sl : SlowD} {k : Int} (h0 : 0 ≤ k) (h1 : k * 4 + 4 ≤ sl.cells.length) : (line4 sl k).length = 4 := by
  unfold line4
  rw [List.length_take, List.length_drop]
  omega
/-! what comes stays well -/
theorem come_ok {sl : SlowD} {m i : Nat} {ls : List LineA} {k : Int} (h : RoomOk sl.cells.length m i ls) (h0 : 0 ≤ k) (h1 : k * 4 + 4 ≤ sl.cells.length) (hi : (k % m).toNat = i) :
    (comeR sl ls k).1.cells.length = sl.cells.length ∧ RoomOk sl.cells.length m i (comeR sl ls k).2 := by
  unfold comeR
  cases hq : ls.find? fun L => decide (L.num = k) with
  | some L =>
    have hL := List.mem_of_find?_eq_some hq
    refine ⟨rfl, ?_⟩
    have sub : ∀ x ∈ L :: ls.filter (fun x => decide (x.num ≠ L.num)), x ∈ ls := fun x hx => by
      rcases List.mem_cons.mp hx with rfl | hx
      · exact hL
      · exact (List.mem_filter.mp hx).1
    refine ⟨?_, fun x hx => h.lo x (sub x hx), fun x hx => h.hi x (sub x hx), fun x hx => h.w x (sub x hx), fun x hx => h.pl x (sub x hx), ?_⟩
    · have few := h.few
      match ls, hL, few with
      | [x], hL, _ => rcases List.mem_singleton.mp hL with rfl; simp
      | [x, y], hL, _ =>
        rcases List.mem_cons.mp hL with rfl | hL
        · simp
          by_cases q : y.num = L.num <;> simp [q]
        · rcases List.mem_singleton.mp hL with rfl
          simp
          by_cases q : x.num = L.num <;> simp [q]
    · rw [List.map_cons, List.nodup_cons]
      refine ⟨fun z => ?_, (List.filter_sublist.map _).nodup h.nd⟩
      obtain ⟨y, hy, ey⟩ := List.mem_map.mp z
      exact of_decide_eq_true (List.mem_filter.mp hy).2 ey
  | none =>
    have hno := List.find?_eq_none.mp hq
    show (match ls with
      | [x, y] => (({ wbD sl y.ch y.num y.w with told := (wbD sl y.ch y.num y.w).told + 1 }, [⟨k, line4 (wbD sl y.ch y.num y.w) k, false⟩, x]) : SlowD × List LineA)
      | ls => ({ sl with told := sl.told + 1 }, ⟨k, line4 sl k, false⟩ :: ls)).1.cells.length = _ ∧ RoomOk _ _ _ (match ls with
      | [x, y] => (({ wbD sl y.ch y.num y.w with told := (wbD sl y.ch y.num y.w).told + 1 }, [⟨k, line4 (wbD sl y.ch y.num y.w) k, false⟩, x]) : SlowD × List LineA)
      | ls => ({ sl with told := sl.told + 1 }, ⟨k, line4 sl k, false⟩ :: ls)).2
    have one : ∀ (s2 : SlowD) (l2 : List LineA), s2.cells.length = sl.cells.length → l2.length ≤ 1 → (∀ x ∈ l2, x ∈ ls) → (l2.map (·.num)).Nodup → RoomOk sl.cells.length m i (⟨k, line4 s2 k, false⟩ :: l2) := fun s2 l2 e2 hl hs hn => by
      refine ⟨by rw [List.length_cons]; omega, fun x hx => ?_, fun x hx => ?_, fun x hx => ?_, fun x hx => ?_, ?_⟩
      · rcases List.mem_cons.mp hx with rfl | hx
        · exact h0
        · exact h.lo x (hs x hx)
      · rcases List.mem_cons.mp hx with rfl | hx
        · exact h1
        · exact h.hi x (hs x hx)
      · rcases List.mem_cons.mp hx with rfl | hx
        · exact line4_len h0 (by rw [e2]; exact h1)
        · exact h.w x (hs x hx)
      · rcases List.mem_cons.mp hx with rfl | hx
        · exact hi
        · exact h.pl x (hs x hx)
      · rw [List.map_cons, List.nodup_cons]
        refine ⟨fun z => ?_, hn⟩
        obtain ⟨y, hy, ey⟩ := List.mem_map.mp z
        exact hno y (hs y hy) (decide_eq_true ey)
    split
    · rename_i x y
      have hl := wb_len (c := y.ch) (h.lo y (by simp)) (h.hi y (by simp)) (h.w y (by simp))
      exact ⟨hl, one _ [x] hl (by simp) (fun z hz => by simp at hz; simp [hz]) (by simp)⟩
    · rename_i hne
      refine ⟨rfl, one sl ls rfl ?_ (fun _ h => h) h.nd⟩
      have few := h.few
      match ls, hne, few with
      | [], _, _ => simp
      | [x], _, _ => simp
      | [x, y], hne, _ => exact absurd rfl (hne x y)
theorem roomA_at {A : NearA} (h : OkA A) (k : Int) : A.pl k < A.rooms.length ∧ A.rooms[A.pl k]? = some (A.room k) := by
  have b := mod_bd k (j := A.rooms.length) (by have := h.rp; omega)
  have hl : A.pl k < A.rooms.length := by unfold NearA.pl; omega
  refine ⟨hl, ?_⟩
  unfold NearA.room
  rw [List.getElem?_eq_getElem hl]
  rfl
theorem come_okA {A : NearA} (h : OkA A) {k : Int} (h0 : 0 ≤ k) (h1 : k * 4 + 4 ≤ A.sl.cells.length) : OkA (comeA A k) ∧ (comeA A k).sl.cells.length = A.sl.cells.length ∧ (comeA A k).rooms.length = A.rooms.length := by
  obtain ⟨hl, ha⟩ := roomA_at h k
  obtain ⟨e1, e2⟩ := come_ok (k := k) (h.room _ _ ha) h0 h1 rfl
  have el : (comeA A k).rooms.length = A.rooms.length := List.length_set
  have ec : (comeA A k).sl.cells.length = A.sl.cells.length := e1
  refine ⟨⟨by rw [el]; exact h.rp, by rw [el]; exact h.r4, by rw [ec]; exact h.len, by rw [ec]; exact h.four, fun i ls e => ?_⟩, ec, el⟩
  rw [ec, el]
  have e : (A.rooms.set (A.pl k) (comeR A.sl (A.room k) k).2)[i]? = some ls := e
  by_cases q : A.pl k = i
  · subst q
    rw [List.getElem?_set_self hl] at e
    cases e
    exact e2
  · rw [List.getElem?_set_ne q] at e
    exact h.room i ls e
end Rw

namespace Rw
open PySem PySem.Spec PyProof.Rows L2 PySem.W
/-! ### the near memory, asked -/
/-- a near memory in the store, by what it says -/
structure NearAt (S : Store) (o s : Nat) (A : NearA) (D : NearD) (rest : Fr) : Prop where
  hs : Hs S (nearF D ++ rest)
  ok : NearOk D
  o : D.o = o
  s : D.s = s
  a : absN D = A
theorem NearAt.okA {S : Store} {o s : Nat} {A : NearA} {D : NearD} {rest : Fr} (N : NearAt S o s A D rest) : OkA A := by
  rw [← N.a]
  exact ok_abs.mp N.ok
section
variable {S : Store} {o s : Nat} {A : NearA} {D : NearD} {rest : Fr}
theorem upR_room (h : NearOk D) (k : Int) (sl : SlowD) (R : RoomD) : (upR D k sl R).room k = R := by
  have e : (upR D k sl R).pl k = D.pl k := by
    unfold NearD.pl upR
    rw [List.length_set]
  unfold NearD.room
  rw [e]
  show ((D.rooms.set (D.pl k) R)[D.pl k]?).getD _ = _
  rw [List.getElem?_set_self (pl_lt h _)]
  rfl
theorem upR_ok (h : NearOk D) (k : Int) (R : RoomD) (hr : RoomOk D.sl.cells.length D.rooms.length (D.pl k) (R.ls.map absL)) : NearOk (upR D k D.sl R) := by
  have el : (upR D k D.sl R).rooms.length = D.rooms.length := List.length_set
  refine ⟨by rw [el]; exact h.rp, by rw [el]; exact h.r4, h.len, h.four, fun i Q e => ?_⟩
  rw [el]
  have e : (D.rooms.set (D.pl k) R)[i]? = some Q := e
  by_cases q : D.pl k = i
  · subst q
    rw [List.getElem?_set_self (pl_lt h k)] at e
    cases e
    exact hr
  · rw [List.getElem?_set_ne q] at e
    exact h.room i Q e
theorem at_come (n : Nat) (N : NearAt S o s A D rest) (a : Int) (h0 : 0 ≤ a) (h1 : a < A.sl.cells.length) : ∃ (S' : Store) (D' : NearD) (L : LineD) (ls : List LineD),
    callF tab (n + 4) 15 [.r o, iV a] S = .ok (.r L.o) S' ∧ NearAt S' o s (comeA A (a / 4)) D' rest ∧ (D'.room (a / 4)).ls = L :: ls := by
  obtain ⟨H, h, rfl, rfl, rfl⟩ := N
  obtain ⟨S', o', L, ls, hc, H', e⟩ := call_come_to n h H a h0 h1
  have k0 : 0 ≤ a / 4 := by omega
  have k1 : a / 4 * 4 + 4 ≤ D.sl.cells.length := by
    have := h.four
    have h1 : a < D.sl.cells.length := h1
    omega
  have ea := abs_come h (a / 4) o' (L :: ls) e
  refine ⟨S', _, L, ls, hc, ⟨H', ok_abs.mpr ?_, rfl, rfl, ea⟩, ?_⟩
  · rw [ea]
    exact (come_okA (ok_abs.mp h) k0 k1).1
  · rw [upR_room h]
/-- the first line of a room -/
def headA (A : NearA) (k : Int) : LineA := ((A.room k)[0]?).getD ⟨0, [], false⟩
theorem call_get (n : Nat) (N : NearAt S o s A D rest) (a : Int) (h0 : 0 ≤ a) (h1 : a < A.sl.cells.length) : ∃ (S' : Store) (D' : NearD),
    callF tab (n + 5) 16 [.r o, iV a] S = .ok (iV (((headA (comeA A (a / 4)) (a / 4)).w[(a % 4).toNat]?).getD 0)) S' ∧ NearAt S' o s (comeA A (a / 4)) D' rest := by
  obtain ⟨S', D', L, ls, hc, N', hL⟩ := at_come n N a h0 h1
  refine ⟨S', D', ?_, N'⟩
  rw [callI _ [some (.r o), some (iV a)] tab_Near_get rfl rfl, c_Near_get]
  have ca : callF tab (n + 4) 11 [.r o, iV a] S = .ok (.t .non) S := by
    have := call_need_address (n + 2) N.ok N.hs a h0 (by rw [← N.a] at h1; exact h1)
    rw [N.o] at this
    exact this
  have hN : S[o]? = some (nearC D) := by rw [← N.o]; exact h_near N.hs
  have m1 : methV tab 16 2 (.r o) S = .ok 11 S := by rw [← N.o]; exact nr_m N.hs rfl rfl rfl
  have m2 : methV tab 20 2 (.r o) S = .ok 15 S := by rw [← N.o]; exact nr_m N.hs rfl rfl rfl
  rw [step_expr (S1 := S) (.t .non) (by simp (decide := true) [dE, dEs, IEs.len, m1, ca])]
  have hm : L ∈ (D'.room (a / 4)).ls := by rw [hL]; simp
  have f4 := ln_four (h_line N'.ok N'.hs (a / 4) hm)
  have hf := h_four N'.ok N'.hs (a / 4) hm
  have hw : L.w.length = 4 := (room_ok N'.ok (a / 4)).w (absL L) (List.mem_map.mpr ⟨L, hm, rfl⟩)
  have b := mod_bd a (j := 4) (by decide)
  have hs : subV (.r L.f) (iV (a % 4)) S' = .ok (iV ((L.w[(a % 4).toNat]?).getD 0)) S' := by
    refine sub_h hf ?_
    rw [atL_nat b.1 (by rw [List.length_map]; omega), List.getElem?_map, List.getElem?_eq_getElem (by omega)]
    rfl
  have eh : headA (comeA A (a / 4)) (a / 4) = absL L := by
    unfold headA
    rw [← N'.a, abs_room N'.ok, hL]
    rfl
  rw [eh]
  rw [step_ret (iV ((L.w[(a % 4).toNat]?).getD 0)) (S1 := S') (by simp (decide := true) [dE, dEs, IEs.len, m2, hc, f4, con_line, binI_mod, hs])]
  rfl
/-- .. a word put there -/
def putA (A : NearA) (a v : Int) : NearA := ⟨(comeA A (a / 4)).sl, (comeA A (a / 4)).rooms.set ((comeA A (a / 4)).pl (a / 4)) (match (comeA A (a / 4)).room (a / 4) with
  | L :: ls => ⟨L.num, L.w.set (a % 4).toNat v, true⟩ :: ls
  | [] => [])⟩
theorem nearF_line (h : NearOk D) (k : Int) {L : LineD} {ls : List LineD} (e : (D.room k).ls = L :: ls) :
    (nearF D ++ rest).Perm ([(L.o, lineC L), (L.f, .lst (L.w.map iV))] ++ ((D.o, nearC D) :: (D.s, slowC D.sl) :: (D.r, roomsC D) :: ((D.room k).o, .lst ((D.room k).ls.map fun L => .r L.o)) :: (ls.flatMap lineF ++ (others D k ++ rest)))) := by
  refine (near_split h k).trans ?_
  unfold roomF
  rw [e]
  show (_ :: _ :: _ :: (_ :: ((L.o, lineC L) :: (L.f, Cell.lst (L.w.map iV)) :: ls.flatMap lineF) ++ (others D k ++ rest))).Perm _
  exact perm_mid [(D.o, nearC D), (D.s, slowC D.sl), (D.r, roomsC D), ((D.room k).o, .lst ((L :: ls).map fun L => .r L.o))] [(L.o, lineC L), (L.f, .lst (L.w.map iV))] (ls.flatMap lineF ++ (others D k ++ rest))
theorem call_put (n : Nat) (N : NearAt S o s A D rest) (a v : Int) (h0 : 0 ≤ a) (h1 : a < A.sl.cells.length) : ∃ (S' : Store) (D' : NearD),
    callF tab (n + 5) 17 [.r o, iV a, iV v] S = .ok (.t .non) S' ∧ NearAt S' o s (putA A a v) D' rest := by
  obtain ⟨S', D', L, ls, hc, N', hL⟩ := at_come n N a h0 h1
  rw [callI _ [some (.r o), some (iV a), some (iV v), none] tab_Near_put rfl rfl, c_Near_put]
  have ca : callF tab (n + 4) 11 [.r o, iV a] S = .ok (.t .non) S := by
    have := call_need_address (n + 2) N.ok N.hs a h0 (by rw [← N.a] at h1; exact h1)
    rw [N.o] at this
    exact this
  have m1 : methV tab 16 2 (.r o) S = .ok 11 S := by rw [← N.o]; exact nr_m N.hs rfl rfl rfl
  have m2 : methV tab 20 2 (.r o) S = .ok 15 S := by rw [← N.o]; exact nr_m N.hs rfl rfl rfl
  rw [step_expr (S1 := S) (.t .non) (by simp (decide := true) [dE, dEs, IEs.len, m1, ca])]
  rw [step_set (S1 := S') (.r L.o) (by simp (decide := true) [dE, dEs, IEs.len, m2, hc])]
  simp only [List.set_cons_succ, List.set_cons_zero]
  have hm : L ∈ (D'.room (a / 4)).ls := by rw [hL]; simp
  have hl := h_line N'.ok N'.hs (a / 4) hm
  have f4 := ln_four hl
  have hf := h_four N'.ok N'.hs (a / 4) hm
  have rok := room_ok N'.ok (a / 4)
  have hw : L.w.length = 4 := rok.w (absL L) (List.mem_map.mpr ⟨L, hm, rfl⟩)
  have b := mod_bd a (j := 4) (by decide)
  have H2 := N'.hs.perm (nearF_line N'.ok (a / 4) hL)
  have st := setS_h (v := iV v) hf (i := a % 4) b.1 (by rw [List.length_map]; omega)
  have H3 := H2.setk 1 (i := L.f) (c := .lst (L.w.map iV)) rfl (.lst ((L.w.map iV).set (a % 4).toNat (iV v)))
  have hl3 : (S'.set L.f (.lst ((L.w.map iV).set (a % 4).toNat (iV v))))[L.o]? = some (lineC L) := H3.get (by simp)
  have sf := setF_h (tab := tab) (f := 5) (v := bV true) hl3 rfl (show 3 < 1000 by decide)
  have H4 := H3.setk 0 (i := L.o) (c := lineC L) rfl (lineC { L with w := L.w.set (a % 4).toNat v, ch := true })
  have ew : (L.w.map iV).set (a % 4).toNat (iV v) = (L.w.set (a % 4).toNat v).map iV := List.map_set.symm
  have hlt := pl_lt N'.ok (a / 4)
  refine ⟨(S'.set L.f (.lst ((L.w.map iV).set (a % 4).toNat (iV v)))).set L.o (lineC { L with w := L.w.set (a % 4).toNat v, ch := true }), upR D' (a / 4) D'.sl ⟨(D'.room (a / 4)).o, { L with w := L.w.set (a % 4).toNat v, ch := true } :: ls⟩, ?_, ⟨?_, ?_, N'.o, N'.s, ?_⟩⟩
  · simp (decide := true) only [dSs, dS, dE, List.getElem?_cons_zero, List.getElem?_cons_succ, R.bind_ok, R.st_ok, seq_nx, f4, con_line, ofT_some, binV_int, binI_mod, Option.map_some, st, sf]
    rfl
  · refine Hs.perm ?_ (near_join N'.ok (a / 4) _ _)
    have er : roomsC (upR D' (a / 4) D'.sl ⟨(D'.room (a / 4)).o, { L with w := L.w.set (a % 4).toNat v, ch := true } :: ls⟩) = roomsC D' := by
      unfold roomsC upR
      rw [List.map_set]
      congr 1
      have : (D'.rooms.map fun R => Val.r R.o)[D'.pl (a / 4)]? = some (.r (D'.room (a / 4)).o) := by rw [List.getElem?_map, room_at N'.ok]; rfl
      obtain ⟨q1, q2⟩ := List.getElem?_eq_some_iff.mp this
      have z := List.set_getElem_self (as := D'.rooms.map fun R => Val.r R.o) q1
      rw [q2] at z
      exact z
    rw [er]
    rw [ew] at H4
    have er2 : (D'.room (a / 4)).ls.map (fun L => Val.r L.o) = ({ L with w := L.w.set (a % 4).toNat v, ch := true } :: ls).map (fun L => Val.r L.o) := by rw [hL]; rfl
    rw [er2] at H4
    rw [ew]
    exact H4.perm (perm_mid [(L.o, lineC { L with w := L.w.set (a % 4).toNat v, ch := true }), (L.f, .lst ((L.w.set (a % 4).toNat v).map iV))] [(D'.o, nearC D'), (D'.s, slowC D'.sl), (D'.r, roomsC D'), ((D'.room (a / 4)).o, .lst (({ L with w := L.w.set (a % 4).toNat v, ch := true } :: ls).map fun L => .r L.o))] (ls.flatMap lineF ++ (others D' (a / 4) ++ rest)))
  · refine upR_ok N'.ok _ _ ?_
    rw [hL] at rok
    have nd := rok.nd
    refine ⟨?_, fun x hx => ?_, fun x hx => ?_, fun x hx => ?_, fun x hx => ?_, ?_⟩
    · have := rok.few
      simp at this ⊢
      exact this
    · rcases List.mem_cons.mp hx with rfl | hx
      · exact rok.lo (absL L) (by simp)
      · exact rok.lo x (List.mem_cons_of_mem _ hx)
    · rcases List.mem_cons.mp hx with rfl | hx
      · exact rok.hi (absL L) (by simp)
      · exact rok.hi x (List.mem_cons_of_mem _ hx)
    · rcases List.mem_cons.mp hx with rfl | hx
      · show (L.w.set _ _).length = 4
        rw [List.length_set]
        exact hw
      · exact rok.w x (List.mem_cons_of_mem _ hx)
    · rcases List.mem_cons.mp hx with rfl | hx
      · exact rok.pl (absL L) (by simp)
      · exact rok.pl x (List.mem_cons_of_mem _ hx)
    · exact nd
  · unfold putA
    rw [← N'.a, abs_room N'.ok, hL, abs_pl]
    show NearA.mk _ ((D'.rooms.set _ _).map fun R => R.ls.map absL) = NearA.mk _ _
    rw [List.map_set]
    rfl
theorem call_cost (n : Nat) (N : NearAt S o s A D rest) (a : Int) (h0 : 0 ≤ a) (h1 : a < A.sl.cells.length) :
    callF tab (n + 5) 18 [.r o, iV a] S = .ok (iV (match A.line (a / 4) with | some _ => 1 | none => match A.room (a / 4) with | [_, y] => if y.ch then 9 else 5 | _ => 5)) S := by
  have ca : callF tab (n + 4) 11 [.r o, iV a] S = .ok (.t .non) S := by
    have := call_need_address (n + 2) N.ok N.hs a h0 (by rw [← N.a] at h1; exact h1)
    rw [N.o] at this
    exact this
  rw [callI _ [some (.r o), some (iV a), none] tab_Near_cost rfl rfl, c_Near_cost]
  have m1 : methV tab 16 2 (.r o) S = .ok 11 S := by rw [← N.o]; exact nr_m N.hs rfl rfl rfl
  have m2 : methV tab 18 2 (.r o) S = .ok 13 S := by rw [← N.o]; exact nr_m N.hs rfl rfl rfl
  have m3 : methV tab 17 2 (.r o) S = .ok 12 S := by rw [← N.o]; exact nr_m N.hs rfl rfl rfl
  have cl := call_line_of (n + 2) N.ok N.hs a h0
  have cr := call_room_of (n + 3) N.ok N.hs (a / 4)
  rw [N.o] at cl cr
  rw [step_expr (S1 := S) (.t .non) (by simp (decide := true) [dE, dEs, IEs.len, m1, ca])]
  have k1 : tab.con 2 = some (.int 1) := rfl
  have k5 : tab.con 3 = some (.int 5) := rfl
  have k9 : tab.con 4 = some (.int 9) := rfl
  have k2 : tab.con 1 = some (.int 2) := rfl
  have hR := h_room N.ok N.hs (a / 4)
  have few := (room_ok N.ok (a / 4)).few
  rw [List.length_map] at few
  have hln : ∀ x ∈ (D.room (a / 4)).ls, S[x.o]? = some (lineC x) := fun x hx => h_line N.ok N.hs (a / 4) hx
  rw [← N.a, abs_line N.ok, abs_room N.ok]
  cases hq : D.line (a / 4) with
  | some L =>
    rw [hq] at cl
    rw [stay_if true (by simp (decide := true) [dB, dE, dEs, IEs.len, m2, cl, lineV]), if_pos rfl]
    simp (decide := true) [dSs, dS, dE, k1]
  | none =>
    rw [hq] at cl
    rw [stay_ifF (by simp (decide := true) [dB, dE, dEs, IEs.len, m2, cl, lineV])]
    rw [stay_set (.r (D.room (a / 4)).o) (by simp (decide := true) [dE, dEs, IEs.len, m3, con_line, binI_div, cr])]
    simp only [List.set_cons_succ, List.set_cons_zero]
    match hh : (D.room (a / 4)).ls, few with
    | [], _ =>
      rw [hh] at hR
      have e3 := len_r hR
      simp (decide := true) [dSs, dS, dB, dAnd, dE, dEs, e3, k2, k5]
    | [x], _ =>
      rw [hh] at hR
      have e3 := len_r hR
      simp (decide := true) [dSs, dS, dB, dAnd, dE, dEs, e3, k2, k5]
    | [x, y], _ =>
      rw [hh] at hR
      have e3 := len_r hR
      have e4 : subV (.r (D.room (a / 4)).o) (.t (.int (-1))) S = .ok (.r y.o) S := sub_h hR rfl
      have e5 := ln_ch (hln y (by rw [hh]; simp))
      cases hc : y.ch <;> rw [hc] at e5 <;> simp (decide := true) [dSs, dS, dB, dAnd, dE, dEs, e3, k2, k5, k9, e4, e5, hc, absL]
theorem call_look (n : Nat) (N : NearAt S o s A D rest) (a : Int) (h0 : 0 ≤ a) (h1 : a < A.sl.cells.length) : callF tab (n + 5) 19 [.r o, iV a] S = .ok (iV (lookA A a)) S := by
  have ca : callF tab (n + 4) 11 [.r o, iV a] S = .ok (.t .non) S := by
    have := call_need_address (n + 2) N.ok N.hs a h0 (by rw [← N.a] at h1; exact h1)
    rw [N.o] at this
    exact this
  have ez : szLine = 16777216 := rfl
  rw [callI _ [some (.r o), some (iV a), none] tab_Near_look rfl rfl, c_Near_look]
  have m1 : methV tab 16 2 (.r o) S = .ok 11 S := by rw [← N.o]; exact nr_m N.hs rfl rfl rfl
  have m2 : methV tab 18 2 (.r o) S = .ok 13 S := by rw [← N.o]; exact nr_m N.hs rfl rfl rfl
  have cl := call_line_of (n + 2) N.ok N.hs a h0
  rw [N.o] at cl
  rw [step_expr (S1 := S) (.t .non) (by simp (decide := true) [dE, dEs, IEs.len, m1, ca])]
  rw [stay_set (lineV (D.line (a / 4))) (by simp (decide := true) [dE, dEs, IEs.len, m2, cl])]
  simp only [List.set_cons_succ, List.set_cons_zero]
  unfold lookA
  rw [← N.a, abs_line N.ok]
  have h1 : a < D.sl.cells.length := by rw [← N.a] at h1; exact h1
  cases hq : D.line (a / 4) with
  | some L =>
    have hm : L ∈ (D.room (a / 4)).ls := List.mem_of_find?_eq_some hq
    have f4 := ln_four (h_line N.ok N.hs (a / 4) hm)
    have hf := h_four N.ok N.hs (a / 4) hm
    have hw : L.w.length = 4 := (room_ok N.ok (a / 4)).w (absL L) (List.mem_map.mpr ⟨L, hm, rfl⟩)
    have b := mod_bd a (j := 4) (by decide)
    have hs : subV (.r L.f) (iV (a % 4)) S = .ok (iV ((L.w[(a % 4).toNat]?).getD 0)) S := by
      refine sub_h hf ?_
      rw [atL_nat b.1 (by rw [List.length_map]; omega), List.getElem?_map, List.getElem?_eq_getElem (by omega)]
      rfl
    rw [show lineV (some L) = .r L.o from rfl]
    simp (decide := true) [dSs, dS, dB, dE, dEs, f4, con_line, binI_mod, hs, absL]
  | none =>
    have hsl := h_slow N.hs
    have f2 : fldV tab (.r o) 6 S = .ok (.r D.s) S := by rw [← N.o]; exact nr_slow N.hs
    have m3 := sl_m (f := 13) (g := 6) (m := 1) hsl rfl rfl rfl
    have cw := call_slow_whole (n + 3) hsl (by have := N.ok.len; omega)
    have hs : atL (D.sl.cells.map T.int) a = some (.int ((D.sl.cells[a.toNat]?).getD 0)) := by
      rw [atL_nat h0 (by rw [List.length_map]; exact h1), List.getElem?_map, List.getElem?_eq_getElem (by omega)]
      rfl
    rw [show lineV none = .t .non from rfl]
    simp (decide := true) [dSs, dS, dB, dE, dEs, IEs.len, f2, m3, cw, hs, absN]
end
end Rw

namespace Rw
open PySem PySem.Spec PyProof.Rows L2 PySem.W
section
variable {S : Store} {o s : Nat} {A : NearA} {D : NearD} {rest : Fr}
theorem hm_room (H : Hs S (nearF D ++ rest)) {R : RoomD} (m : R ∈ D.rooms) : S[R.o]? = some (.lst (R.ls.map fun L => .r L.o)) :=
  H.get (List.mem_append_left _ (List.mem_cons_of_mem _ (List.mem_cons_of_mem _ (List.mem_cons_of_mem _ (List.mem_flatMap.mpr ⟨R, m, List.mem_cons_self⟩)))))
theorem hm_line (H : Hs S (nearF D ++ rest)) {R : RoomD} (m : R ∈ D.rooms) {L : LineD} (hl : L ∈ R.ls) : S[L.o]? = some (lineC L) ∧ S[L.f]? = some (.lst (L.w.map iV)) := by
  have go : ∀ p ∈ lineF L, p ∈ nearF D ++ rest := fun p hp => List.mem_append_left _ (List.mem_cons_of_mem _ (List.mem_cons_of_mem _ (List.mem_cons_of_mem _ (List.mem_flatMap.mpr ⟨R, m, List.mem_cons_of_mem _ (List.mem_flatMap.mpr ⟨L, hl, hp⟩)⟩))))
  exact ⟨H.get (go _ (by simp [lineF])), H.get (go _ (by simp [lineF]))⟩
theorem mem_ok (h : NearOk D) {R : RoomD} (m : R ∈ D.rooms) : ∃ i, D.rooms[i]? = some R ∧ RoomOk D.sl.cells.length D.rooms.length i (R.ls.map absL) := by
  obtain ⟨i, hi, e⟩ := List.mem_iff_getElem.mp m
  exact ⟨i, by rw [List.getElem?_eq_getElem hi, e], h.room i R (by rw [List.getElem?_eq_getElem hi, e])⟩
theorem call_whole (n : Nat) (N : NearAt S o s A D rest) : callF tab (n + 1) 6 [.r s] S = .ok (.t (.lst (A.sl.cells.map .int))) S := by
  have ez : szLine = 16777216 := rfl
  have c := call_slow_whole n (h_slow N.hs) (by have := N.ok.len; omega)
  rw [N.s] at c
  rw [← N.a]
  exact c
end
/-! ### all settled -/
def clean (k : Int) (L : LineA) : LineA := if L.num = k then { L with ch := false } else L
def settleOne (A : NearA) (k : Int) : NearA := match A.line k with
  | some L => ⟨wbD A.sl L.ch L.num L.w, A.rooms.set (A.pl k) ((A.room k).map (clean k))⟩
  | none => A
def sortN (ls : List LineA) : List Int := (ls.map (·.num)).mergeSort fun i j => decide (i ≤ j)
def settleA (A : NearA) : NearA := A.rooms.foldl (fun B ls => (sortN ls).foldl settleOne B) A
section
variable {S : Store} {o s : Nat} {A : NearA} {D : NearD} {rest : Fr}
theorem RoomOk.same {len m i : Nat} {ls : List LineA} (h : RoomOk len m i ls) (f : LineA → LineA) (hn : ∀ L, (f L).num = L.num) (hw : ∀ L, (f L).w = L.w) : RoomOk len m i (ls.map f) := by
  refine ⟨by rw [List.length_map]; exact h.few, fun x hx => ?_, fun x hx => ?_, fun x hx => ?_, fun x hx => ?_, ?_⟩
  · obtain ⟨y, hy, rfl⟩ := List.mem_map.mp hx
    rw [hn]
    exact h.lo y hy
  · obtain ⟨y, hy, rfl⟩ := List.mem_map.mp hx
    rw [hn]
    exact h.hi y hy
  · obtain ⟨y, hy, rfl⟩ := List.mem_map.mp hx
    rw [hw]
    exact h.w y hy
  · obtain ⟨y, hy, rfl⟩ := List.mem_map.mp hx
    rw [hn]
    exact h.pl y hy
  · rw [List.map_map, show ((fun x : LineA => x.num) ∘ f) = (fun x => x.num) from funext hn]
    exact h.nd
theorem clean_num (k : Int) (L : LineA) : (clean k L).num = L.num := by
  unfold clean
  split <;> rfl
theorem clean_w (k : Int) (L : LineA) : (clean k L).w = L.w := by
  unfold clean
  split <;> rfl
theorem set_self {α β : Type} (f : α → β) (l : List α) (i : Nat) (x y : α) (h : l[i]? = some y) (e : f x = f y) : (l.set i x).map f = l.map f := by
  rw [List.map_set, e]
  have z : (l.map f)[i]? = some (f y) := by rw [List.getElem?_map, h]; rfl
  obtain ⟨q1, q2⟩ := List.getElem?_eq_some_iff.mp z
  have w := List.set_getElem_self (as := l.map f) q1
  rw [q2] at w
  exact w
/-- what stays while all is settled -/
structure Like (D D' : NearD) : Prop where
  r : D'.r = D.r
  o : D'.rooms.map (·.o) = D.rooms.map (·.o)
  n : D'.rooms.map (fun R => R.ls.map (·.num)) = D.rooms.map (fun R => R.ls.map (·.num))
theorem upR_ok2 (h : NearOk D) (k : Int) (sl : SlowD) (R : RoomD) (hl : sl.cells.length = D.sl.cells.length) (hr : RoomOk D.sl.cells.length D.rooms.length (D.pl k) (R.ls.map absL)) : NearOk (upR D k sl R) := by
  have z := upR_ok h k R hr
  exact ⟨z.rp, z.r4, by show sl.cells.length ≤ 64; rw [hl]; exact h.len, by show (sl.cells.length : Int) % 4 = 0; rw [hl]; exact h.four, fun i Q e => by
    have := z.room i Q e
    show RoomOk sl.cells.length _ i _
    rw [hl]
    exact this⟩
theorem settle_one (n : Nat) (N : NearAt S o s A D rest) (k : Int) (h0 : 0 ≤ k) (L : LineD) (hL : D.line k = some L) (v1 : Option Val) (x3 : Option Val) : ∃ (S' : Store) (D' : NearD),
    dSs tab (callF tab (n + 4)) b_Near_settle_0 [some (.r o), v1, some (iV k), x3] S = .nx [some (.r o), v1, some (iV k), x3] S' ∧ NearAt S' o s (settleOne A k) D' rest ∧ Like D D' := by
  unfold b_Near_settle_0
  have hm : L ∈ (D.room k).ls := List.mem_of_find?_eq_some hL
  have hk : L.num = k := of_decide_eq_true (List.find?_some (p := fun L : LineD => decide (L.num = k)) hL)
  have rok := room_ok N.ok k
  have hLm : absL L ∈ (D.room k).ls.map absL := List.mem_map.mpr ⟨L, hm, rfl⟩
  have hw : L.w.length = 4 := rok.w _ hLm
  have l0 : 0 ≤ L.num := rok.lo _ hLm
  have l1 : L.num * 4 + 4 ≤ D.sl.cells.length := rok.hi _ hLm
  have cl := call_line_of (n + 2) N.ok N.hs (k * 4) (by omega)
  rw [show k * 4 / 4 = k by omega, hL, N.o] at cl
  obtain ⟨pre, post, els⟩ := List.append_of_mem hm
  -- the pieces, the line ahead
  have P1 : (nearF D ++ rest).Perm ((D.o, nearC D) :: (D.s, slowC D.sl) :: (L.o, lineC L) :: (L.f, .lst (L.w.map iV)) :: ((D.r, roomsC D) :: ((D.room k).o, .lst ((D.room k).ls.map fun L => .r L.o)) :: (pre.flatMap lineF ++ (post.flatMap lineF ++ (others D k ++ rest))))) := by
    refine (near_split N.ok k).trans ?_
    refine List.Perm.cons _ (List.Perm.cons _ ?_)
    unfold roomF
    rw [els, List.flatMap_append, List.flatMap_cons]
    have e : ((D.r, roomsC D) :: (((D.room k).o, Cell.lst ((pre ++ L :: post).map fun L => .r L.o)) :: (pre.flatMap lineF ++ (lineF L ++ post.flatMap lineF)) ++ (others D k ++ rest))) = ((D.r, roomsC D) :: ((D.room k).o, Cell.lst ((pre ++ L :: post).map fun L => .r L.o)) :: pre.flatMap lineF) ++ (lineF L ++ (post.flatMap lineF ++ (others D k ++ rest))) := by simp
    rw [e]
    refine (perm_mid _ _ _).trans ?_
    show (lineF L ++ _).Perm _
    exact List.Perm.of_eq (by simp [lineF])
  have H2 := N.hs.perm P1
  have ne : D.s ≠ L.o := fun z => by
    have nd := H2.nd
    simp only [List.map_cons, List.nodup_cons, List.mem_cons, not_or] at nd
    exact nd.2.1.1 z
  have g1 := h_near N.hs
  have g2 := h_slow N.hs
  have g3 := h_line N.ok N.hs k hm
  have g4 := h_four N.ok N.hs k hm
  have cw := call_write_back (D := D) (n + 1) (L := L) g1 g2 g3 g4 ne l0 l1 N.ok.len hw
  rw [N.o] at cw
  have m1 : methV tab 19 2 (.r o) S = .ok 14 S := by rw [← N.o]; exact nr_m N.hs rfl rfl rfl
  have m2 : methV tab 18 2 (.r o) S = .ok 13 S := by rw [← N.o]; exact nr_m N.hs rfl rfl rfl
  have hnd : ((D.room k).ls.map (·.num)).Nodup := by
    have := rok.nd
    rw [List.map_map] at this
    exact this
  let L' : LineD := { L with ch := false }
  have eAbs : (pre ++ L' :: post).map absL = ((D.room k).ls.map absL).map (clean k) := by
    rw [els] at hnd ⊢
    rw [List.map_append, List.map_cons, List.nodup_append, List.nodup_cons] at hnd
    obtain ⟨_, ⟨n1, _⟩, n2⟩ := hnd
    have no : ∀ x : LineD, x.num ≠ k → clean k (absL x) = absL x := fun x hx => by
      unfold clean
      exact if_neg hx
    rw [List.map_append, List.map_append, List.map_append, List.map_cons, List.map_cons, List.map_cons]
    congr 1
    · rw [List.map_map]
      apply List.map_congr_left
      intro x hx
      refine (no x fun z => ?_).symm
      exact n2 x.num (List.mem_map.mpr ⟨x, hx, rfl⟩) L.num List.mem_cons_self (by rw [z, hk])
    · congr 1
      · unfold clean
        exact (if_pos hk).symm
      · rw [List.map_map]
        apply List.map_congr_left
        intro x hx
        refine (no x fun z => ?_).symm
        exact n1 (List.mem_map.mpr ⟨x, hx, by rw [z, hk]⟩)
  have hro : (pre ++ L' :: post).map (fun L => Val.r L.o) = (D.room k).ls.map fun L => .r L.o := by
    rw [els, List.map_append, List.map_append]
    rfl
  refine ⟨if L.ch then (S.set D.s (slowC (putL D.sl L.num L.w))).set L.o (lineC { L with ch := false }) else S, upR D k (wbD D.sl L.ch L.num L.w) ⟨(D.room k).o, pre ++ L' :: post⟩, ?_, ⟨?_, ?_, N.o, N.s, ?_⟩, ⟨rfl, ?_, ?_⟩⟩
  · rw [step_expr (.t .non) (by
      simp (decide := true) only [dE, dEs, IEs.len, List.getElem?_cons_zero, List.getElem?_cons_succ, R.bind_ok, m1, m2, con_line, ofT_some, binV_int, binI_mulR big4, Option.map_some, cl, lineV]
      exact cw)]
    rfl
  · refine Hs.perm ?_ (near_join N.ok k _ _)
    have er : roomsC (upR D k (wbD D.sl L.ch L.num L.w) ⟨(D.room k).o, pre ++ L' :: post⟩) = roomsC D := congrArg Cell.lst (set_self (fun R : RoomD => Val.r R.o) D.rooms (D.pl k) _ (D.room k) (room_at N.ok k) rfl)
    rw [er]
    have back : ∀ sl2 (L2 : LineD), L2.o = L.o → L2.f = L.f → L2.w = L.w → ((D.o, nearC D) :: (D.s, slowC sl2) :: (L.o, lineC L2) :: (L.f, Cell.lst (L.w.map iV)) :: ((D.r, roomsC D) :: ((D.room k).o, .lst ((D.room k).ls.map fun L => .r L.o)) :: (pre.flatMap lineF ++ (post.flatMap lineF ++ (others D k ++ rest))))).Perm
        ((D.o, nearC D) :: (D.s, slowC sl2) :: (D.r, roomsC D) :: (roomF ⟨(D.room k).o, pre ++ L2 :: post⟩ ++ (others D k ++ rest))) := fun sl2 L2 q1 q2 q3 => by
      refine List.Perm.cons _ (List.Perm.cons _ (List.Perm.symm ?_))
      unfold roomF
      show (_ :: ((_, Cell.lst ((pre ++ L2 :: post).map fun L => .r L.o)) :: (pre ++ L2 :: post).flatMap lineF ++ _)).Perm _
      have hro2 : (pre ++ L2 :: post).map (fun L => Val.r L.o) = (D.room k).ls.map fun L => .r L.o := by
        rw [els, List.map_append, List.map_append, List.map_cons, List.map_cons, q1]
      rw [hro2, List.flatMap_append, List.flatMap_cons]
      have e : ((D.r, roomsC D) :: (((D.room k).o, Cell.lst ((D.room k).ls.map fun L => .r L.o)) :: (pre.flatMap lineF ++ (lineF L2 ++ post.flatMap lineF)) ++ (others D k ++ rest))) = ((D.r, roomsC D) :: ((D.room k).o, Cell.lst ((D.room k).ls.map fun L => .r L.o)) :: pre.flatMap lineF) ++ (lineF L2 ++ (post.flatMap lineF ++ (others D k ++ rest))) := by simp
      rw [e]
      refine (perm_mid _ _ _).trans (List.Perm.of_eq ?_)
      simp [lineF, q1, q2, q3]
    cases hc : L.ch with
    | false =>
      rw [if_neg Bool.false_ne_true]
      have eL : L' = L := by
        show ({ L with ch := false } : LineD) = L
        rw [← hc]
      rw [eL]
      exact H2.perm (back D.sl L rfl rfl rfl)
    | true =>
      rw [if_pos rfl]
      have H5 := (H2.setk 1 (i := D.s) (c := slowC D.sl) rfl (slowC (putL D.sl L.num L.w))).setk 2 (i := L.o) (c := lineC L) rfl (lineC L')
      exact H5.perm (back (putL D.sl L.num L.w) L' rfl rfl rfl)
  · refine upR_ok2 N.ok k _ _ (wb_len l0 l1 hw) ?_
    show RoomOk _ _ _ ((pre ++ L' :: post).map absL)
    rw [eAbs]
    exact rok.same (clean k) (clean_num k) (clean_w k)
  · unfold settleOne
    rw [← N.a, abs_line N.ok, hL]
    show _ = NearA.mk (wbD D.sl L.ch L.num L.w) ((absN D).rooms.set ((absN D).pl k) (((absN D).room k).map (clean k)))
    rw [abs_room N.ok, abs_pl, ← eAbs]
    show NearA.mk _ ((D.rooms.set _ _).map fun R => R.ls.map absL) = _
    rw [List.map_set]
    rfl
  · exact set_self (fun R : RoomD => R.o) D.rooms (D.pl k) _ (D.room k) (room_at N.ok k) rfl
  · refine set_self (fun R : RoomD => R.ls.map (·.num)) D.rooms (D.pl k) _ (D.room k) (room_at N.ok k) ?_
    show (pre ++ L' :: post).map (·.num) = (D.room k).ls.map (·.num)
    rw [els, List.map_append, List.map_append]
    rfl
end
end Rw

namespace Rw
open PySem PySem.Spec PyProof.Rows L2 PySem.W
theorem allI_map (ns : List Int) : allI ((ns.map T.int).map .t) = some ns := by
  induction ns with
  | nil => rfl
  | cons n ns ih =>
    show (allI ((ns.map T.int).map .t)).map (n :: ·) = _
    rw [ih]
    rfl
theorem blt_sorted (ns : List Int) (S : Store) (h : ns.length < 64) : bltV .sorted false [.t (.lst (ns.map .int))] S = .ok (.t (.lst ((ns.mergeSort fun i j => decide (i ≤ j)).map .int))) S := by
  have ez : szLine = 16777216 := rfl
  show (match allI ((ns.map T.int).map .t) with
    | some ns => if ns.length < 64 then alloc false ((ns.mergeSort (fun i j => decide (i ≤ j))).map fun i => .t (.int i)) S else .bad
    | none => .bad) = _
  rw [allI_map]
  show (if ns.length < 64 then alloc false ((ns.mergeSort (fun i j => decide (i ≤ j))).map fun i => Val.t (.int i)) S else .bad) = _
  rw [if_pos h, show ((ns.mergeSort (fun i j => decide (i ≤ j))).map fun i => Val.t (.int i)) = ((ns.mergeSort (fun i j => decide (i ≤ j))).map T.int).map .t by rw [List.map_map]; rfl, alloc_t _ _ (by rw [List.length_map, List.length_mergeSort]; omega)]
section
variable {S : Store} {o s : Nat} {A : NearA} {D D0 : NearD} {rest : Fr}
theorem Like.refl (D : NearD) : Like D D := ⟨rfl, rfl, rfl⟩
theorem Like.trans {D D1 D2 : NearD} (a : Like D D1) (b : Like D1 D2) : Like D D2 := ⟨b.r.trans a.r, b.o.trans a.o, b.n.trans a.n⟩
theorem Like.len {D D1 : NearD} (a : Like D D1) : D1.rooms.length = D.rooms.length := by
  have := congrArg List.length a.o
  rw [List.length_map, List.length_map] at this
  exact this
def Has (D : NearD) (k : Int) : Prop := k ∈ (((D.rooms.map fun R => R.ls.map (·.num))[D.pl k]?).getD [])
theorem Like.has {D D1 : NearD} (a : Like D D1) {k : Int} (h : Has D k) : Has D1 k := by
  unfold Has NearD.pl at *
  rw [a.n, a.len]
  exact h
theorem has_line (h : NearOk D) {k : Int} (q : Has D k) : ∃ L, D.line k = some L := by
  unfold Has at q
  rw [List.getElem?_map, room_at h k] at q
  have q : k ∈ (D.room k).ls.map (·.num) := q
  obtain ⟨L, hL, e⟩ := List.mem_map.mp q
  cases hq : D.line k with
  | some L => exact ⟨L, rfl⟩
  | none => exact absurd (decide_eq_true e) (List.find?_eq_none.mp hq L hL)
theorem settle_inner (n : Nat) (v1 x3 : Option Val) : ∀ (ks : List Int) (A : NearA) (D : NearD) (S : Store) (x2 : Option Val), NearAt S o s A D rest → (∀ k ∈ ks, 0 ≤ k ∧ Has D k) →
    ∃ (S' : Store) (D' : NearD) (x2' : Option Val), forL none false [2] (fun env S => dSs tab (callF tab (n + 4)) b_Near_settle_0 env S) (ks.map iV) [some (.r o), v1, x2, x3] S = .nx [some (.r o), v1, x2', x3] S' ∧ NearAt S' o s (ks.foldl settleOne A) D' rest ∧ Like D D'
  | [], A, D, S, x2, N, _ => ⟨S, D, x2, by rw [List.map_nil, forL_nil (okW_none S)], N, .refl D⟩
  | k :: ks, A, D, S, x2, N, hk => by
    obtain ⟨k0, kh⟩ := hk k List.mem_cons_self
    obtain ⟨L, hL⟩ := has_line N.ok kh
    obtain ⟨S1, D1, b1, N1, l1⟩ := settle_one n N k k0 L hL v1 x3
    obtain ⟨S', D', x2', f', N', l'⟩ := settle_inner n v1 x3 ks _ D1 S1 (some (iV k)) N1 fun j hj => ⟨(hk j (List.mem_cons_of_mem _ hj)).1, l1.has (hk j (List.mem_cons_of_mem _ hj)).2⟩
    refine ⟨S', D', x2', ?_, N', l1.trans l'⟩
    rw [List.map_cons, forL_cons (okW_none S)]
    show (match dSs tab (callF tab (n + 4)) b_Near_settle_0 [some (.r o), v1, some (iV k), x3] S with
      | .nx env2 S2 => forL none false [2] (fun env S => dSs tab (callF tab (n + 4)) b_Near_settle_0 env S) (ks.map iV) env2 S2
      | .ct env2 S2 => forL none false [2] (fun env S => dSs tab (callF tab (n + 4)) b_Near_settle_0 env S) (ks.map iV) env2 S2
      | .bk env2 S2 => .nx env2 S2
      | m => m) = _
    rw [b1]
    exact f'
theorem sortN_eq {ls ls' : List LineA} (h : ls.map (·.num) = ls'.map (·.num)) : sortN ls = sortN ls' := by
  unfold sortN
  rw [h]
/-- a room, settled -/
theorem settle_room (n : Nat) (N : NearAt S o s A D rest) {R : RoomD} {i : Nat} (hR : D.rooms[i]? = some R) (x2 x3 : Option Val) : ∃ (S' : Store) (D' : NearD) (x2' : Option Val),
    dSs tab (callF tab (n + 4)) b_Near_settle_1 [some (.r o), some (.r R.o), x2, x3] S = .nx [some (.r o), some (.r R.o), x2', x3] S' ∧ NearAt S' o s ((sortN (R.ls.map absL)).foldl settleOne A) D' rest ∧ Like D D' := by
  have ez : szLine = 16777216 := rfl
  have hm : R ∈ D.rooms := List.mem_of_getElem? hR
  have hRo := hm_room N.hs hm
  have rok := N.ok.room i R hR
  have few := rok.few
  rw [List.length_map] at few
  have en : (R.ls.map absL).map (·.num) = R.ls.map (·.num) := by rw [List.map_map]; rfl
  have hi : i < D.rooms.length := (List.getElem?_eq_some_iff.mp hR).1
  unfold b_Near_settle_1
  have src : dE tab (callF tab (n + 4)) (.comp false .seq (.cons (.var 1) .nil) false [3] .nil (.fld (.var 3) 3)) [some (.r o), some (.r R.o), x2, x3] S = .ok (.t (.lst ((R.ls.map (·.num)).map .int))) S := by
    rw [List.map_map]
    refine comp_map (w := some (R.o, R.ls.map fun L => .r L.o)) R.ls (fun L => .r L.o) _ (by omega) (show items .seq [.r R.o] S = _ from items_h hRo) (show okW (some (R.o, R.ls.map fun L => Val.r L.o)) S from hRo) (fun L hL => ?_)
    have f := ln_num (hm_line N.hs hm hL).1
    exact ⟨_, rfl, by simp (decide := true) [dE, wipeE, f]⟩
  rw [step_for (vs := [.t (.lst (((R.ls.map (·.num)).mergeSort fun i j => decide (i ≤ j)).map .int))]) (its := (((R.ls.map (·.num)).mergeSort fun i j => decide (i ≤ j)).map T.int).map .t) (w := none) (S1 := S) (S2 := S) (by
    show Rw.R.bind (dE tab (callF tab (n + 4)) (.blt .sorted false _) _ S) _ = _
    rw [dE_blt src, blt_sorted _ _ (by rw [List.length_map]; omega)]
    rfl) rfl]
  have hsn : (((R.ls.map (·.num)).mergeSort fun i j => decide (i ≤ j)).map T.int).map .t = (sortN (R.ls.map absL)).map iV := by
    unfold sortN
    rw [en, List.map_map]
    rfl
  rw [hsn]
  obtain ⟨S', D', x2', f', N', l'⟩ := settle_inner n (some (.r R.o)) x3 (sortN (R.ls.map absL)) A D S x2 N (fun k hk => by
    have hk : k ∈ (R.ls.map absL).map (·.num) := (List.mergeSort_perm _ _).mem_iff.mp hk
    obtain ⟨L, hL, e⟩ := List.mem_map.mp hk
    subst e
    refine ⟨rok.lo L hL, ?_⟩
    unfold Has
    have ep : D.pl L.num = i := rok.pl L hL
    rw [ep, List.getElem?_map, hR]
    show L.num ∈ R.ls.map (·.num)
    rw [← en]
    exact hk)
  rw [f']
  exact ⟨S', D', x2', rfl, N', l'⟩
theorem settle_rooms (n : Nat) (x3 : Option Val) : ∀ (rs : List RoomD) (j : Nat) (A : NearA) (D : NearD) (S : Store) (x1 x2 : Option Val), rs = D0.rooms.drop j → NearAt S o s A D rest → Like D0 D →
    ∃ (S' : Store) (D' : NearD) (x1' x2' : Option Val), forL (some (D0.r, D0.rooms.map fun R : RoomD => Val.r R.o)) false [1] (fun env S => dSs tab (callF tab (n + 4)) b_Near_settle_1 env S) (rs.map fun R : RoomD => Val.r R.o) [some (.r o), x1, x2, x3] S = .nx [some (.r o), x1', x2', x3] S' ∧
      NearAt S' o s (rs.foldl (fun B R => (sortN (R.ls.map absL)).foldl settleOne B) A) D' rest ∧ Like D0 D'
  | [], j, A, D, S, x1, x2, _, N, l => by
    refine ⟨S, D, x1, x2, ?_, N, l⟩
    rw [List.map_nil, forL_nil]
    have := h_rooms N.hs
    rw [l.r] at this
    show S[D0.r]? = some (.lst (D0.rooms.map fun R : RoomD => Val.r R.o))
    rw [this]
    unfold roomsC
    have e := congrArg (List.map Val.r) l.o
    rw [List.map_map, List.map_map] at e
    exact congrArg (fun z => some (Cell.lst z)) e
  | R0 :: rs, j, A, D, S, x1, x2, hd, N, l => by
    have hw : okW (some (D0.r, D0.rooms.map fun R => Val.r R.o)) S := by
      have := h_rooms N.hs
      rw [l.r] at this
      show S[D0.r]? = some (.lst (D0.rooms.map fun R : RoomD => Val.r R.o))
      rw [this]
      unfold roomsC
      have e := congrArg (List.map Val.r) l.o
      rw [List.map_map, List.map_map] at e
      exact congrArg (fun z => some (Cell.lst z)) e
    have h0 : D0.rooms[j]? = some R0 := by
      have := congrArg (fun l => l[0]?) hd
      simp only [List.getElem?_cons_zero, List.getElem?_drop, Nat.add_zero] at this
      exact this.symm
    have hd2 : rs = D0.rooms.drop (j + 1) := by
      have := congrArg List.tail hd
      rw [List.tail_cons, List.tail_drop] at this
      exact this
    have hj : j < D.rooms.length := by rw [l.len]; exact (List.getElem?_eq_some_iff.mp h0).1
    obtain ⟨R, hR⟩ : ∃ R, D.rooms[j]? = some R := ⟨_, List.getElem?_eq_getElem hj⟩
    have eo : R.o = R0.o := by
      have z := congrArg (fun l => l[j]?) l.o
      simp only [List.getElem?_map, hR, h0] at z
      exact Option.some.inj z
    have en : R.ls.map (·.num) = R0.ls.map (·.num) := by
      have z := congrArg (fun l => l[j]?) l.n
      simp only [List.getElem?_map, hR, h0] at z
      exact Option.some.inj z
    have es : sortN (R.ls.map absL) = sortN (R0.ls.map absL) := sortN_eq (by rw [List.map_map, List.map_map]; exact en)
    obtain ⟨S1, D1, y2, b1, N1, l1⟩ := settle_room n N hR x2 x3
    rw [eo] at b1
    rw [es] at N1
    obtain ⟨S', D', x1', x2', f', N', l'⟩ := settle_rooms n x3 rs (j + 1) _ D1 S1 (some (.r R0.o)) y2 hd2 N1 (l.trans l1)
    refine ⟨S', D', x1', x2', ?_, N', l'⟩
    rw [List.map_cons, forL_cons hw]
    show (match dSs tab (callF tab (n + 4)) b_Near_settle_1 [some (.r o), some (.r R0.o), x2, x3] S with
      | .nx env2 S2 => forL (some (D0.r, D0.rooms.map fun R : RoomD => Val.r R.o)) false [1] (fun env S => dSs tab (callF tab (n + 4)) b_Near_settle_1 env S) (rs.map fun R : RoomD => Val.r R.o) env2 S2
      | .ct env2 S2 => forL (some (D0.r, D0.rooms.map fun R : RoomD => Val.r R.o)) false [1] (fun env S => dSs tab (callF tab (n + 4)) b_Near_settle_1 env S) (rs.map fun R : RoomD => Val.r R.o) env2 S2
      | .bk env2 S2 => .nx env2 S2
      | m => m) = _
    rw [b1]
    exact f'
theorem call_settle (n : Nat) (N : NearAt S o s A D rest) : ∃ (S' : Store) (D' : NearD), callF tab (n + 5) 20 [.r o] S = .ok (.t .non) S' ∧ NearAt S' o s (settleA A) D' rest := by
  rw [callI _ [some (.r o), none, none, none] tab_Near_settle rfl rfl, c_Near_settle]
  have f1 : fldV tab (.r o) 7 S = .ok (.r D.r) S := by rw [← N.o]; exact nr_rooms N.hs
  have hr : S[D.r]? = some (.lst (D.rooms.map fun R : RoomD => Val.r R.o)) := h_rooms N.hs
  rw [step_for (vs := [.r D.r]) (its := D.rooms.map fun R : RoomD => Val.r R.o) (w := some (D.r, D.rooms.map fun R : RoomD => Val.r R.o)) (S1 := S) (S2 := S) (by simp (decide := true) [dE, dEs, f1]) (items_h hr)]
  obtain ⟨S', D', x1', x2', f', N', l'⟩ := settle_rooms n none D.rooms 0 A D S none none (by simp) N (Like.refl D)
  rw [f']
  refine ⟨S', D', rfl, ?_⟩
  have e : settleA A = D.rooms.foldl (fun B R => (sortN (R.ls.map absL)).foldl settleOne B) A := by
    unfold settleA
    have e2 : A.rooms = D.rooms.map fun R => R.ls.map absL := by rw [← N.a]; rfl
    rw [e2, List.foldl_map]
  rw [e]
  exact N'
end
end Rw

namespace Rw
open PySem PySem.Spec PyProof.Rows L2 PySem.W
/-! ### what stands where: plain -/
def cellAt (sl : SlowD) (b : Int) : Int := (sl.cells[b.toNat]?).getD 0
def wAt (L : LineA) (b : Int) : Int := (L.w[(b % 4).toNat]?).getD 0
def lookR (sl : SlowD) (ls : List LineA) (b : Int) : Int := match ls.find? fun L => decide (L.num = b / 4) with
  | some L => wAt L b
  | none => cellAt sl b
theorem lookA_R (A : NearA) (b : Int) : lookA A b = lookR A.sl (A.room (b / 4)) b := rfl
def cleanR (sl : SlowD) (ls : List LineA) : Prop := ∀ L ∈ ls, L.ch = false → L.w = line4 sl L.num
def CleanA (A : NearA) : Prop := ∀ (i : Nat) (ls : List LineA), A.rooms[i]? = some ls → cleanR A.sl ls
theorem put_at {sl : SlowD} {k b : Int} {ws : List Int} (h0 : 0 ≤ k) (h1 : k * 4 + 4 ≤ sl.cells.length) (hw : ws.length = 4) (hb : 0 ≤ b) : cellAt (putL sl k ws) b = if b / 4 = k then (ws[(b % 4).toNat]?).getD 0 else cellAt sl b := by
  unfold cellAt
  rw [put_get h0 h1 hw]
  by_cases q : b / 4 = k
  · rw [if_pos q, if_pos (by omega), show b.toNat % 4 = (b % 4).toNat by omega]
  · rw [if_neg q, if_neg (by omega)]
theorem line4_at (sl : SlowD) {b k : Int} (hb : 0 ≤ b) (e : b / 4 = k) : ((line4 sl k)[(b % 4).toNat]?).getD 0 = cellAt sl b := by
  rw [line4_get (by omega) _ (by omega)]
  unfold cellAt
  rw [show k.toNat * 4 + (b % 4).toNat = b.toNat by omega]
theorem line4_self {sl : SlowD} {k : Int} {ws : List Int} (h0 : 0 ≤ k) (h1 : k * 4 + 4 ≤ sl.cells.length) (hw : ws.length = 4) : line4 (putL sl k ws) k = ws := by
  apply List.ext_getElem?
  intro j
  by_cases hj : j < 4
  · rw [line4_get h0 j hj, put_get h0 h1 hw, if_pos (by omega), show (k.toNat * 4 + j) % 4 = j by omega]
  · rw [List.getElem?_eq_none (by rw [line4_len h0 (by rw [put_len h0 h1 hw]; exact h1)]; omega), List.getElem?_eq_none (by omega)]
theorem wb_self {sl : SlowD} {k : Int} {ws : List Int} {c : Bool} (h0 : 0 ≤ k) (h1 : k * 4 + 4 ≤ sl.cells.length) (hw : ws.length = 4) (cl : c = false → ws = line4 sl k) : line4 (wbD sl c k ws) k = ws := by
  unfold wbD
  cases c
  · exact (cl rfl).symm
  · exact line4_self h0 h1 hw
theorem wb_at {sl : SlowD} {k b : Int} {ws : List Int} {c : Bool} (h0 : 0 ≤ k) (h1 : k * 4 + 4 ≤ sl.cells.length) (hw : ws.length = 4) (cl : c = false → ws = line4 sl k) (hb : 0 ≤ b) : cellAt (wbD sl c k ws) b = if b / 4 = k then (ws[(b % 4).toNat]?).getD 0 else cellAt sl b := by
  unfold wbD
  cases c
  · by_cases q : b / 4 = k
    · rw [if_pos q, cl rfl]
      exact (line4_at sl hb q).symm
    · rw [if_neg q]
      rfl
  · exact put_at h0 h1 hw hb
theorem find_pos {ls : List LineA} {k : Int} {L : LineA} (h : ls.find? (fun L => decide (L.num = k)) = some L) : L ∈ ls ∧ L.num = k := ⟨List.mem_of_find?_eq_some h, of_decide_eq_true (List.find?_some (p := fun L : LineA => decide (L.num = k)) h)⟩
theorem fc {x : LineA} {l : List LineA} {k : Int} : (x :: l).find? (fun L => decide (L.num = k)) = if x.num = k then some x else l.find? (fun L => decide (L.num = k)) := by
  by_cases q : x.num = k
  · rw [if_pos q]
    exact List.find?_cons_of_pos (decide_eq_true q)
  · rw [if_neg q]
    exact List.find?_cons_of_neg (by simpa using q)
theorem find_of {ls : List LineA} (nd : (ls.map (·.num)).Nodup) {L : LineA} (h : L ∈ ls) : ls.find? (fun x => decide (x.num = L.num)) = some L := by
  induction ls with
  | nil => cases h
  | cons x l ih =>
    rw [List.map_cons, List.nodup_cons] at nd
    rcases List.mem_cons.mp h with rfl | h
    · rw [fc, if_pos rfl]
    · rw [fc, if_neg fun z => nd.1 (List.mem_map.mpr ⟨L, h, z.symm⟩)]
      exact ih nd.2 h
section
variable {sl : SlowD} {m i : Nat} {ls : List LineA} {k : Int}
theorem lookR_come (h : RoomOk sl.cells.length m i ls) (cl : cleanR sl ls) (h0 : 0 ≤ k) (h1 : k * 4 + 4 ≤ sl.cells.length) {b : Int} (hb : 0 ≤ b) : lookR (comeR sl ls k).1 (comeR sl ls k).2 b = lookR sl ls b := by
  unfold comeR
  cases hq : ls.find? fun L => decide (L.num = k) with
  | some L =>
    obtain ⟨hm, hk⟩ := find_pos hq
    show lookR sl (L :: ls.filter fun x => decide (x.num ≠ L.num)) b = lookR sl ls b
    unfold lookR
    by_cases q : L.num = b / 4
    · rw [fc, if_pos q, show b / 4 = k by omega, hq]
    · rw [fc, if_neg q, List.find?_filter]
      congr 2
      funext x
      by_cases z : x.num = b / 4
      · simp [z]
        omega
      · simp [z]
  | none =>
    have hno := List.find?_eq_none.mp hq
    have new : ∀ s2 : SlowD, ((line4 s2 k)[(b % 4).toNat]?).getD 0 = cellAt s2 b ∨ k ≠ b / 4 := fun s2 => by
      by_cases q : k = b / 4
      · exact .inl (line4_at s2 hb q.symm)
      · exact .inr q
    match hh : ls, h.few with
    | [], _ =>
      show lookR { sl with told := sl.told + 1 } [⟨k, line4 sl k, false⟩] b = lookR sl [] b
      unfold lookR
      by_cases q : k = b / 4
      · rw [fc, if_pos q]
        exact line4_at sl hb q.symm
      · rw [fc, if_neg q]
        rfl
    | [x], _ =>
      have nx : x.num ≠ k := fun z => hno x (by simp) (decide_eq_true z)
      show lookR { sl with told := sl.told + 1 } [⟨k, line4 sl k, false⟩, x] b = lookR sl [x] b
      unfold lookR
      by_cases q : k = b / 4
      · rw [fc, if_pos q, fc, if_neg (show ¬ x.num = b / 4 by omega)]
        exact line4_at sl hb q.symm
      · rw [fc, if_neg q]
        rfl
    | [x, y], _ =>
      have nx : x.num ≠ k := fun z => hno x (by simp) (decide_eq_true z)
      have ny : y.num ≠ k := fun z => hno y (by simp) (decide_eq_true z)
      have nd := h.nd
      have nxy : x.num ≠ y.num := by
        intro z
        simp [z] at nd
      have y0 := h.lo y (by simp)
      have y1 := h.hi y (by simp)
      have yw := h.w y (by simp)
      have yc := cl y (by simp)
      have at2 := wb_at (c := y.ch) y0 y1 yw yc hb
      show lookR { wbD sl y.ch y.num y.w with told := (wbD sl y.ch y.num y.w).told + 1 } [⟨k, line4 (wbD sl y.ch y.num y.w) k, false⟩, x] b = lookR sl [x, y] b
      unfold lookR
      by_cases q : k = b / 4
      · rw [fc, if_pos q, fc, if_neg (show ¬ x.num = b / 4 by omega), fc, if_neg (show ¬ y.num = b / 4 by omega)]
        refine (line4_at _ hb q.symm).trans ?_
        rw [at2, if_neg (by omega)]
        rfl
      · rw [fc, if_neg q]
        by_cases qx : x.num = b / 4
        · rw [fc, if_pos qx, fc, if_pos qx]
        · rw [fc, if_neg qx, fc, if_neg qx]
          by_cases qy : y.num = b / 4
          · rw [fc, if_pos qy]
            refine Eq.trans ?_ (show _ = wAt y b from rfl)
            rw [if_pos qy.symm] at at2
            exact at2
          · rw [fc, if_neg qy]
            rw [if_neg (by omega)] at at2
            exact at2
theorem line4_come (h : RoomOk sl.cells.length m i ls) {j : Int} (hj : 0 ≤ j) (no : ∀ y ∈ ls, y.num ≠ j) : line4 (comeR sl ls k).1 j = line4 sl j := by
  unfold comeR
  cases hq : ls.find? fun L => decide (L.num = k) with
  | some L => rfl
  | none =>
    match hh : ls, h.few with
    | [], _ => rfl
    | [x], _ => rfl
    | [x, y], _ => exact line4_wb (c := y.ch) hj (h.lo y (by simp)) (h.hi y (by simp)) (h.w y (by simp)) (no y (by simp))
theorem clean_come (h : RoomOk sl.cells.length m i ls) (cl : cleanR sl ls) (h0 : 0 ≤ k) (h1 : k * 4 + 4 ≤ sl.cells.length) : cleanR (comeR sl ls k).1 (comeR sl ls k).2 := by
  unfold comeR
  cases hq : ls.find? fun L => decide (L.num = k) with
  | some L =>
    intro x hx
    refine cl x ?_
    rcases List.mem_cons.mp hx with rfl | hx
    · exact List.mem_of_find?_eq_some hq
    · exact (List.mem_filter.mp hx).1
  | none =>
    match hh : ls, h.few with
    | [], _ =>
      intro x hx _
      rcases List.mem_singleton.mp hx with rfl
      rfl
    | [z], _ =>
      intro x hx hc
      rcases List.mem_cons.mp hx with rfl | hx
      · rfl
      · exact cl x hx hc
    | [z, y], _ =>
      intro x hx hc
      rcases List.mem_cons.mp hx with rfl | hx
      · rfl
      · rcases List.mem_singleton.mp hx with rfl
        have nd := h.nd
        have ne : y.num ≠ x.num := by
          intro e
          simp [e] at nd
        rw [cl x (by simp) hc]
        exact (line4_wb (c := y.ch) (h.lo x (by simp)) (h.lo y (by simp)) (h.hi y (by simp)) (h.w y (by simp)) ne).symm
end
/-- a room put otherwise -/
def setR (A : NearA) (k : Int) (sl : SlowD) (ls : List LineA) : NearA := ⟨sl, A.rooms.set (A.pl k) ls⟩
theorem setR_room {A : NearA} (h : OkA A) (k : Int) (sl : SlowD) (ls : List LineA) (j : Int) : (setR A k sl ls).room j = if A.pl j = A.pl k then ls else A.room j := by
  have e : (setR A k sl ls).pl j = A.pl j := by
    unfold NearA.pl setR
    rw [List.length_set]
  unfold NearA.room
  rw [e]
  show ((A.rooms.set (A.pl k) ls)[A.pl j]?).getD [] = _
  by_cases q : A.pl j = A.pl k
  · rw [if_pos q, q, List.getElem?_set_self (roomA_at h k).1]
    rfl
  · rw [if_neg q, List.getElem?_set_ne (fun z => q z.symm)]
theorem setR_view {A : NearA} (h : OkA A) (c : CleanA A) (k : Int) (sl : SlowD) (ls : List LineA) (f : Int → Int)
    (O : ∀ j, 0 ≤ j → A.pl j ≠ A.pl k → line4 sl j = line4 A.sl j)
    (V : ∀ b, 0 ≤ b → A.pl (b / 4) = A.pl k → lookR sl ls b = f b) (W : ∀ b, 0 ≤ b → A.pl (b / 4) ≠ A.pl k → lookA A b = f b) (C : cleanR sl ls) :
    CleanA (setR A k sl ls) ∧ ∀ b, 0 ≤ b → lookA (setR A k sl ls) b = f b := by
  constructor
  · intro i l e
    have e : (A.rooms.set (A.pl k) ls)[i]? = some l := e
    by_cases q : A.pl k = i
    · subst q
      rw [List.getElem?_set_self (roomA_at h k).1] at e
      cases e
      exact C
    · rw [List.getElem?_set_ne q] at e
      intro L hL hc
      have rok := h.room i l e
      have ep : A.pl L.num = i := rok.pl L hL
      show L.w = line4 sl L.num
      rw [O L.num (rok.lo L hL) (by omega)]
      exact c i l e L hL hc
  · intro b hb
    rw [lookA_R, setR_room h]
    by_cases q : A.pl (b / 4) = A.pl k
    · rw [if_pos q]
      exact V b hb q
    · rw [if_neg q, ← W b hb q, lookA_R]
      unfold lookR
      have eo := O (b / 4) (by omega) q
      have ec : cellAt sl b = cellAt A.sl b := by
        rw [← line4_at sl hb rfl, ← line4_at A.sl hb rfl, eo]
      show (match (A.room (b / 4)).find? fun L => decide (L.num = b / 4) with
        | some L => wAt L b
        | none => cellAt sl b) = _
      rw [ec]
theorem roomA_ok {A : NearA} (h : OkA A) (k : Int) : RoomOk A.sl.cells.length A.rooms.length (A.pl k) (A.room k) := h.room _ _ (roomA_at h k).2
theorem come_view {A : NearA} (h : OkA A) (c : CleanA A) {k : Int} (h0 : 0 ≤ k) (h1 : k * 4 + 4 ≤ A.sl.cells.length) : CleanA (comeA A k) ∧ ∀ b, 0 ≤ b → lookA (comeA A k) b = lookA A b := by
  have rok := roomA_ok h k
  have cr := c _ _ (roomA_at h k).2
  refine setR_view h c k _ _ _ (fun j hj ne => line4_come rok hj fun y hy z => ne ?_) (fun b hb q => ?_) (fun _ _ _ => rfl) (clean_come rok cr h0 h1)
  · rw [← z]
    exact rok.pl y hy
  · rw [lookR_come rok cr h0 h1 hb, lookA_R]
    have : A.room (b / 4) = A.room k := by
      unfold NearA.room
      rw [q]
    rw [this]
/-- what came stands first -/
theorem come_head {A : NearA} (h : OkA A) (k : Int) : ∃ L ls, (comeA A k).room k = L :: ls ∧ L.num = k := by
  have e := setR_room h k (comeR A.sl (A.room k) k).1 (comeR A.sl (A.room k) k).2 k
  rw [if_pos rfl] at e
  show ∃ L ls, (setR A k (comeR A.sl (A.room k) k).1 (comeR A.sl (A.room k) k).2).room k = L :: ls ∧ L.num = k
  rw [e]
  unfold comeR
  cases hq : (A.room k).find? fun L => decide (L.num = k) with
  | some L => exact ⟨L, _, rfl, (find_pos hq).2⟩
  | none =>
    match A.room k, (roomA_ok h k).few with
    | [], _ => exact ⟨_, _, rfl, rfl⟩
    | [x], _ => exact ⟨_, _, rfl, rfl⟩
    | [x, y], _ => exact ⟨_, _, rfl, rfl⟩
theorem headA_look {A : NearA} (h : OkA A) (a : Int) : ((headA (comeA A (a / 4)) (a / 4)).w[(a % 4).toNat]?).getD 0 = lookA (comeA A (a / 4)) a := by
  obtain ⟨L, ls, e, en⟩ := come_head h (a / 4)
  rw [lookA_R]
  unfold headA lookR
  rw [e, fc, if_pos en]
  rfl
theorem put_view {A : NearA} (h : OkA A) (c : CleanA A) {a v : Int} (h0 : 0 ≤ a) (h1 : a < A.sl.cells.length) :
    OkA (putA A a v) ∧ CleanA (putA A a v) ∧ (putA A a v).sl.cells.length = A.sl.cells.length ∧ ∀ b, 0 ≤ b → lookA (putA A a v) b = if b = a then v else lookA A b := by
  have k0 : 0 ≤ a / 4 := by omega
  have k1 : a / 4 * 4 + 4 ≤ A.sl.cells.length := by
    have := h.four
    omega
  obtain ⟨h', el, em⟩ := come_okA h k0 k1
  obtain ⟨c', vw⟩ := come_view h c k0 k1
  obtain ⟨L, ls, e, en⟩ := come_head h (a / 4)
  have epa : putA A a v = setR (comeA A (a / 4)) (a / 4) (comeA A (a / 4)).sl (⟨L.num, L.w.set (a % 4).toNat v, true⟩ :: ls) := by
    unfold putA setR
    rw [e]
  rw [epa]
  generalize comeA A (a / 4) = B at *
  have rok := roomA_ok h' (a / 4)
  have cr := c' _ _ (roomA_at h' (a / 4)).2
  rw [e] at rok cr
  have hw : L.w.length = 4 := rok.w L (by simp)
  refine ⟨?_, ?_⟩
  · have els : (setR B (a / 4) B.sl (⟨L.num, L.w.set (a % 4).toNat v, true⟩ :: ls)).rooms.length = B.rooms.length := List.length_set
    refine ⟨by rw [els]; exact h'.rp, by rw [els]; exact h'.r4, h'.len, h'.four, fun i l q => ?_⟩
    rw [els]
    show RoomOk B.sl.cells.length _ i l
    have q : (B.rooms.set (B.pl (a / 4)) (⟨L.num, L.w.set (a % 4).toNat v, true⟩ :: ls))[i]? = some l := q
    by_cases z : B.pl (a / 4) = i
    · subst z
      rw [List.getElem?_set_self (roomA_at h' _).1] at q
      cases q
      refine ⟨by have := rok.few; simp at this ⊢; exact this, fun x hx => ?_, fun x hx => ?_, fun x hx => ?_, fun x hx => ?_, rok.nd⟩
      · rcases List.mem_cons.mp hx with rfl | hx
        · exact rok.lo L (by simp)
        · exact rok.lo x (List.mem_cons_of_mem _ hx)
      · rcases List.mem_cons.mp hx with rfl | hx
        · exact rok.hi L (by simp)
        · exact rok.hi x (List.mem_cons_of_mem _ hx)
      · rcases List.mem_cons.mp hx with rfl | hx
        · show (L.w.set _ _).length = 4
          rw [List.length_set]
          exact hw
        · exact rok.w x (List.mem_cons_of_mem _ hx)
      · rcases List.mem_cons.mp hx with rfl | hx
        · exact rok.pl L (by simp)
        · exact rok.pl x (List.mem_cons_of_mem _ hx)
    · rw [List.getElem?_set_ne z] at q
      exact h'.room i l q
  · have sv := setR_view h' c' (a / 4) B.sl (⟨L.num, L.w.set (a % 4).toNat v, true⟩ :: ls) (fun b => if b = a then v else lookA A b) (fun _ _ _ => rfl) (fun b hb q => ?_) (fun b hb q => ?_) (fun x hx hc => ?_)
    · exact ⟨sv.1, el, sv.2⟩
    · have e2 : B.room (b / 4) = L :: ls := by
        rw [← e]
        unfold NearA.room
        rw [q]
      have vb := vw b hb
      rw [lookA_R, e2] at vb
      unfold lookR at vb ⊢
      by_cases qb : b / 4 = a / 4
      · rw [fc, if_pos (show L.num = b / 4 by omega)] at vb
        rw [fc, if_pos (show L.num = b / 4 by omega)]
        show ((L.w.set (a % 4).toNat v)[(b % 4).toNat]?).getD 0 = _
        by_cases z : b = a
        · subst z
          rw [if_pos rfl, List.getElem?_set_self (by omega)]
          rfl
        · rw [if_neg z, ← vb, List.getElem?_set_ne (by omega)]
          rfl
      · have nq : ¬ L.num = b / 4 := by omega
        rw [fc, if_neg nq] at vb
        rw [fc, if_neg (show ¬ (LineA.mk L.num (L.w.set (a % 4).toNat v) true).num = b / 4 from nq)]
        rw [if_neg (by rintro rfl; exact qb rfl), ← vb]
    · show lookA B b = if b = a then v else lookA A b
      rw [if_neg (by rintro rfl; exact q rfl), vw b hb]
    · rcases List.mem_cons.mp hx with rfl | hx
      · cases hc
      · exact cr x (List.mem_cons_of_mem _ hx) hc
/-! settled -/
def chg (A : NearA) (n : Int) : Prop := ∃ ls ∈ A.rooms, ∃ L ∈ ls, L.num = n ∧ L.ch = true
theorem settleOne_view {A : NearA} (h : OkA A) (c : CleanA A) (k : Int) :
    OkA (settleOne A k) ∧ CleanA (settleOne A k) ∧ (settleOne A k).sl.cells.length = A.sl.cells.length ∧ (∀ b, 0 ≤ b → lookA (settleOne A k) b = lookA A b) ∧ ∀ n, chg (settleOne A k) n → chg A n ∧ n ≠ k := by
  unfold settleOne
  have rok := roomA_ok h k
  have cr := c _ _ (roomA_at h k).2
  cases hL : A.line k with
  | none =>
    refine ⟨h, c, rfl, fun _ _ => rfl, fun n hn => ⟨hn, ?_⟩⟩
    rintro rfl
    obtain ⟨ls, hls, L, hl, en, _⟩ := hn
    obtain ⟨i, hi, ei⟩ := List.mem_iff_getElem.mp hls
    have e : A.rooms[i]? = some ls := by rw [List.getElem?_eq_getElem hi, ei]
    have ep : A.pl L.num = i := (h.room i ls e).pl L hl
    have e2 : A.room n = ls := by
      unfold NearA.room
      rw [← en, ep, e]
      rfl
    have := List.find?_eq_none.mp hL L (by rw [e2]; exact hl)
    exact this (decide_eq_true en)
  | some L =>
    obtain ⟨hm, hk⟩ := find_pos hL
    have l0 := rok.lo L hm
    have l1 := rok.hi L hm
    have lw := rok.w L hm
    have lc := cr L hm
    have wl := wb_len (c := L.ch) l0 l1 lw
    show OkA (setR A k (wbD A.sl L.ch L.num L.w) ((A.room k).map (clean k))) ∧ CleanA (setR A k (wbD A.sl L.ch L.num L.w) ((A.room k).map (clean k))) ∧ (wbD A.sl L.ch L.num L.w).cells.length = A.sl.cells.length ∧
      (∀ b, 0 ≤ b → lookA (setR A k (wbD A.sl L.ch L.num L.w) ((A.room k).map (clean k))) b = lookA A b) ∧ ∀ n, chg (setR A k (wbD A.sl L.ch L.num L.w) ((A.room k).map (clean k))) n → chg A n ∧ n ≠ k
    have sv := setR_view h c k (wbD A.sl L.ch L.num L.w) ((A.room k).map (clean k)) (lookA A) (fun j hj ne => ?_) (fun b hb q => ?_) (fun _ _ _ => rfl) (fun x hx hc => ?_)
    · refine ⟨?_, sv.1, wl, sv.2, fun n hn => ?_⟩
      · have els : (setR A k (wbD A.sl L.ch L.num L.w) ((A.room k).map (clean k))).rooms.length = A.rooms.length := List.length_set
        refine ⟨by rw [els]; exact h.rp, by rw [els]; exact h.r4, by show (wbD A.sl L.ch L.num L.w).cells.length ≤ 64; rw [wl]; exact h.len, by show ((wbD A.sl L.ch L.num L.w).cells.length : Int) % 4 = 0; rw [wl]; exact h.four, fun i l q => ?_⟩
        rw [els]
        show RoomOk (wbD A.sl L.ch L.num L.w).cells.length _ i l
        rw [wl]
        have q : (A.rooms.set (A.pl k) ((A.room k).map (clean k)))[i]? = some l := q
        by_cases z : A.pl k = i
        · subst z
          rw [List.getElem?_set_self (roomA_at h _).1] at q
          cases q
          exact rok.same (clean k) (clean_num k) (clean_w k)
        · rw [List.getElem?_set_ne z] at q
          exact h.room i l q
      · obtain ⟨ls, hls, x, hx, en, ec⟩ := hn
        obtain ⟨i, hi, ei⟩ := List.mem_iff_getElem.mp hls
        have e : (A.rooms.set (A.pl k) ((A.room k).map (clean k)))[i]? = some ls := by
          show (setR A k (wbD A.sl L.ch L.num L.w) ((A.room k).map (clean k))).rooms[i]? = _
          rw [List.getElem?_eq_getElem hi, ei]
        by_cases z : A.pl k = i
        · subst z
          rw [List.getElem?_set_self (roomA_at h _).1] at e
          cases e
          obtain ⟨y, hy, rfl⟩ := List.mem_map.mp hx
          by_cases qk : y.num = k
          · have : (clean k y).ch = false := by
              unfold clean
              rw [if_pos qk]
            rw [this] at ec
            cases ec
          · have ey : clean k y = y := by
              unfold clean
              exact if_neg qk
            rw [ey] at en ec
            exact ⟨⟨_, List.mem_of_getElem? (roomA_at h k).2, y, hy, en, ec⟩, by omega⟩
        · rw [List.getElem?_set_ne z] at e
          refine ⟨⟨ls, List.mem_of_getElem? e, x, hx, en, ec⟩, ?_⟩
          rintro rfl
          have ep : A.pl x.num = i := (h.room i ls e).pl x hx
          exact z (by rw [← ep, en])
    · refine line4_wb (c := L.ch) hj l0 l1 lw fun z => ne ?_
      rw [← z]
      exact rok.pl L hm
    · have e2 : A.room (b / 4) = A.room k := by
        unfold NearA.room
        rw [q]
      rw [lookA_R, e2]
      unfold lookR
      rw [List.find?_map, show ((fun L : LineA => decide (L.num = b / 4)) ∘ clean k) = (fun L => decide (L.num = b / 4)) by
        funext x
        show decide ((clean k x).num = b / 4) = _
        rw [clean_num]]
      cases hq : (A.room k).find? fun L => decide (L.num = b / 4) with
      | some x =>
        show wAt (clean k x) b = wAt x b
        unfold wAt
        rw [clean_w]
      | none =>
        show cellAt _ b = cellAt _ b
        rw [wb_at (c := L.ch) l0 l1 lw lc hb, if_neg]
        intro z
        exact List.find?_eq_none.mp hq L hm (decide_eq_true z.symm)
    · obtain ⟨y, hy, rfl⟩ := List.mem_map.mp hx
      rw [clean_num, clean_w]
      by_cases qk : y.num = k
      · have : y = L := by
          have f1 := find_of rok.nd hy
          have hL : (A.room k).find? (fun L => decide (L.num = k)) = some L := hL
          rw [qk, hL] at f1
          exact (Option.some.inj f1).symm
        subst this
        exact (wb_self l0 l1 lw lc).symm
      · have ey : clean k y = y := by
          unfold clean
          exact if_neg qk
        rw [ey] at hc
        rw [cr y hy hc]
        exact (line4_wb (c := L.ch) (rok.lo y hy) l0 l1 lw (by omega)).symm
/-- what stays through a settling -/
structure SameV (A B : NearA) : Prop where
  ok : OkA B
  cl : CleanA B
  len : B.sl.cells.length = A.sl.cells.length
  v : ∀ b, 0 ≤ b → lookA B b = lookA A b
  c : ∀ n, chg B n → chg A n
theorem SameV.refl {A : NearA} (h : OkA A) (c : CleanA A) : SameV A A := ⟨h, c, rfl, fun _ _ => rfl, fun _ h => h⟩
theorem settle_fold {A : NearA} : ∀ (ks : List Int) (B : NearA), SameV A B → SameV A (ks.foldl settleOne B) ∧ ∀ n, chg (ks.foldl settleOne B) n → chg B n ∧ n ∉ ks
  | [], B, h => ⟨h, fun n hn => ⟨hn, by simp⟩⟩
  | k :: ks, B, h => by
    obtain ⟨a1, a2, a3, a4, a5⟩ := settleOne_view h.ok h.cl k
    obtain ⟨b1, b2⟩ := settle_fold (A := A) ks (settleOne B k) ⟨a1, a2, a3.trans h.len, fun b hb => (a4 b hb).trans (h.v b hb), fun n hn => h.c n (a5 n hn).1⟩
    refine ⟨b1, fun n hn => ?_⟩
    obtain ⟨c1, c2⟩ := b2 n hn
    obtain ⟨d1, d2⟩ := a5 n c1
    exact ⟨d1, by simp [d2, c2]⟩
theorem settle_folds {A : NearA} : ∀ (rs : List (List LineA)) (B : NearA), SameV A B → SameV A (rs.foldl (fun B ls => (sortN ls).foldl settleOne B) B) ∧ ∀ n, chg (rs.foldl (fun B ls => (sortN ls).foldl settleOne B) B) n → chg B n ∧ ∀ ls ∈ rs, n ∉ ls.map (·.num)
  | [], B, h => ⟨h, fun n hn => ⟨hn, by simp⟩⟩
  | ls :: rs, B, h => by
    obtain ⟨a1, a2⟩ := settle_fold (sortN ls) B h
    obtain ⟨b1, b2⟩ := settle_folds rs _ a1
    refine ⟨b1, fun n hn => ?_⟩
    obtain ⟨c1, c2⟩ := b2 n hn
    obtain ⟨d1, d2⟩ := a2 n c1
    refine ⟨d1, fun l hl => ?_⟩
    rcases List.mem_cons.mp hl with rfl | hl
    · intro z
      exact d2 ((List.mergeSort_perm _ _).mem_iff.mpr z)
    · exact c2 l hl
theorem settle_view {A : NearA} (h : OkA A) (c : CleanA A) : SameV A (settleA A) ∧ ∀ n, ¬ chg (settleA A) n := by
  obtain ⟨a, b⟩ := settle_folds (A := A) A.rooms A (.refl h c)
  refine ⟨a, fun n hn => ?_⟩
  obtain ⟨⟨ls, hls, L, hL, en, _⟩, d⟩ := b n hn
  exact d ls hls (List.mem_map.mpr ⟨L, hL, en⟩)
theorem settled_look {A : NearA} (h : OkA A) (c : CleanA A) (no : ∀ n, ¬ chg A n) {b : Int} (hb : 0 ≤ b) : lookA A b = cellAt A.sl b := by
  rw [lookA_R]
  unfold lookR
  cases hq : (A.room (b / 4)).find? fun L => decide (L.num = b / 4) with
  | none => rfl
  | some L =>
    obtain ⟨hm, hk⟩ := find_pos hq
    have hc : L.ch = false := by
      cases q : L.ch with
      | false => rfl
      | true => exact absurd ⟨_, List.mem_of_getElem? (roomA_at h (b / 4)).2, L, hm, rfl, q⟩ (no L.num)
    have e := c _ _ (roomA_at h (b / 4)).2 L hm hc
    show (L.w[(b % 4).toNat]?).getD 0 = _
    rw [e, hk]
    exact line4_at A.sl hb rfl
/-- a near memory behind which these words stand -/
structure Right (A : NearA) (ws : List Int) : Prop where
  ok : OkA A
  cl : CleanA A
  len : A.sl.cells.length = ws.length
  v : ∀ b : Int, 0 ≤ b → b < ws.length → lookA A b = (ws[b.toNat]?).getD 0
theorem Right.come {A : NearA} {ws : List Int} (h : Right A ws) {a : Int} (h0 : 0 ≤ a) (h1 : a < ws.length) : Right (comeA A (a / 4)) ws := by
  have k1 : a / 4 * 4 + 4 ≤ A.sl.cells.length := by
    have := h.ok.four
    have := h.len
    omega
  obtain ⟨b1, b2, _⟩ := come_okA h.ok (k := a / 4) (by omega) k1
  obtain ⟨c1, c2⟩ := come_view h.ok h.cl (k := a / 4) (by omega) k1
  exact ⟨b1, c1, b2.trans h.len, fun b hb hb2 => (c2 b hb).trans (h.v b hb hb2)⟩
theorem Right.put {A : NearA} {ws : List Int} (h : Right A ws) {a v : Int} (h0 : 0 ≤ a) (h1 : a < ws.length) : Right (putA A a v) (ws.set a.toNat v) := by
  obtain ⟨b1, b2, b3, b4⟩ := put_view h.ok h.cl (v := v) h0 (by rw [h.len]; exact h1)
  refine ⟨b1, b2, by rw [List.length_set]; exact b3.trans h.len, fun b hb hb2 => ?_⟩
  rw [List.length_set] at hb2
  rw [b4 b hb]
  by_cases q : b = a
  · subst q
    rw [if_pos rfl, List.getElem?_set_self (by omega)]
    rfl
  · rw [if_neg q, List.getElem?_set_ne (by omega)]
    exact h.v b hb hb2
theorem Right.settle {A : NearA} {ws : List Int} (h : Right A ws) : Right (settleA A) ws := by
  obtain ⟨s, _⟩ := settle_view h.ok h.cl
  exact ⟨s.ok, s.cl, s.len.trans h.len, fun b hb hb2 => (s.v b hb).trans (h.v b hb hb2)⟩
theorem Right.cells {A : NearA} {ws : List Int} (h : Right A ws) : (settleA A).sl.cells = ws := by
  obtain ⟨s, no⟩ := settle_view h.ok h.cl
  have hl := s.len.trans h.len
  apply List.ext_getElem?
  intro i
  by_cases q : i < ws.length
  · have e := settled_look s.ok s.cl no (b := (i : Int)) (by omega)
    rw [s.v _ (by omega), h.v _ (by omega) (by omega)] at e
    unfold cellAt at e
    rw [show ((i : Int)).toNat = i by omega, List.getElem?_eq_getElem q, List.getElem?_eq_getElem (by omega)] at e
    rw [List.getElem?_eq_getElem q, List.getElem?_eq_getElem (by omega)]
    exact congrArg some e.symm
  · rw [List.getElem?_eq_none (by omega), List.getElem?_eq_none (by omega)]
/-- at first -/
theorem Right.new (ws : List Int) (m : Nat) (hm : 0 < m) (hm2 : m ≤ 4) (hl : ws.length ≤ 64) (h4 : (ws.length : Int) % 4 = 0) : Right ⟨⟨ws, 0, 0⟩, List.replicate m []⟩ ws := by
  have hr : ∀ i (ls : List LineA), (List.replicate m ([] : List LineA))[i]? = some ls → ls = [] := fun i ls e => List.eq_of_mem_replicate (List.mem_of_getElem? e)
  refine ⟨⟨by show 0 < (List.replicate m _).length; rw [List.length_replicate]; exact hm, by show (List.replicate m _).length ≤ 4; rw [List.length_replicate]; exact hm2, hl, h4, fun i ls e => ?_⟩, fun i ls e => ?_, rfl, fun b hb hb2 => ?_⟩
  · rw [hr i ls e]
    exact ⟨by simp, by simp, by simp, by simp, by simp, by simp⟩
  · rw [hr i ls e]
    intro L hL
    cases hL
  · rw [lookA_R]
    have : (NearA.mk ⟨ws, 0, 0⟩ (List.replicate m [])).room (b / 4) = [] := by
      unfold NearA.room
      cases q : (List.replicate m ([] : List LineA))[(NearA.mk ⟨ws, 0, 0⟩ (List.replicate m [])).pl (b / 4)]? with
      | none => rfl
      | some ls => rw [hr _ ls q]; rfl
    rw [this]
    rfl
end Rw

namespace Rw
open PySem PySem.Spec PyProof.Rows L2 PySem.W
/-! ### new ones -/
theorem new_slow (n : Nat) (S : Store) (v : Val) (ws : List Int) (hv : ∀ S, bltV .list false [v] S = .ok (.t (.lst (ws.map .int))) S) :
    newV tab (callF tab (n + 1)) 0 [v] S = .ok (.r S.length) (S ++ [slowC ⟨ws, 0, 0⟩]) := by
  have e0 : callF tab (n + 1) 0 [.r S.length, v] (S ++ [.ins 0 []]) = .ok (.t .non) (S ++ [slowC ⟨ws, 0, 0⟩]) := by
    rw [callI _ [some (.r S.length), some v] tab_Slow_init rfl rfl, c_Slow_init]
    have h1 := setF_h (tab := tab) (f := 0) (v := .t (.lst (ws.map .int))) (get_len S (.ins 0 [])) rfl (by decide)
    rw [set_last] at h1
    have h2 := setF_h (tab := tab) (f := 1) (v := iV 0) (get_len S (.ins 0 (putN 0 (.t (.lst (ws.map .int))) []))) rfl (show 1 < 1000 by decide)
    rw [set_last] at h2
    have h3 := setF_h (tab := tab) (f := 2) (v := iV 0) (get_len S (.ins 0 (putN 1 (iV 0) (putN 0 (.t (.lst (ws.map .int))) [])))) rfl (show 2 < 1000 by decide)
    rw [set_last] at h3
    simp (decide := true) only [dSs, dS, dE, dEs, List.getElem?_cons_zero, List.getElem?_cons_succ, R.bind_ok, R.st_ok, seq_nx, hv, ofO, h1, h2, h3]
    rfl
  show (callF tab (n + 1) 0 [.r S.length, v] (S ++ [.ins 0 []])).bind _ = _
  rw [e0]
  rfl
theorem comp_cells {f : Val → Store → R (Option Val)} (hf : ∀ v S, f v S = .ok (some (.r S.length)) (S ++ [.lst []])) : ∀ (its acc : List Val) (S : Store), acc.length + its.length ≤ szLine →
    compL none f its acc S = .ok (acc ++ (List.range its.length).map fun i => .r (S.length + i)) (S ++ List.replicate its.length (.lst []))
  | [], acc, S, _ => by rw [compL_nil (okW_none S)]; simp
  | v :: vs, acc, S, h => by
    rw [List.length_cons] at h
    rw [compL_cons (okW_none S), hf]
    show (if acc.length < szLine then compL none f vs (acc ++ [.r S.length]) (S ++ [.lst []]) else .bad) = _
    rw [if_pos (by omega), comp_cells hf vs _ _ (by rw [List.length_append, List.length_singleton]; omega)]
    congr 1
    · rw [List.length_cons, List.range_succ_eq_map, List.map_cons, List.map_map, List.append_assoc]
      refine congrArg (acc ++ ·) ?_
      show Val.r S.length :: _ = Val.r (S.length + 0) :: _
      refine congrArg (Val.r S.length :: ·) ?_
      apply List.map_congr_left
      intro i _
      show Val.r ((S ++ [Cell.lst []]).length + i) = Val.r (S.length + (i + 1))
      rw [List.length_append, List.length_singleton]
      congr 1
      omega
    · rw [List.length_cons, List.replicate_succ, List.append_assoc]
      rfl
theorem comp_new {tb : Tab} {call : Call} {env : Env} {i j m : Nat} {S : Store} (hm : m ≤ 64) (he : env[i]? = some (some (iV m))) :
    dE tb call (.comp true .range (.cons (.var i) .nil) false [j] .nil (.lst true .nil)) env S = .ok (.r (S.length + m)) (S ++ List.replicate m (.lst []) ++ [.lst ((List.range m).map fun i => .r (S.length + i))]) := by
  have ez : szLine = 16777216 := rfl
  have hlr : (rng 0 (m : Int)).length = m := by
    unfold rng
    rw [List.length_map, List.length_range]
    omega
  have h1 : dEs tb call (.cons (.var i) .nil) env S = .ok [iV m] S := by simp [dEs, dE, he]
  show ((dEs tb call (.cons (.var i) .nil) env S).bind fun vs S => (items .range vs S).bind fun its S => (compL its.2 (compF tb call env false [j] .nil (.lst true .nil)) its.1 [] S).bind fun ys S => alloc true ys S) = _
  rw [h1, R.bind_ok, items_rng1 _ _ (rngOk_of (by omega) (by omega)), R.bind_ok]
  show (compL none (compF tb call env false [j] .nil (.lst true .nil)) (rng 0 (m : Int)) [] S).bind _ = _
  rw [comp_cells (f := compF tb call env false [j] .nil (.lst true .nil)) (fun v S => rfl) (rng 0 (m : Int)) [] S (by rw [hlr]; simp; omega), hlr, R.bind_ok, List.nil_append, alloc_r _ _ (by rw [List.length_map, List.length_range]; omega), List.length_append, List.length_replicate]
theorem step_setF {tb : Tab} {call : Call} {ss : ISs} {i f : Nat} {e : IE} {env : Env} {S S1 S2 : Store} {a v : Val} (h : dE tb call e env S = .ok v S1) (h0 : env[i]? = some (some a)) (h2 : setFV tb a f v S1 = some S2) :
    dSs tb call (.cons (.setF (.var i) f e) ss) env S = dSs tb call ss env S2 := by
  have h1 : dS tb call (.setF (.var i) f e) env S = .nx env S2 := by
    simp only [dS, h, dE, h0, R.bind_ok, R.st_ok, ofO, h2]
  show (dS tb call _ env S).seq _ = _
  rw [h1]
  rfl
theorem Hs.pushes {S : Store} {h : Fr} (H : Hs S h) (c : Cell) : ∀ m : Nat, Hs (S ++ List.replicate m c) ((List.range m).map (fun i => (S.length + i, c)) ++ h)
  | 0 => by simpa using H
  | m + 1 => by
    have z := (Hs.pushes H c m).push c
    rw [List.append_assoc, ← List.replicate_succ'] at z
    refine z.perm ?_
    rw [List.length_append, List.length_replicate, List.range_succ, List.map_append, List.append_assoc]
    show (_ :: _).Perm (_ ++ ([(S.length + m, c)] ++ h))
    exact (perm_mid (List.map (fun i => (S.length + i, c)) (List.range m)) [(S.length + m, c)] h).symm
theorem new_near (n : Nat) {S : Store} {s : Nat} {sl : SlowD} {rest : Fr} (H : Hs S ((s, slowC sl) :: rest)) (m : Nat) (hm : m = 1 ∨ m = 2 ∨ m = 4) (hl : sl.cells.length ≤ 64) (h4 : (sl.cells.length : Int) % 4 = 0) :
    ∃ S' D, newV tab (callF tab (n + 1)) 2 [.r s, iV m] S = .ok (.r S.length) S' ∧ NearAt S' S.length s ⟨sl, List.replicate m []⟩ D rest := by
  have ez : szLine = 16777216 := rfl
  have hm2 : m ≤ 4 := by omega
  let R0 : List RoomD := (List.range m).map fun i => ⟨S.length + 1 + i, []⟩
  let D : NearD := ⟨S.length, s, S.length + 1 + m, sl, R0⟩
  obtain ⟨S1, hS1⟩ : ∃ X : Store, X = S ++ [.ins 2 (putN 6 (.r s) [])] := ⟨_, rfl⟩
  obtain ⟨S2, hS2⟩ : ∃ X : Store, X = S1 ++ List.replicate m (.lst []) := ⟨_, rfl⟩
  obtain ⟨S3, hS3⟩ : ∃ X : Store, X = S2 ++ [roomsC D] := ⟨_, rfl⟩
  have l1 : S1.length = S.length + 1 := by rw [hS1]; simp
  have l2 : S2.length = S.length + 1 + m := by rw [hS2]; simp [l1]
  have er : D.rooms.map (fun R => Val.r R.o) = (List.range m).map fun i => .r (S1.length + i) := by
    show ((List.range m).map fun i => (⟨S.length + 1 + i, []⟩ : RoomD)).map (fun R => Val.r R.o) = _
    rw [List.map_map, l1]
    rfl
  have g1 : S1[S.length]? = some (.ins 2 (putN 6 (.r s) [])) := by rw [hS1]; exact get_len S _
  have g2 : S2[S.length]? = some (.ins 2 (putN 6 (.r s) [])) := by
    rw [hS2, List.getElem?_append_left (by omega)]
    exact g1
  have g3 : S3[S.length]? = some (.ins 2 (putN 6 (.r s) [])) := by
    rw [hS3, List.getElem?_append_left (by omega)]
    exact g2
  have e0 : callF tab (n + 1) 10 [.r S.length, .r s, iV m] (S ++ [.ins 2 []]) = .ok (.t .non) (S3.set S.length (nearC D)) := by
    rw [show callF tab (n + 1) 10 [.r S.length, .r s, iV m] (S ++ [.ins 2 []]) = resI (dSs tab (callF tab n) c_Near_init [some (.r S.length), some (.r s), some (iV m), none] (S ++ [.ins 2 []])) from rfl]
    unfold c_Near_init
    have hin : cmpT .NotIn (.int (m : Int)) (.tup [.int 1, .int 2, .int 4]) = some false := by
      rcases hm with rfl | rfl | rfl <;> rfl
    have hif : dB tab (callF tab n) (.ors (.cons (.not (.val (.isi (.var 2) false [.int]))) (.cons (.val (.isi (.var 2) false [.bool])) (.cons (.val (.cmp .NotIn (.var 2) (.tup (.cons (.con (.int 1)) (.cons (.con (.int 2)) (.cons (.con (.int 4)) .nil)))))) .nil)))) [some (.r S.length), some (.r s), some (iV m), none] (S ++ [.ins 2 []]) = .ok false (S ++ [.ins 2 []]) := by
      simp (decide := true) [dB, dOr, dE, dEs, hin]
    rw [stay_ifF hif]
    have h1 := setF_h (tab := tab) (f := 6) (v := .r s) (get_len S (.ins 2 [])) rfl (by decide)
    rw [set_last, ← hS1] at h1
    have cm : dE tab (callF tab n) (.comp true .range (.cons (.var 2) .nil) false [3] .nil (.lst true .nil)) [some (.r S.length), some (.r s), some (iV m), none] S1 = .ok (.r S2.length) S3 := by
      rw [comp_new (m := m) (by omega) rfl, l2, l1, hS3, hS2]
      unfold roomsC
      rw [er, l1]
    have h2 := setF_h (tab := tab) (f := 7) (v := .r S2.length) g3 rfl (show 1 < 1000 by decide)
    rw [step_setF (a := .r S.length) (v := .r s) rfl rfl h1, step_setF (a := .r S.length) cm rfl h2, l2]
    rfl
  refine ⟨S3.set S.length (nearC D), D, ?_, ⟨?_, ?_, rfl, rfl, ?_⟩⟩
  · show (callF tab (n + 1) 10 [.r S.length, .r s, iV m] (S ++ [.ins 2 []])).bind _ = _
    rw [e0]
    rfl
  · have H1 := H.push (.ins 2 (putN 6 (.r s) []))
    rw [← hS1] at H1
    have H2 := H1.pushes (.lst []) m
    rw [← hS2] at H2
    have H3 := H2.push (roomsC D)
    rw [← hS3] at H3
    have H4 := H3.perm (show List.Perm _ ((S.length, Cell.ins 2 (putN 6 (.r s) [])) :: (s, slowC sl) :: (S2.length, roomsC D) :: ((List.range m).map (fun i => (S1.length + i, Cell.lst [])) ++ rest)) from by
      show (((S2.length, roomsC D) :: ((List.range m).map (fun i => (S1.length + i, Cell.lst [])))) ++ ([(S.length, Cell.ins 2 (putN 6 (.r s) [])), (s, slowC sl)] ++ rest)).Perm _
      exact perm_mid ((S2.length, roomsC D) :: ((List.range m).map (fun i => (S1.length + i, Cell.lst [])))) [(S.length, Cell.ins 2 (putN 6 (.r s) [])), (s, slowC sl)] rest)
    have H5 := H4.setk 0 (i := S.length) (c := .ins 2 (putN 6 (.r s) [])) rfl (nearC D)
    have ef : R0.flatMap roomF = (List.range m).map (fun i => (S1.length + i, Cell.lst [])) := by
      show ((List.range m).map fun i => (⟨S.length + 1 + i, []⟩ : RoomD)).flatMap roomF = _
      rw [List.flatMap_map, l1]
      show (List.range m).flatMap (fun i => [(S.length + 1 + i, Cell.lst [])]) = _
      induction List.range m with
      | nil => rfl
      | cons x l ih => rw [List.flatMap_cons, List.map_cons, ih]; rfl
    show Hs _ (((S.length, nearC D) :: (s, slowC sl) :: (S.length + 1 + m, roomsC D) :: R0.flatMap roomF) ++ rest)
    rw [ef, ← l2]
    exact H5
  · refine ⟨?_, ?_, hl, h4, fun i R e => ?_⟩
    · show 0 < R0.length
      simp only [R0, List.length_map, List.length_range]
      omega
    · show R0.length ≤ 4
      simp only [R0, List.length_map, List.length_range]
      omega
    · have e : R0[i]? = some R := e
      have := List.mem_of_getElem? e
      obtain ⟨j, _, rfl⟩ := List.mem_map.mp this
      exact ⟨by simp, by simp, by simp, by simp, by simp, by simp⟩
  · show NearA.mk sl (((List.range m).map fun i => (⟨S.length + 1 + i, []⟩ : RoomD)).map fun R => R.ls.map absL) = _
    rw [List.map_map]
    congr 1
    apply List.ext_getElem?
    intro i
    rw [List.getElem?_map, List.getElem?_replicate]
    by_cases q : i < m
    · rw [List.getElem?_range q, if_pos q]
      rfl
    · rw [List.getElem?_eq_none (by rw [List.length_range]; omega), if_neg q]
      rfl
/-- a piece beside it is changed -/
theorem NearAt.beside {S : Store} {o s w : Nat} {A : NearA} {D : NearD} {c : Cell} {rest : Fr} (N : NearAt S o s A D ((w, c) :: rest)) (c' : Cell) : NearAt (S.set w c') o s A D ((w, c') :: rest) := by
  have z := N.hs.setk (nearF D).length (i := w) (c := c) (by rw [List.getElem?_append_right (Nat.le_refl _), Nat.sub_self]; rfl) c'
  rw [List.set_append_right _ _ (Nat.le_refl _), Nat.sub_self] at z
  exact ⟨z, N.ok, N.o, N.s, N.a⟩
theorem NearAt.get {S : Store} {o s : Nat} {A : NearA} {D : NearD} {rest : Fr} (N : NearAt S o s A D rest) {w : Nat} {c : Cell} (m : (w, c) ∈ rest) : S[w]? = some c := N.hs.get (List.mem_append_right _ m)
/-! ### deeds -/
inductive Dd where
  | get | put | cost | look | settle
def Dd.str : Dd → Str
  | .get => Str.ofString "get"
  | .put => Str.ofString "put"
  | .cost => Str.ofString "cost"
  | .look => Str.ofString "look"
  | .settle => Str.ofString "settle"
def costA (A : NearA) (a : Int) : Int := match A.line (a / 4) with | some _ => 1 | none => match A.room (a / 4) with | [_, y] => if y.ch then 9 else 5 | _ => 5
def doA (A : NearA) (d : Dd) (a v : Int) : NearA := match d with
  | .get => comeA A (a / 4)
  | .put => putA A a v
  | .settle => settleA A
  | _ => A
def toldA (A : NearA) (d : Dd) (a : Int) : T := match d with
  | .get => .int (lookA (comeA A (a / 4)) a)
  | .cost => .int (costA A a)
  | .look => .int (lookA A a)
  | _ => .non
theorem call_did (n : Nat) {S : Store} {o s : Nat} {A : NearA} {D : NearD} {rest : Fr} (N : NearAt S o s A D rest) (d : Dd) (a v : Int) (h0 : 0 ≤ a) (h1 : a < A.sl.cells.length) : ∃ S' D',
    callF tab (n + 6) 27 [.r o, .t (.tup [.str d.str, .int a, .int v])] S = .ok (.t (toldA A d a)) S' ∧ NearAt S' o s (doA A d a v) D' rest := by
  have mm : ∀ f g m, [(6, Val.r D.s), (7, .r D.r)].lookup f = none → ((tab.cl 2).bind fun k => k.meths.lookup f) = some g → arity tab g m = true → methV tab f m (.r o) S = .ok g S := fun f g m q1 q2 q3 => by
    rw [← N.o]
    exact nr_m N.hs q1 q2 q3
  rw [callI _ [some (.r o), some (.t (.tup [.str d.str, .int a, .int v]))] tab__law_did rfl rfl, c__law_did]
  have i0 : atL [T.str d.str, .int a, .int v] 0 = some (.str d.str) := rfl
  have i1 : atL [T.str d.str, .int a, .int v] 1 = some (.int a) := rfl
  have i2 : atL [T.str d.str, .int a, .int v] 2 = some (.int v) := rfl
  cases d with
  | get =>
    obtain ⟨S', D', hc, N'⟩ := call_get n N a h0 h1
    rw [headA_look N.okA] at hc
    have m1 := mm 21 16 2 rfl rfl rfl
    refine ⟨S', D', ?_, N'⟩
    have c1 : cmpT .Eq (.str (Dd.get.str)) (.str (Str.ofString "get")) = some true := rfl
    rw [stay_if true (by simp (decide := true) [dB, dE, i0, c1]), if_pos rfl]
    simp (decide := true) [dSs, dS, dE, dEs, IEs.len, i1, m1, hc, toldA]
  | put =>
    obtain ⟨S', D', hc, N'⟩ := call_put n N a v h0 h1
    have m1 := mm 22 17 3 rfl rfl rfl
    refine ⟨S', D', ?_, N'⟩
    have c1 : cmpT .Eq (.str (Dd.put.str)) (.str (Str.ofString "get")) = some false := rfl
    have c2 : cmpT .Eq (.str (Dd.put.str)) (.str (Str.ofString "put")) = some true := rfl
    rw [stay_ifF (by simp (decide := true) [dB, dE, i0, c1]), stay_if true (by simp (decide := true) [dB, dE, i0, c2]), if_pos rfl]
    simp (decide := true) [dSs, dS, dE, dEs, IEs.len, i1, i2, m1, hc, toldA]
  | cost =>
    have hc : callF tab (n + 5) 18 [.r o, iV a] S = .ok (iV (costA A a)) S := call_cost n N a h0 h1
    have m1 := mm 23 18 2 rfl rfl rfl
    refine ⟨S, D, ?_, N⟩
    have c1 : cmpT .Eq (.str (Dd.cost.str)) (.str (Str.ofString "get")) = some false := rfl
    have c2 : cmpT .Eq (.str (Dd.cost.str)) (.str (Str.ofString "put")) = some false := rfl
    have c3 : cmpT .Eq (.str (Dd.cost.str)) (.str (Str.ofString "cost")) = some true := rfl
    rw [stay_ifF (by simp (decide := true) [dB, dE, i0, c1]), stay_ifF (by simp (decide := true) [dB, dE, i0, c2]), stay_if true (by simp (decide := true) [dB, dE, i0, c3]), if_pos rfl]
    simp (decide := true) [dSs, dS, dE, dEs, IEs.len, i1, m1, hc, toldA]
  | look =>
    have hc := call_look n N a h0 h1
    have m1 := mm 24 19 2 rfl rfl rfl
    refine ⟨S, D, ?_, N⟩
    have c1 : cmpT .Eq (.str (Dd.look.str)) (.str (Str.ofString "get")) = some false := rfl
    have c2 : cmpT .Eq (.str (Dd.look.str)) (.str (Str.ofString "put")) = some false := rfl
    have c3 : cmpT .Eq (.str (Dd.look.str)) (.str (Str.ofString "cost")) = some false := rfl
    have c4 : cmpT .Eq (.str (Dd.look.str)) (.str (Str.ofString "look")) = some true := rfl
    rw [stay_ifF (by simp (decide := true) [dB, dE, i0, c1]), stay_ifF (by simp (decide := true) [dB, dE, i0, c2]), stay_ifF (by simp (decide := true) [dB, dE, i0, c3]), stay_if true (by simp (decide := true) [dB, dE, i0, c4]), if_pos rfl]
    simp (decide := true) [dSs, dS, dE, dEs, IEs.len, i1, m1, hc, toldA]
  | settle =>
    obtain ⟨S', D', hc, N'⟩ := call_settle n N
    have m1 := mm 25 20 1 rfl rfl rfl
    refine ⟨S', D', ?_, N'⟩
    have c1 : cmpT .Eq (.str (Dd.settle.str)) (.str (Str.ofString "get")) = some false := rfl
    have c2 : cmpT .Eq (.str (Dd.settle.str)) (.str (Str.ofString "put")) = some false := rfl
    have c3 : cmpT .Eq (.str (Dd.settle.str)) (.str (Str.ofString "cost")) = some false := rfl
    have c4 : cmpT .Eq (.str (Dd.settle.str)) (.str (Str.ofString "look")) = some false := rfl
    rw [stay_ifF (by simp (decide := true) [dB, dE, i0, c1]), stay_ifF (by simp (decide := true) [dB, dE, i0, c2]), stay_ifF (by simp (decide := true) [dB, dE, i0, c3]), stay_ifF (by simp (decide := true) [dB, dE, i0, c4])]
    simp (decide := true) [dSs, dS, dE, dEs, IEs.len, m1, hc, toldA]
theorem doA_right {A : NearA} {ws : List Int} (h : Right A ws) (d : Dd) {a v : Int} (h0 : 0 ≤ a) (h1 : a < ws.length) : Right (doA A d a v) (match d with | .put => ws.set a.toNat v | _ => ws) := by
  cases d with
  | get => exact h.come h0 h1
  | put => exact h.put h0 h1
  | cost => exact h
  | look => exact h
  | settle => exact h.settle
theorem get_right {A : NearA} {ws : List Int} (h : Right A ws) {a : Int} (h0 : 0 ≤ a) (h1 : a < ws.length) : lookA (comeA A (a / 4)) a = (ws[a.toNat]?).getD 0 := (h.come h0 h1).v a h0 h1
end Rw

namespace Rw
open PySem PySem.Spec PyProof.Rows L2 PySem.W
/-! ### the cells of a script -/
def cell0 (ns : List Int) (k : Int) : Int := if ns = [] then ((7919 * k) + 11) else (((((7919 * k) + 11) + ((ns[(k % (ns.length : Int)).toNat]?).getD 0 * 48271)) + (96810 * k)) + ((k / (ns.length : Int)) * 7919))
def mixC (c k : Int) : Int := ((c % 2147483647) * (c % 2147483647) % 2147483629 * ((c % 2147483647) * (c % 2147483647) % 2147483629) + 69621 * ((c % 2147483647) * (c % 2147483647) % 2147483629) + k) % 2147483587
def cell (ns : List Int) (k : Int) : Int := mixC (cell0 ns k) k
theorem cell_bd (ns : List Int) (k : Int) : 0 ≤ cell ns k ∧ cell ns k < 2147483587 := by
  unfold cell mixC
  exact ⟨Int.emod_nonneg _ (by decide), Int.emod_lt_of_pos _ (by decide)⟩
theorem call_cell (n : Nat) (ns : List Int) (k : Int) (S : Store) (hl : ns.length ≤ 63) (hk : 0 ≤ k) : callF tab (n + 1) 22 [.t (.scr ns), .t (.int k)] S = .ok (.t (.int (cell ns k))) S := by
  have h1 := mod_bd (cell0 ns k) (j := 2147483647) (by decide)
  have h2 := mod_bd (cell0 ns k % 2147483647 * (cell0 ns k % 2147483647)) (j := 2147483629) (by decide)
  have m1 : bigI (cell0 ns k % 2147483647) = true := bigI_of (by omega) (by omega)
  have m2 : bigI (cell0 ns k % 2147483647 * (cell0 ns k % 2147483647) % 2147483629) = true := bigI_of (by omega) (by omega)
  rw [show ([.t (.scr ns), .t (.int k)] : List Val) = [T.scr ns, T.int k].map .t from rfl, callP _ tab__law_cell rfl rfl rfl]
  by_cases hn : ns = []
  · have e : cell0 [] k = ((7919 * k) + 11) := if_pos rfl
    subst hn
    rw [e] at m1 m2
    simp (decide := true) [f__law_cell, c__law_cell, dSs, dS, dE, dEs, dB, binI_mulL, binI_mulR, binI_mod, binI_div, m1, m2, cell, mixC, e]
  · have hp : 0 < ns.length := List.length_pos_iff.mpr hn
    have hr := mod_bd k (j := ns.length) (by omega)
    have e : cell0 ns k = (((((7919 * k) + 11) + ((ns[(k % (ns.length : Int)).toNat]?).getD 0 * 48271)) + (96810 * k)) + ((k / (ns.length : Int)) * 7919)) := if_neg hn
    have hg : atL ns (k % ns.length) = some ((ns[(k % ns.length).toNat]?).getD 0) := by
      rw [atL_nat hr.1 (by omega)]
      have : (k % ns.length).toNat < ns.length := by omega
      rw [List.getElem?_eq_getElem this]
      rfl
    rw [e] at m1 m2
    have p1 : (0 : Int) < ns.length := by omega
    have p2 : (ns.length : Int) < 1073741824 := by omega
    simp (decide := true) [f__law_cell, c__law_cell, dSs, dS, dE, dEs, dB, binI_mulL, binI_mulR, binI_mod p1, binI_div p1 p2, binI_mod, hn, m1, m2, cell, mixC, e, hg]

/-! ### drawn -/
theorem pickI (l : List Int) {i : Int} (h0 : 0 ≤ i) (h1 : i < l.length) : ∃ v ∈ l, atL (l.map T.int) i = some (.int v) := by
  refine ⟨l[i.toNat]'(by omega), List.getElem_mem _, ?_⟩
  rw [atL_nat h0 (by rw [List.length_map]; exact h1), List.getElem?_map, List.getElem?_eq_getElem (by omega)]
  rfl
theorem call_word (n : Nat) (c : Int) (h0 : 0 ≤ c) (S : Store) : ∃ v, callF tab (n + 1) 23 [iV c] S = .ok (iV v) S := by
  obtain ⟨v, _, hv⟩ := pickI [c % 65536, 65535, 0] (i := c / 65536 % 9 / 4) (by omega) (by show _ < (3 : Int); omega)
  refine ⟨v, ?_⟩
  rw [show ([iV c] : List Val) = [T.int c].map .t from rfl, callQ _ [some (iV c)] tab__law_word rfl rfl, c__law_word]
  have hv : atL [T.int (c % 65536), T.int 65535, T.int 0] (c / 65536 % 9 / 4) = some (.int v) := hv
  simp (decide := true) [dSs, dS, dE, dEs, binI_mod, binI_div, hv]
theorem call_words (n : Nat) (ns : List Int) (k many : Int) (hl : ns.length ≤ 63) (hk : 0 ≤ k) (h0 : 0 ≤ many) (h1 : many ≤ 64) (S : Store) :
    ∃ ws : List Int, (ws.length : Int) = many ∧ callF tab (n + 2) 24 [.t (.scr ns), iV k, iV many] S = .ok (.r S.length) (S ++ [.lst (ws.map iV)]) := by
  have ez : szLine = 16777216 := rfl
  have hw : ∀ j : Int, ∃ v, 0 ≤ j → callF tab (n + 1) 23 [iV (cell ns (k + j))] S = .ok (iV v) S := fun j => by
    obtain ⟨v, hv⟩ := call_word n (cell ns (k + j)) (cell_bd ns _).1 S
    exact ⟨v, fun _ => hv⟩
  let g : Int → Int := fun j => (hw j).choose
  have hg : ∀ j, 0 ≤ j → callF tab (n + 1) 23 [iV (cell ns (k + j))] S = .ok (iV (g j)) S := fun j => (hw j).choose_spec
  obtain ⟨js, hjl, hr, hj0⟩ : ∃ js : List Int, js.length = many.toNat ∧ rng 0 many = js.map iV ∧ ∀ j ∈ js, 0 ≤ j := by
    refine ⟨(List.range many.toNat).map fun i => (0 : Int) + Int.ofNat i, by simp, ?_, fun j hj => ?_⟩
    · unfold rng
      rw [List.map_map, show many - 0 = many by omega]
      rfl
    · obtain ⟨i, _, rfl⟩ := List.mem_map.mp hj
      show 0 ≤ (0 : Int) + (i : Int)
      omega
  refine ⟨js.map g, by rw [List.length_map, hjl]; omega, ?_⟩
  rw [callI _ [some (.t (.scr ns)), some (iV k), some (iV many), none] tab__law_words rfl rfl, c__law_words]
  rw [step_ret (.r S.length) (S1 := S ++ [.lst ((js.map g).map iV)]) (by
    rw [comp_V (w := none) js iV (fun j => iV (g j)) (fun _ => true) (by omega) (by
      rw [← hr]
      show R.bind (.ok [iV many] S) _ = _
      exact items_rng1 _ _ (rngOk_of (by omega) (by omega))) (okW_none S) (fun j hj => ?_)]
    · rw [List.filter_eq_self.mpr (fun _ _ => rfl), alloc_r _ _ (by rw [List.length_map]; omega), List.map_map]
      rfl
    · have j0 := hj0 j hj
      have c1 := call_cell n ns (k + j) S hl (by omega)
      have c2 := hg j j0
      exact ⟨[some (.t (.scr ns)), some (iV k), some (iV many), some (iV j)], rfl, rfl, fun _ => by
        simp (decide := true) [dE, dEs, c1, c2]⟩)]
  rfl
theorem call_address (n : Nat) (ns : List Int) (k many : Int) (hl : ns.length ≤ 63) (hk : 0 ≤ k) (h0 : 0 < many) (S : Store) :
    ∃ a, 0 ≤ a ∧ a < many ∧ callF tab (n + 2) 25 [.t (.scr ns), iV k, iV many] S = .ok (iV a) S := by
  have cb := cell_bd ns k
  have c1 := call_cell n ns k [] hl hk
  have m1 := mod_bd (cell ns k / 6) (j := 4) (by decide)
  have c2 := call_cell n ns (3 + cell ns k / 6 % 4) [] hl (by omega)
  have c3 := call_cell n ns 7 [] hl (by decide)
  have c4 := call_cell n ns 3 [] hl (by decide)
  have m3 := mod_bd (cell ns 7) (j := 5) (by decide)
  obtain ⟨st, hst, hs⟩ := pickI [4, 8, 16, 1, 2] (i := cell ns 7 % 5) m3.1 (by show _ < (5 : Int); omega)
  have hs : atL [T.int 4, T.int 8, T.int 16, T.int 1, T.int 2] (cell ns 7 % 5) = some (.int st) := hs
  have bst : bigI st = true := by
    refine bigI_of ?_ ?_ <;> (simp at hst; omega)
  have e1 := mod_bd (cell ns (3 + cell ns k / 6 % 4)) h0
  have e2 := mod_bd (cell ns 3 + st * (cell ns k / 24 % 5)) h0
  have e3 := mod_bd (cell ns k / 24) h0
  have m6 := mod_bd (cell ns k) (j := 6) (by decide)
  generalize hsp : cell ns (3 + cell ns k / 6 % 4) % many = sp at *
  generalize hfa : (cell ns 3 + st * (cell ns k / 24 % 5)) % many = fa at *
  generalize hla : cell ns k / 24 % many = la at *
  obtain ⟨a, ha, hp⟩ := pickI [sp, sp, fa, fa, fa, la] (i := cell ns k % 6) m6.1 (by show _ < (6 : Int); omega)
  have hp : atL [T.int sp, T.int sp, T.int fa, T.int fa, T.int fa, T.int la] (cell ns k % 6) = some (.int a) := hp
  refine ⟨a, ?_, ?_, ?_⟩
  · simp at ha
    omega
  · simp at ha
    omega
  rw [show ([.t (.scr ns), iV k, iV many] : List Val) = [T.scr ns, .int k, .int many].map .t from rfl, callQ _ [some (.t (.scr ns)), some (iV k), some (iV many), none, none, none, none] tab__law_address rfl rfl, c__law_address]
  rw [stay_set (iV (cell ns k)) (by simp (decide := true) [dE, dEs, c1])]
  simp only [List.set_cons_succ, List.set_cons_zero]
  rw [stay_set (iV sp) (by simp (decide := true) [dE, dEs, binI_mod, binI_div, c2, binI_mod h0, hsp])]
  simp only [List.set_cons_succ, List.set_cons_zero]
  rw [stay_set (iV st) (by simp (decide := true) [dE, dEs, binI_mod, c3, hs])]
  simp only [List.set_cons_succ, List.set_cons_zero]
  rw [stay_set (iV fa) (by simp (decide := true) [dE, dEs, binI_mod, binI_div, c4, binI_mulL bst, binI_mod h0, hfa])]
  simp only [List.set_cons_succ, List.set_cons_zero]
  rw [step_ret (iV a) (S1 := []) (by simp (decide := true) [dE, dEs, binI_mod, binI_div, binI_mod h0, hla, hp])]
  rfl
def ddOf (j : Nat) : Dd := match j with
  | 0 => .get | 1 => .get | 2 => .get | 3 => .put | 4 => .put | 5 => .put | 6 => .put | 7 => .cost | 8 => .look | 9 => .look | _ => .settle
theorem call_deed (n : Nat) (ns : List Int) (k many : Int) (hl : ns.length ≤ 63) (hk : 0 ≤ k) (h0 : 0 < many) (S : Store) :
    ∃ (d : Dd) (a v : Int), 0 ≤ a ∧ a < many ∧ callF tab (n + 3) 26 [.t (.scr ns), iV k, iV many] S = .ok (.t (.tup [.str d.str, .int a, .int v])) S := by
  have cb := cell_bd ns (40 + k)
  have c1 := call_cell (n + 1) ns (40 + k) [] hl (by omega)
  obtain ⟨a, a0, a1, ha⟩ := call_address n ns (100 + k) many hl (by omega) h0 []
  have m7 := mod_bd (cell ns (40 + k) / 7) (j := 2) (by decide)
  have m11 := mod_bd (cell ns (40 + k)) (j := 11) (by decide)
  obtain ⟨v, _, hv⟩ := pickI [cell ns (40 + k) / 11 % 65536, cell ns (40 + k) / 11 % 3] (i := cell ns (40 + k) / 7 % 2) m7.1 (by show _ < (2 : Int); omega)
  have hv : atL [T.int (cell ns (40 + k) / 11 % 65536), T.int (cell ns (40 + k) / 11 % 3)] (cell ns (40 + k) / 7 % 2) = some (.int v) := hv
  have hd : atL [T.str (Str.ofString "get"), T.str (Str.ofString "get"), T.str (Str.ofString "get"), T.str (Str.ofString "put"), T.str (Str.ofString "put"), T.str (Str.ofString "put"), T.str (Str.ofString "put"), T.str (Str.ofString "cost"), T.str (Str.ofString "look"), T.str (Str.ofString "look"), T.str (Str.ofString "settle")] (cell ns (40 + k) % 11) = some (.str (ddOf (cell ns (40 + k) % 11).toNat).str) := by
    rw [atL_nat m11.1 (by show _ < (11 : Int); omega)]
    have : (cell ns (40 + k) % 11).toNat < 11 := by omega
    generalize (cell ns (40 + k) % 11).toNat = j at *
    match j, this with
    | 0, _ => rfl | 1, _ => rfl | 2, _ => rfl | 3, _ => rfl | 4, _ => rfl | 5, _ => rfl | 6, _ => rfl | 7, _ => rfl | 8, _ => rfl | 9, _ => rfl | 10, _ => rfl
  refine ⟨ddOf (cell ns (40 + k) % 11).toNat, a, v, a0, a1, ?_⟩
  rw [show ([.t (.scr ns), iV k, iV many] : List Val) = [T.scr ns, .int k, .int many].map .t from rfl, callQ _ [some (.t (.scr ns)), some (iV k), some (iV many), none, none, none] tab__law_deed_by rfl rfl, c__law_deed_by]
  rw [stay_set (iV (cell ns (40 + k))) (by simp (decide := true) [dE, dEs, c1])]
  simp only [List.set_cons_succ, List.set_cons_zero]
  rw [stay_set (iV v) (by simp (decide := true) [dE, dEs, binI_mod, binI_div, hv])]
  simp only [List.set_cons_succ, List.set_cons_zero]
  rw [stay_set (.t (.lst [T.str (Str.ofString "get"), T.str (Str.ofString "get"), T.str (Str.ofString "get"), T.str (Str.ofString "put"), T.str (Str.ofString "put"), T.str (Str.ofString "put"), T.str (Str.ofString "put"), T.str (Str.ofString "cost"), T.str (Str.ofString "look"), T.str (Str.ofString "look"), T.str (Str.ofString "settle")])) (by simp (decide := true) [dE, dEs])]
  simp only [List.set_cons_succ, List.set_cons_zero]
  rw [step_ret (.t (.tup [.str (ddOf (cell ns (40 + k) % 11).toNat).str, .int a, .int v])) (S1 := []) (by simp (decide := true) [dE, dEs, binI_mod, hd, ha])]
  rfl
theorem call_whole2 (n : Nat) (a b : Int) (S : Store) : callF tab (n + 1) 28 [iV a, iV b] S = .ok (.t (.bl (decide (a = b)))) S := by
  rw [show ([iV a, iV b] : List Val) = [T.int a, .int b].map .t from rfl, callQ _ [some (iV a), some (iV b)] tab__law_whole rfl rfl, c__law_whole]
  rw [step_ret (.t (.bl (decide (a = b)))) (S1 := []) (by simp (decide := true) [dE, dEs, dAndE])]
  rfl
end Rw

namespace Rw
open PySem PySem.Spec PyProof.Rows L2 PySem.W
/-! ### in turns -/
theorem compL_inv {f : Val → Store → R (Option Val)} (P : Nat → Store → Prop) (g : Nat → Val) : ∀ (its : List Val) (j : Nat) (acc : List Val) (S : Store), P j S → acc.length + its.length ≤ szLine →
    (∀ i v S, its[i]? = some v → P (j + i) S → ∃ S', f v S = .ok (some (g (j + i))) S' ∧ P (j + i + 1) S') →
    ∃ S', compL none f its acc S = .ok (acc ++ (List.range its.length).map fun i => g (j + i)) S' ∧ P (j + its.length) S'
  | [], j, acc, S, h, _, _ => ⟨S, by rw [compL_nil (okW_none S)]; simp, h⟩
  | v :: vs, j, acc, S, h, hz, hs => by
    rw [List.length_cons] at hz
    obtain ⟨S1, f1, p1⟩ := hs 0 v S rfl h
    obtain ⟨S2, f2, p2⟩ := compL_inv P g vs (j + 1) (acc ++ [g j]) S1 p1 (by rw [List.length_append, List.length_singleton]; omega) fun i w S hw p => by
      have z := hs (i + 1) w S (by simpa using hw) (by rw [show j + (i + 1) = j + 1 + i by omega]; exact p)
      rw [show j + (i + 1) = j + 1 + i by omega] at z
      exact z
    refine ⟨S2, ?_, by rw [List.length_cons, show j + (vs.length + 1) = j + 1 + vs.length by omega]; exact p2⟩
    rw [compL_cons (okW_none S), f1]
    show (if acc.length < szLine then compL none f vs (acc ++ [g j]) S1 else .bad) = _
    rw [if_pos (by omega), f2]
    congr 1
    rw [List.length_cons, List.range_succ_eq_map, List.map_cons, List.map_map, List.append_assoc]
    refine congrArg (acc ++ ·) ?_
    show g j :: _ = g (j + 0) :: _
    refine congrArg (g j :: ·) ?_
    apply List.map_congr_left
    intro i _
    show g (j + 1 + i) = g (j + (i + 1))
    congr 1
    omega
theorem comp_turns {tb : Tab} {call : Call} {src : IEs} {tg : List Nat} {elt : IE} {env : Env} {S : Store} {n : Int} (P : Nat → Store → Prop) (g : Nat → T) (hn : rngOk n = true) (h0 : 0 ≤ n) (hz : n ≤ 1000000) (hs : dEs tb call src env S = .ok [iV n] S) (h : P 0 S)
    (hf : ∀ (i : Nat) S, (i : Int) < n → P i S → ∃ env2 S', target false tg (iV i) (wipeE env tg) S = some env2 ∧ dE tb call elt env2 S = .ok (.t (g i)) S' ∧ P (i + 1) S') :
    ∃ S', dE tb call (.comp false .range src false tg .nil elt) env S = .ok (.t (.lst ((List.range n.toNat).map g))) S' ∧ P n.toNat S' := by
  have ez : szLine = 16777216 := rfl
  have hlr : (rng 0 n).length = n.toNat := by
    unfold rng
    rw [List.length_map, List.length_range, show n - 0 = n by omega]
  obtain ⟨S', c1, p1⟩ := compL_inv (f := compF tb call env false tg .nil elt) P (fun i => .t (g i)) (rng 0 n) 0 [] S h (by rw [hlr]; simp; omega) fun i v S hv p => by
    have hi : i < n.toNat := by rw [← hlr]; exact (List.getElem?_eq_some_iff.mp hv).1
    have ev : v = iV i := by
      unfold rng at hv
      rw [List.getElem?_map, List.getElem?_range (by omega)] at hv
      have hv := Option.some.inj hv
      rw [← hv]
      show Val.t (.int (0 + (i : Int))) = _
      rw [Int.zero_add]
    rw [Nat.zero_add] at p ⊢
    obtain ⟨env2, S', h1, h2, h3⟩ := hf i S (by omega) p
    refine ⟨S', ?_, h3⟩
    rw [ev]
    show (match target false tg (iV i) (wipeE env tg) S with
      | some env2 => (dAnd tb call .nil env2 S).bind fun k S => if k then (dE tb call elt env2 S).bind fun y S => .ok (some y) S else .ok none S
      | none => .bad) = _
    rw [h1]
    show (dE tb call elt env2 S).bind _ = _
    rw [h2]
    rfl
  rw [Nat.zero_add, hlr] at p1
  refine ⟨S', ?_, p1⟩
  show ((dEs tb call src env S).bind fun vs S => (items .range vs S).bind fun its S => (compL its.2 (compF tb call env false tg .nil elt) its.1 [] S).bind fun ys S => alloc false ys S) = _
  rw [hs, R.bind_ok, items_rng1 _ _ hn, R.bind_ok]
  show (compL none (compF tb call env false tg .nil elt) (rng 0 n) [] S).bind _ = _
  rw [c1, R.bind_ok, hlr, List.nil_append]
  have e : ((List.range n.toNat).map fun i => Val.t (g (0 + i))) = ((List.range n.toNat).map g).map .t := by
    rw [List.map_map]
    apply List.map_congr_left
    intro i _
    show Val.t (g (0 + i)) = Val.t (g i)
    rw [Nat.zero_add]
  rw [e, alloc_t _ _ (by rw [List.length_map, List.length_range]; omega)]
theorem dE_cmpE {tb : Tab} {call : Call} {op : CmpOp} {a b : IE} {env : Env} {S S1 S2 : Store} {x y : Val} (h1 : dE tb call a env S = .ok x S1) (h2 : dE tb call b env S1 = .ok y S2) : dE tb call (.cmp op a b) env S = cmpV op x y S2 := by
  show (dE tb call a env S).bind (fun x S => (dE tb call b env S).bind fun y S => cmpV op x y S) = _
  rw [h1]
  show (dE tb call b env S1).bind _ = _
  rw [h2]
  rfl
theorem dE_ands2 {tb : Tab} {call : Call} {a b : IE} {env : Env} {S S1 S2 : Store} {v : Val} (h1 : dE tb call a env S = .ok (.t (.bl true)) S1) (h2 : dE tb call b env S1 = .ok v S2) : dE tb call (.ands (.cons a (.cons b .nil))) env S = .ok v S2 := by
  show (dE tb call a env S).bind (fun v S => (truV v S).bind fun k S => if k then dAndE tb call (.cons b .nil) env S else .ok v S) = _
  rw [h1]
  exact h2
theorem eq_ints (ws : List Int) : eqT (.lst (ws.map .int)) (.lst (ws.map .int)) = some true := by
  have hp : (T.lst (ws.map .int)).py = some (.list (ws.map .int)) := by
    show (T.pys (ws.map .int)).map _ = _
    rw [pys_ints]
    rfl
  exact eqT_refl hp (by
    show PyData.depthAll (ws.map .int) + 1 ≤ 60
    rw [depth_ints]
    omega)
theorem peek_ints {S : Store} {w : Nat} {ws : List Int} (h : S[w]? = some (.lst (ws.map iV))) : peek S (.r w) = some (.lst (ws.map .int)) := by
  show (match S[w]? with
    | some (.lst vs) => (allT vs).map T.lst
    | _ => none) = _
  rw [h]
  show (allT (ws.map iV)).map T.lst = _
  rw [show ws.map iV = (ws.map T.int).map .t by rw [List.map_map]; rfl, allT_map]
  rfl
theorem cmp_ints {S : Store} {w : Nat} {ws : List Int} (h : S[w]? = some (.lst (ws.map iV))) : cmpV .Eq (.t (.lst (ws.map .int))) (.r w) S = .ok (.t (.bl true)) S := by
  show cmpW .Eq (.t (.lst (ws.map .int))) (.r w) S = _
  unfold cmpW
  rw [peek_ints h]
  show ofT ((eqT (.lst (ws.map .int)) (.lst (ws.map .int))).map .bl) S = _
  rw [eq_ints]
  rfl
theorem sub_ints {S : Store} {w : Nat} {ws : List Int} (h : S[w]? = some (.lst (ws.map iV))) {a : Int} (h0 : 0 ≤ a) (h1 : a < ws.length) : subV (.r w) (iV a) S = .ok (iV ((ws[a.toNat]?).getD 0)) S := by
  refine sub_h h ?_
  rw [atL_nat h0 (by rw [List.length_map]; exact h1), List.getElem?_map, List.getElem?_eq_getElem (by omega)]
  rfl
theorem blt_listC {S : Store} {w : Nat} {ws : List Int} (h : S[w]? = some (.lst (ws.map iV))) (hz : ws.length ≤ 64) : bltV .list false [.r w] S = .ok (.t (.lst (ws.map .int))) S := by
  have ez : szLine = 16777216 := rfl
  have e : listV S (.r w) = some ((ws.map T.int).map .t) := by rw [listV_r h, List.map_map]; rfl
  show (match Val.r w, listV S (.r w) with
    | .t (.tup xs), _ => alloc false (xs.map .t) S
    | _, some vs => alloc false vs S
    | _, none => .bad) = _
  rw [e]
  exact alloc_t _ _ (by rw [List.length_map]; omega)
end Rw

namespace Rw
open PySem PySem.Spec PyProof.Rows L2 PySem.W
/-! ### counted, settled: plain -/
def unch (L : LineA) : LineA := { L with ch := false }
def cnt (ls : List LineA) : Int := (ls.filter (·.ch)).length
def tot (A : NearA) : Int := (A.rooms.map cnt).sum
def chgL (A : NearA) : List Int := (A.rooms.flatten.filter (·.ch)).map (·.num)
theorem chgL_iff (A : NearA) (n : Int) : n ∈ chgL A ↔ chg A n := by
  unfold chgL chg
  constructor
  · intro h
    obtain ⟨L, hL, e⟩ := List.mem_map.mp h
    obtain ⟨h1, h2⟩ := List.mem_filter.mp hL
    obtain ⟨ls, hls, hm⟩ := List.mem_flatten.mp h1
    exact ⟨ls, hls, L, hm, e, h2⟩
  · rintro ⟨ls, hls, L, hm, e, h2⟩
    exact List.mem_map.mpr ⟨L, List.mem_filter.mpr ⟨List.mem_flatten.mpr ⟨ls, hls, hm⟩, h2⟩, e⟩
theorem chgL_len (A : NearA) : ((chgL A).length : Int) = tot A := by
  unfold chgL tot
  rw [List.length_map]
  induction A.rooms with
  | nil => rfl
  | cons ls l ih =>
    rw [List.flatten_cons, List.filter_append, List.length_append, List.map_cons, List.sum_cons, ← ih]
    unfold cnt
    omega
theorem sum_set : ∀ (l : List Int) (i : Nat) (x y : Int), l[i]? = some y → (l.set i x).sum + y = l.sum + x
  | [], i, x, y, h => by simp at h
  | z :: l, 0, x, y, h => by
    simp at h
    subst h
    rw [List.set_cons_zero, List.sum_cons, List.sum_cons]
    omega
  | z :: l, i + 1, x, y, h => by
    have := sum_set l i x y (by simpa using h)
    rw [List.set_cons_succ, List.sum_cons, List.sum_cons]
    omega
theorem cnt_clean {ls : List LineA} {L : LineA} (few : ls.length ≤ 2) (nd : (ls.map (·.num)).Nodup) (h : L ∈ ls) : cnt (ls.map (clean L.num)) + (if L.ch then 1 else 0) = cnt ls := by
  unfold cnt
  match ls, few with
  | [], _ => cases h
  | [x], _ =>
    rcases List.mem_singleton.mp h with rfl
    cases hc : L.ch <;> simp [clean, hc]
  | [x, y], _ =>
    have ne : x.num ≠ y.num := by
      intro e
      simp [e] at nd
    rcases List.mem_cons.mp h with rfl | h
    · cases hc : L.ch <;> cases hd : y.ch <;> simp [clean, hc, hd, ne.symm]
    · rcases List.mem_singleton.mp h with rfl
      cases hc : L.ch <;> cases hd : x.ch <;> simp [clean, hc, hd, ne]
def shp (A : NearA) : List (List (Int × List Int)) := A.rooms.map fun ls => ls.map fun L => (L.num, L.w)
/-- what a settling keeps, and counts -/
structure Stl (A B : NearA) : Prop where
  s : SameV A B
  told : B.sl.told = A.sl.told
  put : B.sl.put + tot B = A.sl.put + tot A
  shp : shp B = shp A
theorem wb_told {sl : SlowD} {c : Bool} {k : Int} {ws : List Int} : (wbD sl c k ws).told = sl.told ∧ (wbD sl c k ws).put = sl.put + (if c then 1 else 0) := by
  unfold wbD
  cases c
  · exact ⟨rfl, by simp⟩
  · exact ⟨rfl, rfl⟩
theorem stl_one {A B : NearA} (h : Stl A B) (k : Int) : Stl A (settleOne B k) := by
  obtain ⟨a1, a2, a3, a4, a5⟩ := settleOne_view h.s.ok h.s.cl k
  refine ⟨⟨a1, a2, a3.trans h.s.len, fun b hb => (a4 b hb).trans (h.s.v b hb), fun n hn => h.s.c n (a5 n hn).1⟩, ?_, ?_, ?_⟩
  · rw [← h.told]
    unfold settleOne
    cases hL : B.line k with
    | none => rfl
    | some L => exact wb_told.1
  · rw [← h.put]
    unfold settleOne
    cases hL : B.line k with
    | none => rfl
    | some L =>
      obtain ⟨hm, hk⟩ := find_pos hL
      have rok := roomA_ok h.s.ok k
      have e := cnt_clean rok.few rok.nd hm
      rw [hk] at e
      show (wbD B.sl L.ch L.num L.w).put + ((B.rooms.set (B.pl k) ((B.room k).map (clean k))).map cnt).sum = B.sl.put + (B.rooms.map cnt).sum
      rw [List.map_set, wb_told.2]
      have z := sum_set (B.rooms.map cnt) (B.pl k) (cnt ((B.room k).map (clean k))) (cnt (B.room k)) (by rw [List.getElem?_map, (roomA_at h.s.ok k).2]; rfl)
      omega
  · rw [← h.shp]
    unfold settleOne
    cases hL : B.line k with
    | none => rfl
    | some L =>
      refine set_self (fun ls : List LineA => ls.map fun L => (L.num, L.w)) B.rooms (B.pl k) _ (B.room k) (roomA_at h.s.ok k).2 ?_
      show ((B.room k).map (clean k)).map _ = _
      rw [List.map_map]
      apply List.map_congr_left
      intro x _
      show ((clean k x).num, (clean k x).w) = _
      rw [clean_num, clean_w]
theorem stl_fold {A : NearA} : ∀ (ks : List Int) (B : NearA), Stl A B → Stl A (ks.foldl settleOne B)
  | [], B, h => h
  | k :: ks, B, h => stl_fold ks _ (stl_one h k)
theorem stl_folds {A : NearA} : ∀ (rs : List (List LineA)) (B : NearA), Stl A B → Stl A (rs.foldl (fun B ls => (sortN ls).foldl settleOne B) B)
  | [], B, h => h
  | ls :: rs, B, h => stl_folds rs _ (stl_fold (sortN ls) B h)
theorem no_chg_un {A : NearA} (no : ∀ n, ¬ chg A n) : A.rooms.map (fun ls => ls.map unch) = A.rooms := by
  refine (List.map_congr_left fun ls hls => ?_).trans (List.map_id _)
  refine (List.map_congr_left fun L hL => ?_).trans (List.map_id _)
  have hc : L.ch = false := by
    cases q : L.ch with
    | false => rfl
    | true => exact absurd ⟨ls, hls, L, hL, rfl, q⟩ (no L.num)
  show ({ L with ch := false } : LineA) = L
  rw [← hc]
theorem settle_all {A : NearA} (h : OkA A) (c : CleanA A) : (settleA A).rooms = A.rooms.map (fun ls => ls.map unch) ∧ (settleA A).sl.put = A.sl.put + tot A ∧ (settleA A).sl.told = A.sl.told ∧ tot (settleA A) = 0 := by
  have st := stl_folds (A := A) A.rooms A ⟨.refl h c, rfl, rfl, rfl⟩
  obtain ⟨_, no⟩ := settle_view h c
  have st : Stl A (settleA A) := st
  have e0 : tot (settleA A) = 0 := by
    rw [← chgL_len]
    have : chgL (settleA A) = [] := by
      rw [List.eq_nil_iff_forall_not_mem]
      intro n hn
      exact no n ((chgL_iff _ n).mp hn)
    rw [this]
    rfl
  refine ⟨?_, by have := st.put; omega, st.told, e0⟩
  rw [← no_chg_un no]
  have g : ∀ B : NearA, B.rooms.map (fun ls => ls.map unch) = (shp B).map fun l => l.map fun p => (⟨p.1, p.2, false⟩ : LineA) := fun B => by
    unfold shp
    rw [List.map_map]
    apply List.map_congr_left
    intro ls _
    show _ = (ls.map fun L => (L.num, L.w)).map _
    rw [List.map_map]
    rfl
  rw [g, g, st.shp]
/-! the slow memory's words, while a line is held -/
theorem come_line4 {sl : SlowD} {m i : Nat} {ls : List LineA} {k : Int} (h : RoomOk sl.cells.length m i ls) (h0 : 0 ≤ k) : ∀ L ∈ (comeR sl ls k).2, line4 (comeR sl ls k).1 L.num = line4 sl L.num := by
  unfold comeR
  cases hq : ls.find? fun L => decide (L.num = k) with
  | some L => exact fun _ _ => rfl
  | none =>
    have hno := List.find?_eq_none.mp hq
    match hh : ls, h.few with
    | [], _ => exact fun _ _ => rfl
    | [x], _ => exact fun _ _ => rfl
    | [x, y], _ =>
      have nd := h.nd
      have ne : y.num ≠ x.num := by
        intro e
        simp [e] at nd
      have ny : y.num ≠ k := fun z => hno y (by simp) (decide_eq_true z)
      intro L hL
      rcases List.mem_cons.mp hL with rfl | hL
      · exact line4_wb (c := y.ch) h0 (h.lo y (by simp)) (h.hi y (by simp)) (h.w y (by simp)) ny
      · rcases List.mem_singleton.mp hL with rfl
        exact line4_wb (c := y.ch) (h.lo L (by simp)) (h.lo y (by simp)) (h.hi y (by simp)) (h.w y (by simp)) ne
theorem comeA_line4 {A : NearA} (h : OkA A) {k : Int} (h0 : 0 ≤ k) {i : Nat} {ls : List LineA} (e : (comeA A k).rooms[i]? = some ls) {L : LineA} (hL : L ∈ ls) : line4 (comeA A k).sl L.num = line4 A.sl L.num := by
  have e : (A.rooms.set (A.pl k) (comeR A.sl (A.room k) k).2)[i]? = some ls := e
  have rok := roomA_ok h k
  by_cases q : A.pl k = i
  · subst q
    rw [List.getElem?_set_self (roomA_at h k).1] at e
    cases e
    exact come_line4 rok h0 L hL
  · rw [List.getElem?_set_ne q] at e
    have ro := h.room i ls e
    have ep : A.pl L.num = i := ro.pl L hL
    refine line4_come rok (ro.lo L hL) fun y hy z => q ?_
    have ey : A.pl y.num = A.pl k := rok.pl y hy
    rw [← ey, z, ep]
theorem cell_of_line4 {s1 s2 : SlowD} {b : Int} (hb : 0 ≤ b) (e : line4 s1 (b / 4) = line4 s2 (b / 4)) : cellAt s1 b = cellAt s2 b := by
  rw [← line4_at s1 hb rfl, ← line4_at s2 hb rfl, e]
/-- a changed line's words in the slow memory stay -/
theorem doA_cell {A : NearA} (h : OkA A) (c : CleanA A) (d : Dd) {a v : Int} (h0 : 0 ≤ a) (h1 : a < A.sl.cells.length) {b : Int} (hb : 0 ≤ b) (hc : chg (doA A d a v) (b / 4)) : cellAt (doA A d a v).sl b = cellAt A.sl b := by
  cases d with
  | get =>
    obtain ⟨ls, hls, L, hL, en, _⟩ := hc
    obtain ⟨i, hi, ei⟩ := List.mem_iff_getElem.mp hls
    refine cell_of_line4 hb ?_
    have := comeA_line4 h (k := a / 4) (by omega) (i := i) (ls := ls) (by rw [← ei]; exact List.getElem?_eq_getElem hi) hL
    rw [en] at this
    exact this
  | put =>
    obtain ⟨ls, hls, L, hL, en, _⟩ := hc
    obtain ⟨i, hi, ei⟩ := List.mem_iff_getElem.mp hls
    refine cell_of_line4 hb ?_
    obtain ⟨M, ms, e, em⟩ := come_head h (a / 4)
    have h' := (come_okA h (k := a / 4) (by omega) (by have := h.four; omega)).1
    have hg : (putA A a v).rooms[i]? = some ls := by rw [← ei]; exact List.getElem?_eq_getElem hi
    have epa : putA A a v = setR (comeA A (a / 4)) (a / 4) (comeA A (a / 4)).sl (⟨M.num, M.w.set (a % 4).toNat v, true⟩ :: ms) := by
      unfold putA setR
      rw [e]
    rw [epa] at hg
    have hg : ((comeA A (a / 4)).rooms.set ((comeA A (a / 4)).pl (a / 4)) (⟨M.num, M.w.set (a % 4).toNat v, true⟩ :: ms))[i]? = some ls := hg
    show line4 (comeA A (a / 4)).sl (b / 4) = _
    by_cases q : (comeA A (a / 4)).pl (a / 4) = i
    · subst q
      rw [List.getElem?_set_self (roomA_at h' _).1] at hg
      have hg := Option.some.inj hg
      have hr := (roomA_at h' (a / 4)).2
      rw [e] at hr
      rw [← hg] at hL
      rcases List.mem_cons.mp hL with rfl | hL
      · have := comeA_line4 h (k := a / 4) (by omega) hr (L := M) (by simp)
        have en : M.num = b / 4 := en
        rw [en] at this
        exact this
      · have := comeA_line4 h (k := a / 4) (by omega) hr (L := L) (List.mem_cons_of_mem _ hL)
        rw [en] at this
        exact this
    · rw [List.getElem?_set_ne q] at hg
      have := comeA_line4 h (k := a / 4) (by omega) hg hL
      rw [en] at this
      exact this
  | cost => rfl
  | look => rfl
  | settle => exact absurd hc ((settle_view h c).2 _)
theorem look_cell {A : NearA} (h : OkA A) (c : CleanA A) {b : Int} (hb : 0 ≤ b) (no : ¬ chg A (b / 4)) : lookA A b = cellAt A.sl b := by
  rw [lookA_R]
  unfold lookR
  cases hq : (A.room (b / 4)).find? fun L => decide (L.num = b / 4) with
  | none => rfl
  | some L =>
    obtain ⟨hm, hk⟩ := find_pos hq
    have hc : L.ch = false := by
      cases q : L.ch with
      | false => rfl
      | true => exact absurd ⟨_, List.mem_of_getElem? (roomA_at h (b / 4)).2, L, hm, hk, q⟩ no
    have e := c _ _ (roomA_at h (b / 4)).2 L hm hc
    show (L.w[(b % 4).toNat]?).getD 0 = _
    rw [e, hk]
    exact line4_at A.sl hb rfl
end Rw

namespace Rw
open PySem PySem.Spec PyProof.Rows L2 PySem.W
/-! ### told: lines, counts -/
def lineT (L : LineA) : T := .tup [.int L.num, .tup (L.w.map .int), .bl L.ch]
def heldT (A : NearA) : T := .tup (A.rooms.map fun ls => .tup (ls.map lineT))
section
variable {S : Store} {o s : Nat} {A : NearA} {D : NearD} {rest : Fr}
theorem call_shown (n : Nat) {L : LineD} (hl : S[L.o]? = some (lineC L)) (hf : S[L.f]? = some (.lst (L.w.map iV))) (hw : L.w.length = 4) : callF tab (n + 1) 9 [.r L.o] S = .ok (.t (lineT (absL L))) S := by
  rw [callI _ [some (.r L.o)] tab_Line_shown rfl rfl, c_Line_shown]
  have ez : szLine = 16777216 := rfl
  have f1 := ln_num hl
  have f2 := ln_four hl
  have f3 := ln_ch hl
  have e4 : bltV .tuple false [.r L.f] S = .ok (.t (.tup (L.w.map .int))) S := blt_tupleR (L.w.map T.int) L.f false S (by rw [listV_r hf, List.map_map]; rfl) (by rw [List.length_map]; omega)
  simp (decide := true) [dSs, dS, dE, dEs, f1, f2, f3, e4, lineT, absL, szLine]
theorem call_held (n : Nat) (N : NearAt S o s A D rest) : callF tab (n + 2) 21 [.r o] S = .ok (.t (heldT A)) S := by
  rw [callI _ [some (.r o), none, none] tab_Near_held rfl rfl, c_Near_held]
  have ez : szLine = 16777216 := rfl
  have f1 : fldV tab (.r o) 7 S = .ok (.r D.r) S := by rw [← N.o]; exact nr_rooms N.hs
  have hr : S[D.r]? = some (.lst (D.rooms.map fun R => .r R.o)) := h_rooms N.hs
  have r4 := N.ok.r4
  have rp := N.ok.rp
  have e : dE tab (callF tab (n + 1)) (.comp false .seq (.cons (.fld (.var 0) 7) .nil) false [2] .nil (.blt .tuple false (.cons (.comp false .seq (.cons (.var 2) .nil) false [1] .nil (.meth (.var 1) 15 .nil)) .nil))) [some (.r o), none, none] S = .ok (.t (.lst (D.rooms.map fun R => .tup (R.ls.map fun L => lineT (absL L))))) S := by
    refine comp_map (w := some (D.r, D.rooms.map fun R => .r R.o)) D.rooms (fun R => .r R.o) _ (by omega) ?_ (show okW (some (D.r, D.rooms.map fun R => Val.r R.o)) S from hr) (fun R hR => ?_)
    · show (R.bind (R.bind (fldV tab (.r o) 7 S) _) _) = _
      rw [f1]
      exact items_h hr
    · refine ⟨_, rfl, ?_⟩
      have hRo := hm_room N.hs hR
      obtain ⟨i, hi, rok⟩ := mem_ok N.ok hR
      have few := rok.few
      rw [List.length_map] at few
      rw [dE_blt (v := .t (.lst (R.ls.map fun L => lineT (absL L)))) (S1 := S) (by
        refine comp_map (w := some (R.o, R.ls.map fun L => .r L.o)) R.ls (fun L => .r L.o) _ (by omega) ?_ (show okW (some (R.o, R.ls.map fun L => Val.r L.o)) S from hRo) (fun L hL => ?_)
        · exact items_h hRo
        · obtain ⟨h1, h2⟩ := hm_line N.hs hR hL
          have hw : L.w.length = 4 := rok.w (absL L) (List.mem_map.mpr ⟨L, hL, rfl⟩)
          have c := call_shown n h1 h2 hw
          have m : methV tab 15 1 (.r L.o) S = .ok 9 S := meth_h h1 rfl rfl rfl
          exact ⟨_, rfl, by simp (decide := true) [dE, dEs, IEs.len, wipeE, m, c]⟩)]
      exact blt_tuple _ _ _ (by rw [List.length_map]; omega)
  rw [step_ret (.t (heldT A)) (S1 := S) (by
    rw [dE_blt e, blt_tuple _ _ _ (by rw [List.length_map]; omega)]
    unfold heldT
    rw [← N.a]
    show R.ok (Val.t (.tup _)) S = R.ok (Val.t (.tup ((D.rooms.map fun R => R.ls.map absL).map fun ls => T.tup (ls.map lineT)))) S
    rw [List.map_map]
    congr 3
    apply List.map_congr_left
    intro R _
    show T.tup _ = T.tup ((R.ls.map absL).map lineT)
    rw [List.map_map]
    rfl)]
  rfl
end
end Rw

namespace Rw
open PySem PySem.Spec PyProof.Rows L2 PySem.W
section
variable {S : Store} {o s : Nat} {A : NearA} {D : NearD} {rest : Fr}
theorem call_reads (n : Nat) (N : NearAt S o s A D rest) : callF tab (n + 1) 4 [.r s] S = .ok (iV A.sl.told) S := by
  rw [callI _ [some (.r s)] tab_Slow_reads rfl rfl, c_Slow_reads]
  have f := sl_told (h_slow N.hs)
  rw [N.s] at f
  simp (decide := true) [dSs, dS, dE, f, ← N.a, absN]
end
end Rw

namespace Rw
open PySem PySem.Spec PyProof.Rows L2 PySem.W
section
variable {S : Store} {o s : Nat} {A : NearA} {D : NearD} {rest : Fr}
theorem call_writes (n : Nat) (N : NearAt S o s A D rest) : callF tab (n + 1) 5 [.r s] S = .ok (iV A.sl.put) S := by
  rw [callI _ [some (.r s)] tab_Slow_writes rfl rfl, c_Slow_writes]
  have f := sl_put (h_slow N.hs)
  rw [N.s] at f
  simp (decide := true) [dSs, dS, dE, f, ← N.a, absN]
end
end Rw

namespace Rw
open PySem PySem.Spec PyProof.Rows L2 PySem.W
/-! ### what is told, alike -/
def hT (rs : List (List LineA)) : T := .tup (rs.map fun ls => .tup (ls.map lineT))
theorem hT_eq (A : NearA) : heldT A = hT A.rooms := rfl
def lineD (L : LineA) : PyData := .tuple [.int L.num, .tuple (L.w.map .int), .bool L.ch]
theorem py_line (L : LineA) : (lineT L).py = some (lineD L) := by
  show (T.pys [.int L.num, .tup (L.w.map .int), .bl L.ch]).map PyData.tuple = _
  have e : (T.tup (L.w.map .int)).py = some (.tuple (L.w.map .int)) := by
    show (T.pys (L.w.map .int)).map PyData.tuple = _
    rw [pys_ints]
    rfl
  show Option.map PyData.tuple (Option.map (fun x => PyData.int L.num :: x) (match (T.tup (L.w.map .int)).py with
    | some d => Option.map (d :: ·) (some [PyData.bool L.ch])
    | none => none)) = _
  rw [e]
  rfl
theorem depth_line (L : LineA) : (lineD L).depth ≤ 2 := by
  show max 0 (max (PyData.depthAll (L.w.map .int) + 1) (max 0 0)) + 1 ≤ 2
  rw [depth_ints]
  decide
theorem eq_hT (rs : List (List LineA)) : eqT (hT rs) (hT rs) = some true := by
  have hp : (hT rs).py = some (.tuple (rs.map fun ls => .tuple (ls.map lineD))) := by
    show (T.pys (rs.map fun ls => T.tup (ls.map lineT))).map PyData.tuple = _
    rw [pys_map (fun ls : List LineA => T.tup (ls.map lineT)) (fun ls => PyData.tuple (ls.map lineD)) (fun ls => by
      show (T.pys (ls.map lineT)).map PyData.tuple = _
      rw [pys_map lineT lineD py_line]
      rfl)]
    rfl
  refine eqT_refl hp ?_
  have := depth_map (fun ls : List LineA => PyData.tuple (ls.map lineD)) 3 (fun ls => by
    have := depth_map lineD 2 depth_line ls
    show PyData.depthAll (ls.map lineD) + 1 ≤ 3
    omega) rs
  show PyData.depthAll _ + 1 ≤ 60
  omega
theorem in_ints (k : Int) (ns : List Int) : inT (.int k) (.lst (ns.map .int)) = some (decide (k ∈ ns)) := by
  show (T.pys (ns.map .int)).bind (fun ds => if min (PyData.depthAll ds) (PyData.int k).depth ≤ 60 then some (ds.any fun y => PyData.eqv y (.int k)) else none) = _
  rw [pys_ints]
  show (if min (PyData.depthAll (ns.map .int)) (PyData.int k).depth ≤ 60 then some ((ns.map PyData.int).any fun y => PyData.eqv y (.int k)) else none) = _
  rw [depth_ints, if_pos (by omega)]
  congr 1
  induction ns with
  | nil => rfl
  | cons n ns ih =>
    rw [List.map_cons, List.any_cons, ih]
    show (n == k || _) = _
    by_cases q : n = k
    · subst q
      simp
    · have q2 : ¬ k = n := fun z => q z.symm
      simp [q, q2]
/-! the pieces beside it -/
theorem NearAt.perm {S : Store} {o s : Nat} {A : NearA} {D : NearD} {rest rest' : Fr} (N : NearAt S o s A D rest) (p : rest.Perm rest') : NearAt S o s A D rest' := ⟨N.hs.perm (List.Perm.append_left _ p), N.ok, N.o, N.s, N.a⟩
theorem NearAt.push {S : Store} {o s : Nat} {A : NearA} {D : NearD} {rest : Fr} (N : NearAt S o s A D rest) (c : Cell) : NearAt (S ++ [c]) o s A D ((S.length, c) :: rest) := by
  refine ⟨(N.hs.push c).perm ?_, N.ok, N.o, N.s, N.a⟩
  show ([] ++ ([(S.length, c)] ++ (nearF D ++ rest))).Perm _
  exact (perm_mid (nearF D) [(S.length, c)] rest).symm
theorem blt_listCR {S : Store} {w : Nat} {ws : List Int} (h : S[w]? = some (.lst (ws.map iV))) (hz : ws.length ≤ 64) : bltV .list true [.r w] S = .ok (.r S.length) (S ++ [.lst (ws.map iV)]) := by
  have ez : szLine = 16777216 := rfl
  show (match Val.r w, listV S (.r w) with
    | .t (.tup xs), _ => alloc true (xs.map .t) S
    | _, some vs => alloc true vs S
    | _, none => .bad) = _
  rw [listV_r h]
  exact alloc_r _ _ (by rw [List.length_map]; omega)
theorem cmp_intsNe {S : Store} {w : Nat} {ws : List Int} (h : S[w]? = some (.lst (ws.map iV))) : cmpV .NotEq (.t (.lst (ws.map .int))) (.r w) S = .ok (.t (.bl false)) S := by
  show cmpW .NotEq (.t (.lst (ws.map .int))) (.r w) S = _
  unfold cmpW
  rw [peek_ints h]
  show ofT (((eqT (.lst (ws.map .int)) (.lst (ws.map .int))).map not).map .bl) S = _
  rw [eq_ints]
  rfl
theorem dB_valE {tb : Tab} {call : Call} {e : IE} {env : Env} {S S1 : Store} {k : Bool} (h : dE tb call e env S = .ok (.t (.bl k)) S1) : dB tb call (.val e) env S = .ok k S1 := by
  show (dE tb call e env S).bind (fun v S => truV v S) = _
  rw [h]
  rfl
theorem dB_ors2 {tb : Tab} {call : Call} {a b : IC} {env : Env} {S S1 S2 : Store} (h1 : dB tb call a env S = .ok false S1) (h2 : dB tb call b env S1 = .ok false S2) : dB tb call (.ors (.cons a (.cons b .nil))) env S = .ok false S2 := by
  show (dB tb call a env S).bind (fun k S => if k then .ok true S else (dB tb call b env S).bind fun k S => if k then .ok true S else .ok false S) = _
  rw [h1]
  show (dB tb call b env S1).bind _ = _
  rw [h2]
  rfl
theorem dB_ors3 {tb : Tab} {call : Call} {a b c : IC} {env : Env} {S S1 S2 S3 : Store} (h1 : dB tb call a env S = .ok false S1) (h2 : dB tb call b env S1 = .ok false S2) (h3 : dB tb call c env S2 = .ok false S3) : dB tb call (.ors (.cons a (.cons b (.cons c .nil)))) env S = .ok false S3 := by
  show (dB tb call a env S).bind (fun k S => if k then .ok true S else (dB tb call b env S).bind fun k S => if k then .ok true S else (dB tb call c env S).bind fun k S => if k then .ok true S else .ok false S) = _
  rw [h1]
  show (dB tb call b env S1).bind _ = _
  rw [h2]
  show (dB tb call c env S2).bind _ = _
  rw [h3]
  rfl
theorem dB_notE {tb : Tab} {call : Call} {a : IC} {env : Env} {S S1 : Store} {k : Bool} (h : dB tb call a env S = .ok k S1) : dB tb call (.not a) env S = .ok (!k) S1 := by
  show (dB tb call a env S).bind (fun k S => .ok (!k) S) = _
  rw [h]
  rfl
/-- what is kept, word by word -/
def mixW (new old : List Int) (j : Nat) : List Int := new.take j ++ old.drop j
theorem mix_len {new old : List Int} (h : new.length = old.length) (j : Nat) (hj : j ≤ old.length) : (mixW new old j).length = old.length := by
  unfold mixW
  rw [List.length_append, List.length_take, List.length_drop]
  omega
theorem mix_get {new old : List Int} (h : new.length = old.length) {j : Nat} (hj : j ≤ old.length) (i : Nat) : (mixW new old j)[i]? = if i < j then new[i]? else old[i]? := by
  unfold mixW
  by_cases q : i < j
  · rw [if_pos q, List.getElem?_append_left (by rw [List.length_take]; omega), List.getElem?_take, if_pos q]
  · rw [if_neg q, List.getElem?_append_right (by rw [List.length_take]; omega), List.length_take, List.getElem?_drop]
    congr 1
    omega
theorem mix_set {new old : List Int} (h : new.length = old.length) {j : Nat} (hj : j < old.length) {v : Int} (e : new[j]? = some v) : (mixW new old j).set j v = mixW new old (j + 1) := by
  apply List.ext_getElem?
  intro i
  rw [mix_get h (by omega), List.getElem?_set, mix_get h (by omega), mix_len h j (by omega)]
  by_cases q : j = i
  · subst q
    rw [if_pos rfl, if_pos hj, if_pos (by omega), e]
  · rw [if_neg q]
    by_cases z : i < j
    · rw [if_pos z, if_pos (by omega)]
    · rw [if_neg z, if_neg (by omega)]
theorem mix_stay {new old : List Int} (h : new.length = old.length) {j : Nat} (hj : j < old.length) (e : new[j]? = old[j]?) : mixW new old (j + 1) = mixW new old j := by
  apply List.ext_getElem?
  intro i
  rw [mix_get h (by omega), mix_get h (by omega)]
  by_cases q : i < j
  · rw [if_pos q, if_pos (by omega)]
  · rw [if_neg q]
    by_cases z : i = j
    · subst z
      rw [if_pos (by omega), e]
    · rw [if_neg (by omega)]
end Rw

namespace Rw
open PySem PySem.Spec PyProof.Rows L2 PySem.W
/-! ### what is refused -/
theorem sx_seq_ex {b : ISs} {k : Env → Store → RS} {x : Exn} {env env1 : Env} {S S1 : Store} {tab : Tab} {call : Call} (h : dSs tab call b env S = .ex x env1 S1) : (dSs tab call b env S).seq k = .ex x env1 S1 := by
  rw [h]
  rfl
theorem resI_x {m : RS} {x : Exn} {env : Env} {S : Store} (h : m = .ex x env S) : resI m = .ex x S := by
  rw [h]
  rfl
/-- no number of sets -/
def badSets : T → Bool
  | .int i => !(decide (i = 1) || (decide (i = 2) || decide (i = 4)))
  | .ins _ _ => false
  | .fn _ => false
  | .exn _ _ => false
  | .dct _ => false
  | .scr _ => false
  | _ => true
/-- no address of so many words -/
def badAt (z : Int) : T → Bool
  | .int i => !(decide (0 ≤ i) && decide (i < z))
  | .ins _ _ => false
  | .fn _ => false
  | .exn _ _ => false
  | .dct _ => false
  | .scr _ => false
  | _ => true
theorem sets_ors (call : Call) (t : T) (h : badSets t = true) (a b c : Option Val) (S : Store) : dB tab call (.ors (.cons (.not (.val (.isi (.var 2) false [.int]))) (.cons (.val (.isi (.var 2) false [.bool])) (.cons (.val (.cmp .NotIn (.var 2) (.tup (.cons (.con (.int 1)) (.cons (.con (.int 2)) (.cons (.con (.int 4)) .nil)))))) .nil)))) [a, b, some (.t t), c] S = .ok true S := by
  have first : ∀ k : Bool, isiV tab [.int] (.t t) S = .ok (.t (.bl k)) S → k = false → dB tab call (.ors (.cons (.not (.val (.isi (.var 2) false [.int]))) (.cons (.val (.isi (.var 2) false [.bool])) (.cons (.val (.cmp .NotIn (.var 2) (.tup (.cons (.con (.int 1)) (.cons (.con (.int 2)) (.cons (.con (.int 4)) .nil)))))) .nil)))) [a, b, some (.t t), c] S = .ok true S := fun k hk e => by
    subst e
    exact evB_ors (evO_T (evB_not (k := false) (evB_val (ev_isi (ev_var rfl) hk))))
  cases t with
  | int i =>
    have hi : cmpV .NotIn (iV i) (.t (.tup [.int 1, .int 2, .int 4])) S = .ok (.t (.bl true)) S := by
      have e : cmpT .NotIn (.int i) (.tup [.int 1, .int 2, .int 4]) = some true := by
        show (inT (.int i) (.tup [.int 1, .int 2, .int 4])).map not = some true
        have z : inT (.int i) (.tup [.int 1, .int 2, .int 4]) = some (decide (i ∈ [1, 2, 4])) := in_ints i [1, 2, 4]
        rw [z]
        have h : (!(decide (i = 1) || (decide (i = 2) || decide (i = 4)))) = true := h
        have : ¬ i ∈ [(1 : Int), 2, 4] := by
          intro m
          simp at m
          rcases m with rfl | rfl | rfl <;> exact absurd h (by decide)
        rw [decide_eq_false this]
        rfl
      show ofT ((cmpT .NotIn (.int i) (.tup [.int 1, .int 2, .int 4])).map .bl) S = _
      rw [e]
      rfl
    exact evB_ors (evO_F (S1 := S) (evB_not (k := true) (evB_val (ev_isi (ev_var rfl) rfl))) (evO_F (S1 := S) (evB_val (ev_isi (ev_var rfl) rfl)) (evO_1 (evB_val (ev_cmp (ev_var rfl) (ev_tup (evs_cons (ev_con _) (evs_cons (ev_con _) (evs_cons (ev_con _) evs_nil))) rfl) hi)))))
  | bl k => exact evB_ors (evO_F (S1 := S) (evB_not (k := true) (evB_val (ev_isi (ev_var rfl) rfl))) (evO_T (evB_val (ev_isi (ev_var rfl) rfl))))
  | ins _ _ => cases h
  | fn _ => cases h
  | exn _ _ => cases h
  | dct _ => cases h
  | scr _ => cases h
  | _ => exact first false rfl rfl
theorem near_no (n : Nat) (o s : Val) (t : T) (h : badSets t = true) (S : Store) : callF tab (n + 1) 10 [o, s, .t t] S = .ex ⟨2, []⟩ S := by
  rw [show callF tab (n + 1) 10 [o, s, .t t] S = resI (dSs tab (callF tab n) c_Near_init [some o, some s, some (.t t), none] S) from rfl]
  unfold c_Near_init
  exact resI_x (env := [some o, some s, some (.t t), none]) (sx_ifT (sets_ors _ t h _ _ _ S) rfl)
theorem new_no (n : Nat) (s : Val) (t : T) (h : badSets t = true) (S : Store) : newV tab (callF tab (n + 1)) 2 [s, .t t] S = .ex ⟨2, []⟩ (S ++ [.ins 2 []]) := by
  show (callF tab (n + 1) 10 [.r S.length, s, .t t] (S ++ [.ins 2 []])).bind _ = _
  rw [near_no n _ _ t h]
  rfl
theorem call_no_sets (n : Nat) (s : Nat) (t : T) (h : badSets t = true) (S : Store) : callF tab (n + 2) 30 [.r s, .t t] S = .ok (.t (.bl true)) (S ++ [.ins 2 []]) := by
  rw [callI _ [some (.r s), some (.t t), none] tab__law_no_sets rfl rfl, c__law_no_sets]
  exact congrArg resI (sx_tryAs (sx_exprEx (ev_new (evs_cons (ev_var rfl) (evs_cons (ev_var rfl) evs_nil)) (new_no n _ t h S))) rfl rfl rfl)
section
variable {S : Store} {o s : Nat} {A : NearA} {D : NearD} {rest : Fr}
theorem mN (N : NearAt S o s A D rest) {f g m : Nat} (q1 : [(6, Val.r D.s), (7, .r D.r)].lookup f = none) (q2 : ((tab.cl 2).bind fun k => k.meths.lookup f) = some g) (q3 : arity tab g m = true) : methV tab f m (.r o) S = .ok g S := by
  rw [← N.o]
  exact nr_m N.hs q1 q2 q3
theorem mS (N : NearAt S o s A D rest) {f g m : Nat} (q1 : [(0, Val.t (.lst (D.sl.cells.map .int))), (1, iV D.sl.told), (2, iV D.sl.put)].lookup f = none) (q2 : ((tab.cl 0).bind fun k => k.meths.lookup f) = some g) (q3 : arity tab g m = true) : methV tab f m (.r s) S = .ok g S := by
  rw [← N.s]
  exact sl_m (h_slow N.hs) q1 q2 q3
theorem address_ors (n : Nat) (N : NearAt S o s A D rest) (t : T) (h : badAt A.sl.cells.length t = true) : dB tab (callF tab (n + 1)) (.ors (.cons (.not (.val (.isi (.var 1) false [.int]))) (.cons (.val (.isi (.var 1) false [.bool])) (.cons (.not (.val (.cmp2 .LtE .Lt (.con (.int 0)) (.var 1) (.meth (.fld (.var 0) 6) 14 .nil)))) .nil)))) [some (.r o), some (.t t)] S = .ok true S := by
  have f := nr_slow N.hs
  rw [N.o] at f
  have m := sl_m (f := 14) (g := 7) (m := 1) (h_slow N.hs) rfl rfl rfl
  have c := call_slow_size n (h_slow N.hs)
  have ea : D.sl = A.sl := by rw [← N.a]; rfl
  rw [ea] at c
  cases t with
  | int i =>
    have h : (!(decide (0 ≤ i) && decide (i < (A.sl.cells.length : Int)))) = true := h
    simp (decide := true) [dB, dOr, dE, dEs, IEs.len, f, m, c]
    intro h1
    rw [decide_eq_true h1, Bool.true_and] at h
    have h := of_decide_eq_false (nb h)
    omega
  | bl k => exact evB_ors (evO_F (S1 := S) (evB_not (k := true) (evB_val (ev_isi (ev_var rfl) rfl))) (evO_T (evB_val (ev_isi (ev_var rfl) rfl))))
  | ins _ _ => cases h
  | fn _ => cases h
  | exn _ _ => cases h
  | dct _ => cases h
  | scr _ => cases h
  | _ => exact evB_ors (evO_T (evB_not (k := false) (evB_val (ev_isi (ev_var rfl) rfl))))
theorem need_no (n : Nat) (N : NearAt S o s A D rest) (t : T) (h : badAt A.sl.cells.length t = true) : callF tab (n + 2) 11 [.r o, .t t] S = .ex ⟨3, []⟩ S := by
  rw [callI _ [some (.r o), some (.t t)] tab_Near_need_address rfl rfl, c_Near_need_address]
  exact resI_x (env := [some (.r o), some (.t t)]) (sx_ifT (address_ors n N t h) rfl)
theorem need_x (n : Nat) (N : NearAt S o s A D rest) (t : T) (h : badAt A.sl.cells.length t = true) (env : Env) (e0 : env[0]? = some (some (.r o))) (e1 : env[1]? = some (some (.t t))) (ss : ISs) : dSs tab (callF tab (n + 2)) (.cons (.expr (.meth (.var 0) 16 (.cons (.var 1) .nil))) ss) env S = .ex ⟨3, []⟩ env S :=
  sx_exprEx (ev_meth (ev_var e0) (mN N (f := 16) (g := 11) rfl rfl rfl) (evs_cons (ev_var e1) evs_nil) (need_no n N t h))
theorem get_no (n : Nat) (N : NearAt S o s A D rest) (t : T) (h : badAt A.sl.cells.length t = true) : callF tab (n + 3) 16 [.r o, .t t] S = .ex ⟨3, []⟩ S := by
  rw [show callF tab (n + 3) 16 [.r o, .t t] S = resI (dSs tab (callF tab (n + 2)) c_Near_get ([.r o, .t t].map some ++ List.replicate (f_Near_get.ns - f_Near_get.np) none) S) from rfl]
  unfold c_Near_get
  exact resI_x (need_x n N t h _ rfl rfl _)
theorem put_no (n : Nat) (N : NearAt S o s A D rest) (t : T) (v : Val) (h : badAt A.sl.cells.length t = true) : callF tab (n + 3) 17 [.r o, .t t, v] S = .ex ⟨3, []⟩ S := by
  rw [show callF tab (n + 3) 17 [.r o, .t t, v] S = resI (dSs tab (callF tab (n + 2)) c_Near_put ([.r o, .t t, v].map some ++ List.replicate (f_Near_put.ns - f_Near_put.np) none) S) from rfl]
  unfold c_Near_put
  exact resI_x (need_x n N t h _ rfl rfl _)
theorem cost_no (n : Nat) (N : NearAt S o s A D rest) (t : T) (h : badAt A.sl.cells.length t = true) : callF tab (n + 3) 18 [.r o, .t t] S = .ex ⟨3, []⟩ S := by
  rw [show callF tab (n + 3) 18 [.r o, .t t] S = resI (dSs tab (callF tab (n + 2)) c_Near_cost ([.r o, .t t].map some ++ List.replicate (f_Near_cost.ns - f_Near_cost.np) none) S) from rfl]
  unfold c_Near_cost
  exact resI_x (need_x n N t h _ rfl rfl _)
theorem look_no (n : Nat) (N : NearAt S o s A D rest) (t : T) (h : badAt A.sl.cells.length t = true) : callF tab (n + 3) 19 [.r o, .t t] S = .ex ⟨3, []⟩ S := by
  rw [show callF tab (n + 3) 19 [.r o, .t t] S = resI (dSs tab (callF tab (n + 2)) c_Near_look ([.r o, .t t].map some ++ List.replicate (f_Near_look.ns - f_Near_look.np) none) S) from rfl]
  unfold c_Near_look
  exact resI_x (need_x n N t h _ rfl rfl _)
theorem call_no_place (n : Nat) (N : NearAt S o s A D rest) (w : Int) (h0 : 0 ≤ w) (h1 : w < 4) (t : T) (h : badAt A.sl.cells.length t = true) : callF tab (n + 4) 31 [.r o, iV w, .t t] S = .ok (.t (.bl true)) S := by
  rw [callI _ [some (.r o), some (iV w), some (.t t), none] tab__law_no_place rfl rfl, c__law_no_place]
  have g := get_no n N t h
  have p := put_no n N t (iV 7) h
  have c := cost_no n N t h
  have l := look_no n N t h
  have cases4 : w = 0 ∨ w = 1 ∨ w = 2 ∨ w = 3 := by omega
  refine congrArg resI (sx_tryAs (x := ⟨3, []⟩) (env1 := [some (.r o), some (iV w), some (.t t), none]) (S1 := S) ?_ rfl rfl rfl)
  rcases cases4 with rfl | rfl | rfl | rfl
  · exact sx_ifT (S1 := S) rfl (sx_seq_ex (sx_exprEx (ev_meth (ev_var rfl) (mN N (f := 21) (g := 16) rfl rfl rfl) (evs_cons (ev_var rfl) evs_nil) g)))
  · exact sx_ifF (S1 := S) rfl (sx_seq_ex (sx_ifT (S1 := S) rfl (sx_seq_ex (sx_exprEx (ev_meth (ev_var rfl) (mN N (f := 22) (g := 17) rfl rfl rfl) (evs_cons (ev_var rfl) (evs_cons (ev_con _) evs_nil)) p)))))
  · exact sx_ifF (S1 := S) rfl (sx_seq_ex (sx_ifF (S1 := S) rfl (sx_seq_ex (sx_ifT (S1 := S) rfl (sx_seq_ex (sx_exprEx (ev_meth (ev_var rfl) (mN N (f := 23) (g := 18) rfl rfl rfl) (evs_cons (ev_var rfl) evs_nil) c)))))))
  · exact sx_ifF (S1 := S) rfl (sx_seq_ex (sx_ifF (S1 := S) rfl (sx_seq_ex (sx_ifF (S1 := S) rfl (sx_seq_ex (sx_exprEx (ev_meth (ev_var rfl) (mN N (f := 24) (g := 19) rfl rfl rfl) (evs_cons (ev_var rfl) evs_nil) l)))))))
end
theorem pickT (l : List T) {i : Int} (h0 : 0 ≤ i) (h1 : i < l.length) : ∃ v ∈ l, atL l i = some v := by
  rw [atL_nat h0 h1]
  have : i.toNat < l.length := by omega
  exact ⟨l[i.toNat], List.getElem_mem this, List.getElem?_eq_getElem this⟩
theorem call_odd (n : Nat) (c z : Int) (h0 : 0 ≤ c) (z0 : 4 ≤ z) (z1 : z ≤ 64) (S : Store) : ∃ t, badAt z t = true ∧ callF tab (n + 1) 32 [iV c, iV z] S = .ok (.t t) S := by
  have ez : szLine = 16777216 := rfl
  have m1 := mod_bd (c / 60) (j := 300) (by decide)
  have m2 := mod_bd (c / 60) (j := 64) (by decide)
  have m13 := mod_bd (c / 4) (j := 13) (by decide)
  have p20 : binI .Pow 10 20 = some 100000000000000000000 := by rfl
  obtain ⟨x, hx⟩ : ∃ x, x = c / 60 % 300 := ⟨_, rfl⟩
  obtain ⟨y, hy⟩ : ∃ y, y = c / 60 % 64 := ⟨_, rfl⟩
  let l : List T := [.int z, .int (z + x), .int (-1), .int (-1 - y), .bl true, .bl false, .non, .str (Str.ofString "0"), .str (Str.ofString ""), .tup [.int 1], .lst [.int 0], .int 100000000000000000000]
  obtain ⟨t, ht, e⟩ := pickT (l ++ [.int (-100000000000000000000)]) (i := c / 4 % 13) m13.1 (by show _ < (13 : Int); omega)
  refine ⟨t, ?_, ?_⟩
  · have ht : t ∈ [T.int z, .int (z + x), .int (-1), .int (-1 - y), .bl true, .bl false, .non, .str (Str.ofString "0"), .str (Str.ofString ""), .tup [.int 1], .lst [.int 0], .int 100000000000000000000, .int (-100000000000000000000)] := ht
    have ii : ∀ i : Int, (i < 0 ∨ z ≤ i) → badAt z (.int i) = true := fun i hi => by
      show (!(decide (0 ≤ i) && decide (i < z))) = true
      rcases hi with hi | hi
      · rw [decide_eq_false (by omega : ¬ 0 ≤ i)]
        rfl
      · rw [decide_eq_false (by omega : ¬ i < z), Bool.and_false]
        rfl
    simp only [List.mem_cons, List.not_mem_nil, or_false] at ht
    rcases ht with rfl | rfl | rfl | rfl | rfl | rfl | rfl | rfl | rfl | rfl | rfl | rfl | rfl
    all_goals first
    | exact ii _ (by omega)
    | rfl
  · rw [show ([iV c, iV z] : List Val) = [T.int c, .int z].map .t from rfl, callQ _ [some (iV c), some (iV z), none] tab__law_odd rfl rfl, c__law_odd]
    rw [stay_set (.t (.lst l)) (by simp (decide := true) [dE, dEs, binI_mod, binI_div, p20, l, hx, hy])]
    simp only [List.set_cons_succ, List.set_cons_zero]
    rw [step_ret (.t t) (S1 := []) (by
      refine ev_sub (S1 := []) (S2 := []) (x := .t (.lst (l ++ [.int (-100000000000000000000)]))) (y := iV (c / 4 % 13)) ?_ ?_ ?_
      · refine ev_bin (S1 := []) (S2 := []) (x := .t (.lst l)) (y := .t (.lst [.int (-100000000000000000000)])) (ev_var rfl) ?_ rfl
        simp (decide := true) [dE, dEs, p20]
      · simp (decide := true) [dE, dEs, binI_mod, binI_div]
      · show ofT (atL _ _) _ = _
        rw [e]
        rfl)]
    rfl
/-! ### the law -/
theorem new_slowC (n : Nat) (S : Store) (v : Val) (ws : List Int) (hv : ∀ c, bltV .list false [v] (S ++ [c]) = .ok (.t (.lst (ws.map .int))) (S ++ [c])) :
    newV tab (callF tab (n + 1)) 0 [v] S = .ok (.r S.length) (S ++ [slowC ⟨ws, 0, 0⟩]) := by
  have e0 : callF tab (n + 1) 0 [.r S.length, v] (S ++ [.ins 0 []]) = .ok (.t .non) (S ++ [slowC ⟨ws, 0, 0⟩]) := by
    rw [callI _ [some (.r S.length), some v] tab_Slow_init rfl rfl, c_Slow_init]
    have h1 := setF_h (tab := tab) (f := 0) (v := .t (.lst (ws.map .int))) (get_len S (.ins 0 [])) rfl (by decide)
    rw [set_last] at h1
    have h2 := setF_h (tab := tab) (f := 1) (v := iV 0) (get_len S (.ins 0 (putN 0 (.t (.lst (ws.map .int))) []))) rfl (show 1 < 1000 by decide)
    rw [set_last] at h2
    have h3 := setF_h (tab := tab) (f := 2) (v := iV 0) (get_len S (.ins 0 (putN 1 (iV 0) (putN 0 (.t (.lst (ws.map .int))) [])))) rfl (show 2 < 1000 by decide)
    rw [set_last] at h3
    simp (decide := true) only [dSs, dS, dE, dEs, List.getElem?_cons_zero, List.getElem?_cons_succ, R.bind_ok, R.st_ok, seq_nx, hv, ofO, h1, h2, h3]
    rfl
  show (callF tab (n + 1) 0 [.r S.length, v] (S ++ [.ins 0 []])).bind _ = _
  rw [e0]
  rfl
theorem cost_in (A : NearA) (a : Int) : inT (.int (costA A a)) (.tup [.int 1, .int 5, .int 9]) = some true := by
  unfold costA
  split
  · rfl
  · split
    · split <;> rfl
    · rfl
/-- the near memory in the store, and the words that stand behind -/
def St47 (S : Store) (z : Int) : Prop := ∃ (A : NearA) (D : NearD) (ws : List Int) (rest : Fr), NearAt S 3 1 A D rest ∧ Right A ws ∧ (ws.length : Int) = z
theorem turn_0 (n : Nat) (ns : List Int) (hl : ns.length ≤ 63) (z : Int) (h0 : 0 < z) (S : Store) (st : St47 S z) (i : Int) (hi : 0 ≤ i) (env : Env) (e0 : env[0]? = some (some (.t (.scr ns)))) (e1 : env[1]? = some (some (iV z))) (e6 : env[6]? = some (some (.r 3))) (e7 : env[7]? = some (some (iV i))) :
    ∃ S', St47 S' z ∧ dSs tab (callF tab (n + 6)) b_law_0 env S = .nx env S' := by
  obtain ⟨A, D, ws, rest, N, R, hz⟩ := st
  obtain ⟨d, a, v, a0, a1, hd⟩ := call_deed (n + 3) ns i z hl hi h0 S
  have a2 : a < A.sl.cells.length := by rw [R.len]; omega
  obtain ⟨S1, D1, hc, N1⟩ := call_did n N d a v a0 a2
  have R1 := doA_right R d (v := v) a0 (by omega)
  refine ⟨S1, ⟨_, D1, _, rest, N1, R1, ?_⟩, ?_⟩
  · cases d <;> first | exact hz | (rw [List.length_set]; exact hz)
  · unfold b_law_0
    exact sx_expr (ev_call (evs_cons (ev_var e6) (evs_cons (ev_call (evs_cons (ev_var e0) (evs_cons (ev_var e7) (evs_cons (ev_var e1) evs_nil))) hd) evs_nil)) hc) rfl
def cntT47 (A : NearA) : T := .tup [.int A.sl.told, .int A.sl.put, .lst (A.sl.cells.map .int)]
theorem eq_cnt (A : NearA) (h : A.sl.cells.length ≤ 64) : eqT (cntT47 A) (cntT47 A) = some true := by
  have hp : (cntT47 A).py = some (.tuple [.int A.sl.told, .int A.sl.put, .list (A.sl.cells.map .int)]) := by
    show (T.pys [.int A.sl.told, .int A.sl.put, .lst (A.sl.cells.map .int)]).map PyData.tuple = _
    simp only [T.pys, T.py, pys_ints, Option.map_some]
  refine eqT_refl hp ?_
  show max 0 (max 0 (max (PyData.depthAll (A.sl.cells.map PyData.int) + 1) 0)) + 1 ≤ 60
  rw [depth_ints]
  decide
theorem turn_1 (n : Nat) (ns : List Int) (hl : ns.length ≤ 63) (z : Int) (z0 : 4 ≤ z) (z1 : z ≤ 64) {S : Store} {A : NearA} {D : NearD} {rest : Fr} (N : NearAt S 3 1 A D rest) (hz : (A.sl.cells.length : Int) = z) (i : Int) (hi : 0 ≤ i) (b2 b4 b5 b10 : Option Val) :
    ∃ b10', dSs tab (callF tab (n + 6)) b_law_1 [some (.t (.scr ns)), some (iV z), b2, some (.r 1), b4, b5, some (.r 3), some (iV i), some (.t (heldT A)), some (.t (cntT47 A)), b10] S
      = .nx [some (.t (.scr ns)), some (iV z), b2, some (.r 1), b4, b5, some (.r 3), some (iV i), some (.t (heldT A)), some (.t (cntT47 A)), b10'] S := by
  have ez : szLine = 16777216 := rfl
  have hc := call_cell (n + 5) ns (20 + i) S hl (by omega)
  have cb := cell_bd ns (20 + i)
  obtain ⟨c, ec⟩ : ∃ c, c = cell ns (20 + i) := ⟨_, rfl⟩
  rw [← ec] at hc cb
  obtain ⟨t, ht, ho⟩ := call_odd (n + 5) c z cb.1 z0 z1 S
  have m4 := mod_bd c (j := 4) (by decide)
  have hp := call_no_place (n + 2) N (c % 4) m4.1 m4.2 t (by rw [hz]; exact ht)
  have hh := call_held (n + 4) N
  have hr := call_reads (n + 5) N
  have hw := call_writes (n + 5) N
  have h64 := N.okA.len
  have hwh := call_whole (n + 5) N
  refine ⟨some (iV c), ?_⟩
  unfold b_law_1
  refine sx_set (ev_call (evs_cons (ev_var rfl) (evs_cons (ev_bin (x := iV 20) (y := iV i) (S1 := S) (S2 := S) (ev_con _) (ev_var rfl) rfl) evs_nil)) hc) ?_
  simp only [List.set_cons_succ, List.set_cons_zero]
  refine sx_ifF0 (S1 := S) (evB_not (k := true) (evB_val (ev_call (evs_cons (ev_var rfl) (evs_cons (ev_bin (x := iV c) (y := iV 4) (S1 := S) (S2 := S) (r := .ok (iV (c % 4)) S) (ev_var rfl) (ev_con _) (by rw [binV_int, binI_mod (by decide)]; rfl)) (evs_cons (ev_call (evs_cons (ev_var rfl) (evs_cons (ev_var rfl) evs_nil)) ho) evs_nil))) hp))) ?_
  refine sx_ifF0 (S1 := S) (evB_ors (evO_F (S1 := S) (evB_val (ev_cmp (ev_meth (ev_var rfl) (mN N (f := 26) (g := 21) rfl rfl rfl) evs_nil hh) (ev_var rfl) ?_)) (evO_1 (evB_val (ev_cmp (x := .t (cntT47 A)) (S1 := S) (ev_tup (evs_cons (ev_meth (ev_var rfl) (mS N (f := 11) (g := 4) rfl rfl rfl) evs_nil hr) (evs_cons (ev_meth (ev_var rfl) (mS N (f := 12) (g := 5) rfl rfl rfl) evs_nil hw) (evs_cons (ev_meth (ev_var rfl) (mS N (f := 13) (g := 6) rfl rfl rfl) evs_nil hwh) evs_nil))) rfl) (ev_var rfl) ?_))))) rfl
  · show ofT (((eqT _ _).map not).map .bl) S = _
    rw [hT_eq, eq_hT]
    rfl
  · show ofT (((eqT _ _).map not).map .bl) S = _
    rw [eq_cnt A h64]
    rfl
theorem main : ∀ ns : List Int, ns.length ≤ 63 → ∃ S, callF lawD.tab 12 33 [Val.t (.scr ns)] [] = .ok (.t (.bl true)) S := by
  intro ns hl
  refine ⟨[], ?_⟩
  have ez : szLine = 16777216 := rfl
  rw [show ([.t (.scr ns)] : List Val) = [T.scr ns].map .t from rfl, callQ _ [some (.t (.scr ns)), none, none, none, none, none, none, none, none, none, none] tab_law rfl rfl, c_law]
  have hc1 := call_cell 10 ns 1 [] hl (by decide)
  have m1 := mod_bd (cell ns 1) (j := 16) (by decide)
  rw [stay_set (iV (4 + 4 * (cell ns 1 % 16))) (by simp (decide := true) [dE, dEs, binI_mod, binI_mulL big4, hc1])]
  simp only [List.set_cons_succ, List.set_cons_zero]
  obtain ⟨z, hz⟩ : ∃ z, z = 4 + 4 * (cell ns 1 % 16) := ⟨_, rfl⟩
  rw [← hz]
  have z0 : 4 ≤ z := by omega
  have z1 : z ≤ 64 := by omega
  have z4 : z % 4 = 0 := by omega
  obtain ⟨ws, hwl, hws⟩ := call_words 9 ns 200 z hl (by decide) (by omega) z1 []
  rw [step_set (S1 := [.lst (ws.map iV)]) (.r 0) (by
    simp (decide := true) only [dE, dEs, List.getElem?_cons_zero, List.getElem?_cons_succ, ofO, Rw.R.bind_ok]
    exact hws)]
  simp only [List.set_cons_succ, List.set_cons_zero]
  have hb : ∀ c : Cell, bltV .list false [.r 0] ([Cell.lst (ws.map iV)] ++ [c]) = .ok (.t (.lst (ws.map .int))) ([Cell.lst (ws.map iV)] ++ [c]) := fun c => blt_listC (S := [Cell.lst (ws.map iV)] ++ [c]) (w := 0) (ws := ws) rfl (by omega)
  have hn1 := new_slowC 10 [.lst (ws.map iV)] (.r 0) ws hb
  obtain ⟨S1, hS1⟩ : ∃ X : Store, X = [.lst (ws.map iV)] ++ [slowC ⟨ws, 0, 0⟩] := ⟨_, rfl⟩
  rw [step_set (S1 := S1) (.r 1) (by
    simp (decide := true) only [dE, dEs, List.getElem?_cons_zero, List.getElem?_cons_succ, ofO, Rw.R.bind_ok]
    rw [hS1]
    exact hn1)]
  simp only [List.set_cons_succ, List.set_cons_zero]
  have H0 : Hs S1 [(1, slowC ⟨ws, 0, 0⟩), (0, .lst (ws.map iV))] := ⟨fun p hp => by
    rw [hS1]
    rcases List.mem_cons.mp hp with rfl | hp
    · rfl
    · rcases List.mem_singleton.mp hp with rfl
      rfl, by simp⟩
  have l1 : S1.length = 2 := by rw [hS1]; rfl
  clear hS1 hn1 hb
  -- no number of sets
  have hc9 := call_cell 10 ns 9 S1 hl (by decide)
  have b9 := cell_bd ns 9
  obtain ⟨c, ec⟩ : ∃ c, c = cell ns 9 := ⟨_, rfl⟩
  rw [← ec] at hc9 b9
  have m11 := mod_bd c (j := 11) (by decide)
  have m99 := mod_bd (c / 11) (j := 99) (by decide)
  obtain ⟨x, hx⟩ : ∃ x, x = c / 11 % 99 := ⟨_, rfl⟩
  rw [← hx] at m99
  let l : List T := [.int 0, .int 3, .int 5, .int 8, .int (-1), .bl true, .bl false, .non, .str (Str.ofString "2"), .tup [.int 2], .int (6 + x)]
  obtain ⟨bad, hbm, eb⟩ := pickT l (i := c % 11) m11.1 (by show _ < (11 : Int); omega)
  have hbad : badSets bad = true := by
    have hbm : bad ∈ [T.int 0, .int 3, .int 5, .int 8, .int (-1), .bl true, .bl false, .non, .str (Str.ofString "2"), .tup [.int 2], .int (6 + x)] := hbm
    simp only [List.mem_cons, List.not_mem_nil, or_false] at hbm
    rcases hbm with rfl | rfl | rfl | rfl | rfl | rfl | rfl | rfl | rfl | rfl | rfl
    all_goals first
    | rfl
    | (show (!(decide (6 + x = 1) || (decide (6 + x = 2) || decide (6 + x = 4)))) = true
       rw [decide_eq_false (by omega : ¬ 6 + x = 1), decide_eq_false (by omega : ¬ 6 + x = 2), decide_eq_false (by omega : ¬ 6 + x = 4)]
       rfl)
  rw [step_set (S1 := S1) (iV c) (by simp (decide := true) [dE, dEs, hc9])]
  simp only [List.set_cons_succ, List.set_cons_zero]
  rw [step_set (S1 := S1) (.t bad) (by
    refine ev_sub (S1 := S1) (S2 := S1) (x := .t (.lst l)) (y := iV (c % 11)) ?_ ?_ ?_
    · simp (decide := true) [dE, dEs, binI_mod, binI_div, l, hx]
    · simp (decide := true) [dE, dEs, binI_mod]
    · show ofT (atL _ _) _ = _
      rw [eb]
      rfl)]
  simp only [List.set_cons_succ, List.set_cons_zero]
  have hns := call_no_sets 9 1 bad hbad S1
  rw [step_ifF (S1 := S1 ++ [.ins 2 []]) (evB_not (k := true) (evB_val (ev_call (evs_cons (ev_var rfl) (evs_cons (ev_var rfl) evs_nil)) hns)))]
  have H1 := H0.push (.ins 2 [])
  rw [l1] at H1
  have l2 : (S1 ++ [Cell.ins 2 []]).length = 3 := by rw [List.length_append, l1]; rfl
  generalize S1 ++ [Cell.ins 2 []] = S2 at *
  -- the near memory
  have hc2 := call_cell 10 ns 2 S2 hl (by decide)
  have m2 := mod_bd (cell ns 2) (j := 3) (by decide)
  obtain ⟨q, hq, hat⟩ := pickI [1, 2, 4] (i := cell ns 2 % 3) m2.1 (by show _ < (3 : Int); omega)
  have hat : atL [T.int 1, T.int 2, T.int 4] (cell ns 2 % 3) = some (.int q) := hat
  obtain ⟨m, hm, em⟩ : ∃ m : Nat, (m = 1 ∨ m = 2 ∨ m = 4) ∧ q = (m : Int) := by
    simp at hq
    rcases hq with rfl | rfl | rfl
    · exact ⟨1, by simp, rfl⟩
    · exact ⟨2, by simp, rfl⟩
    · exact ⟨4, by simp, rfl⟩
  subst em
  have H2 : Hs S2 ((1, slowC ⟨ws, 0, 0⟩) :: [(2, Cell.ins 2 []), (0, .lst (ws.map iV))]) := H1.perm (by
    classical
    refine List.perm_iff_count.mpr fun x => ?_
    simp only [List.count_cons]
    omega)
  obtain ⟨S3, D, hn2, N⟩ := new_near 10 H2 m hm (show ws.length ≤ 64 by omega) (show ((ws.length : Nat) : Int) % 4 = 0 by omega)
  rw [l2] at hn2 N
  have R : Right ⟨⟨ws, 0, 0⟩, List.replicate m []⟩ ws := Right.new ws m (by omega) (by omega) (by omega) (by omega)
  rw [step_set (S1 := S3) (.r 3) (by simp (decide := true) [dE, dEs, hc2, binI_mod, hat, hn2])]
  simp only [List.set_cons_succ, List.set_cons_zero]
  -- the deeds
  have st : St47 S3 z := ⟨_, D, ws, _, N, R, hwl⟩
  clear N R hn2 H2 H1 H0
  rw [step_for (vs := [iV (if 12 < (ns.length : Int) then 12 else (ns.length : Int))]) (its := rng 0 (if 12 < (ns.length : Int) then 12 else (ns.length : Int))) (w := none) (S1 := S3) (S2 := S3) (by simp (decide := true) [dE, dEs, lenV, bltV]) (items_rng1 _ _ (rngOk_of (by split <;> omega) (by split <;> omega)))]
  obtain ⟨e3, S4, hf3, ⟨b7, st4, he3⟩⟩ := forL_keep (many := false) (tg := [7]) (body := fun env S => dSs tab (callF tab 11) b_law_0 env S)
    (fun env S => ∃ (b7 : Option Val), St47 S z ∧ env = [some (.t (.scr ns)), some (iV z), some (.r 0), some (.r 1), some (iV c), some (.t bad), some (.r 3), b7, none, none, none]) (rng 0 (if 12 < (ns.length : Int) then 12 else (ns.length : Int))) _ S3 ⟨none, st, rfl⟩ (by
      rintro v hv env S ⟨b7, st, rfl⟩
      obtain ⟨i, rfl, i0, _⟩ := mem_rng hv
      obtain ⟨S', st', hb⟩ := turn_0 5 ns hl z (by omega) S st i i0 [some (.t (.scr ns)), some (iV z), some (.r 0), some (.r 1), some (iV c), some (.t bad), some (.r 3), some (iV i), none, none, none] rfl rfl rfl rfl
      exact ⟨_, _, S', rfl, hb, _, st', rfl⟩)
  subst he3
  rw [hf3, seq_nx]
  obtain ⟨A, D4, ws4, rest, N, R, hz4⟩ := st4
  have hzA : (A.sl.cells.length : Int) = z := by have := R.len; omega
  have h64 := N.okA.len
  have hh := call_held 9 N
  have hr := call_reads 10 N
  have hw := call_writes 10 N
  have hwh := call_whole 10 N
  rw [stay_set (.t (heldT A)) (ev_meth (ev_var rfl) (mN N (f := 26) (g := 21) rfl rfl rfl) evs_nil hh)]
  simp only [List.set_cons_succ, List.set_cons_zero]
  rw [stay_set (.t (cntT47 A)) (ev_tup (evs_cons (ev_meth (ev_var rfl) (mS N (f := 11) (g := 4) rfl rfl rfl) evs_nil hr) (evs_cons (ev_meth (ev_var rfl) (mS N (f := 12) (g := 5) rfl rfl rfl) evs_nil hw) (evs_cons (ev_meth (ev_var rfl) (mS N (f := 13) (g := 6) rfl rfl rfl) evs_nil hwh) evs_nil))) rfl)]
  simp only [List.set_cons_succ, List.set_cons_zero]
  rw [step_for (vs := [iV 6]) (its := rng 0 6) (w := none) (S1 := S4) (S2 := S4) rfl (items_rng1 _ _ (rngOk_of (by decide) (by decide)))]
  obtain ⟨e5, S5, hf5, ⟨b7', b10, hS5, he5⟩⟩ := forL_keep (many := false) (tg := [7]) (body := fun env S => dSs tab (callF tab 11) b_law_1 env S)
    (fun env S => ∃ (b7 b10 : Option Val), S = S4 ∧ env = [some (.t (.scr ns)), some (iV z), some (.r 0), some (.r 1), some (iV c), some (.t bad), some (.r 3), b7, some (.t (heldT A)), some (.t (cntT47 A)), b10]) (rng 0 6) _ S4 ⟨b7, none, rfl, rfl⟩ (by
      rintro v hv env S ⟨b7, b10, rfl, rfl⟩
      obtain ⟨i, rfl, i0, _⟩ := mem_rng hv
      obtain ⟨b10', hb⟩ := turn_1 5 ns hl z z0 z1 N hzA i i0 (some (.r 0)) (some (iV c)) (some (.t bad)) b10
      exact ⟨_, _, S, rfl, hb, _, _, rfl, rfl⟩)
  subst he5
  subst hS5
  rw [hf5, seq_nx]
  -- the end
  have hco := call_cost 6 N (z - 1) (by omega) (by omega)
  have hlk := call_look 6 N 0 (by decide) (by omega)
  obtain ⟨S6, D6, hg, N6⟩ := call_get 6 N 0 (by decide) (by omega)
  rw [headA_look N.okA] at hg
  have e1 : lookA A 0 = (ws4[(0 : Int).toNat]?).getD 0 := R.v 0 (by decide) (by omega)
  have e2 : lookA (comeA A (0 / 4)) 0 = (ws4[(0 : Int).toNat]?).getD 0 := get_right R (by decide) (by omega)
  have hww := call_whole2 10 (lookA A 0) (lookA (comeA A (0 / 4)) 0) S6
  rw [e1, e2] at hww
  rw [e1] at hlk
  rw [e2] at hg
  have hcI : cmpV .In (iV (costA A (z - 1))) (.t (.tup [.int 1, .int 5, .int 9])) S5 = .ok (.t (.bl true)) S5 := by
    rw [cmpV_t, show cmpT .In (.int (costA A (z - 1))) (.tup [.int 1, .int 5, .int 9]) = inT (.int (costA A (z - 1))) (.tup [.int 1, .int 5, .int 9]) from rfl, cost_in]
    rfl
  rw [step_ret (.t (.bl true)) (S1 := S6) (by
    refine ev_andT (S1 := S5) (ev_cmp (x := iV (costA A (z - 1))) (S1 := S5) (ev_meth (ev_var rfl) (mN N (f := 23) (g := 18) rfl rfl rfl) (evs_cons (ev_bin (x := iV z) (y := iV 1) (S1 := S5) (S2 := S5) (ev_var rfl) (ev_con _) rfl) evs_nil) hco) (ev_tup (evs_cons (ev_con _) (evs_cons (ev_con _) (evs_cons (ev_con _) evs_nil))) rfl) ?_) (ev_and1 (ev_call (evs_cons (ev_meth (ev_var rfl) (mN N (f := 24) (g := 19) rfl rfl rfl) (evs_cons (ev_con _) evs_nil) hlk) (evs_cons (ev_meth (ev_var rfl) (mN N (f := 21) (g := 16) rfl rfl rfl) (evs_cons (ev_con _) evs_nil) hg) evs_nil)) ?_))
    · exact hcI
    · rw [hww, decide_eq_true rfl])]
  rfl
end Rw

namespace Rw
open PySem PySem.Spec PyProof.Rows L2
/-! ### the head -/
def names0 : List PySem.Str := ["MillError", "NoLine", "NoSets", "NoPlace", "IN_LINE", "Slow", "ROOM", "NEAR_COST", "COME_COST", "CHANGED_COST", "Line", "Near", "_law_cell", "_law_word", "_law_words"]
def names1 : List PySem.Str := ["_law_address", "_law_deed_by", "_law_did", "_law_whole", "_law_classes", "_law_no_sets", "_law_no_place", "_law_odd"]
def names : List PySem.Str := names0 ++ names1
abbrev hk : PySem.W.Hook := hookR 4 lawD
def obK (s : PySem.W.SharedT) : AlR := obsRG 4 lawD (HandSHeadRun.getT s)
theorem obK_eq (s : PySem.W.SharedT) : obK s = hk.obs s.abs := obsRG_eq (HandSHeadRun.getT_eq s)
set_option maxHeartbeats 0 in
theorem runK (w : World) : HandSHeadRun.RunEq (PySem.W.OpenLaw.row PySem.Challenge.rw_rowmill_k47_near_refused) (PySem.W.view (PySem.W.OpenLaw.row PySem.Challenge.rw_rowmill_k47_near_refused).prog [27]) hk obK 8000 names w := by
  intro os
  kernel_rfl
set_option maxHeartbeats 0 in
theorem defsOk : lawD.defs.all (defB lawD) = true := by
  decide +kernel
end Rw
open PySem PySem.W PySem.Calls PyProof.Rows
set_option maxRecDepth 100000 in
set_option maxHeartbeats 0 in
theorem PySem.Challenge.cw_rowmill_k47_near_refused_holds : PySem.Challenge.rw_rowmill_k47_near_refused.Holds := by
  w_on; o_law
  refine HandSHeadRun.head_any (r := OpenLaw.row PySem.Challenge.rw_rowmill_k47_near_refused) (q := view (PySem.W.OpenLaw.row PySem.Challenge.rw_rowmill_k47_near_refused).prog [27]) (H := Rw.hk) (ob := Rw.obK) (M := 8000) (loose := Rw.names) (d := HandSHeadRun.topDef (PySem.W.OpenLaw.row PySem.Challenge.rw_rowmill_k47_near_refused).prog 27) (kwd := []) Rw.obK_eq
    (by kernel_rfl) (fun s => by kernel_rfl) Rw.runK (by kernel_rfl) (by kernel_rfl) (by kernel_rfl) (by rfl) (by first | assumption | decide +kernel) (by decide +kernel) ⟨rfl, rfl, rfl, rfl, rfl, by decide +kernel⟩ ?hw ?hc
  case hw => w_witness2
  case hc => exact Rw.walk_rw (L := Rw.lawD) (m := 12) (lawId := 33) rfl (by kernel_rfl) rfl (by kernel_rfl) rfl rfl rfl rfl Rw.defsOk (by decide) Rw.main
