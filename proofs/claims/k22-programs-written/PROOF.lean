import PyProof.Rows.All
import Wide.All
import OpenK.AllK
import Wide.FinOn
import HandS.ForMost
import HandS.ForExc
import KE.DataEq
import KE.KBits
import KE.KStateDown
import HandS.IsInst
import HandS.CallSlots
import HandS.Defaults
import HandS.Sort
import HandS.HeadEnd
import HandS.HeadHook2
import HandS.HeadHook3
import HandS.Head2
import HandS.TupAny
import HandS.Style
import HandS.CallRecv
import HandS.Walk
import HandS.Strs
import HandS.Zip
import HandS.ExcIs
import HandS.TryOnly
import HandS.Flow
import HandS.Conv
import HandS.Dict
import HandS.Small
import HandS.HotCalls
import HandS.Text
import HandS.More
import PyProof.ExcBaseAll.ValueError
import KE.GoesMore
import PySem.Challenge.RW_rowmill_k22_programs_written
set_option Elab.async false
set_option linter.all false
set_option maxRecDepth 100000
set_option maxHeartbeats 4000000
/-! A small language for what the laws' Python says, and what it means: plain Lean, no model in sight. -/
namespace Rw
open PySem L2

/-- values that never change, as trees -/
inductive T where
  | non | bl (b : Bool) | int (i : Int) | str (x : Str)
  | tup (xs : List T) | lst (xs : List T)
  | ins (c : Nat) (fs : List (Nat × T))
  | dct (kvs : List (Key × T))
  | fn (g : Nat)
  | scr (ns : List Int)
  | exn (c : Nat) (fs : List (Nat × T))
/-- a tree, or a cell of the store -/
inductive Val where
  | t (x : T) | r (n : Nat)
inductive Cell where
  | dead | lst (xs : List Val) | ins (c : Nat) (fs : List (Nat × Val)) | dct (kvs : List (Key × Val))
abbrev Store := List Cell
structure Exn where
  c : Nat
  fs : List (Nat × T)
inductive R (α : Type) where
  | ok (a : α) (S : Store) | ex (x : Exn) (S : Store) | bad
def R.bind {α β : Type} (m : R α) (k : α → Store → R β) : R β := match m with
  | .ok a S => k a S
  | .ex x S => .ex x S
  | .bad => .bad
/-- .. where nothing is raised -/
def R.nob {α β : Type} (m : R α) (k : α → Store → R β) : R β := match m with
  | .ok a S => k a S
  | _ => .bad
@[simp] theorem R.nob_ok {α β : Type} (a : α) (S : Store) (k : α → Store → R β) : (R.ok a S).nob k = k a S := rfl
@[simp] theorem R.bind_ok {α β : Type} (a : α) (S : Store) (k : α → Store → R β) : (R.ok a S).bind k = k a S := rfl
@[simp] theorem R.bind_ex {α β : Type} (x : Exn) (S : Store) (k : α → Store → R β) : (R.ex x S : R α).bind k = .ex x S := rfl
@[simp] theorem R.bind_bad {α β : Type} (k : α → Store → R β) : (R.bad : R α).bind k = .bad := rfl

inductive Blt where
  | len | int | str | min2 | max2 | abs | list | tuple | all | any | sum | minl | maxl | divmod | sorted | bool
  deriving DecidableEq
inductive Ty where
  | int | bool | str | list | tuple | dict | cls (c : Nat)
  deriving DecidableEq
inductive BM where
  | append | pop | popi | insert | extend | index | count
  deriving DecidableEq
inductive ItK where
  | seq | range | enum | zip
  deriving DecidableEq

mutual
inductive IE where
  | var (i : Nat) | con (t : T) | glob (g : Nat)
  | bin (op : Operator) (a b : IE) | binM (op : Operator) (a b : IE) | neg (a : IE)
  | cmp (op : CmpOp) (a b : IE) | cmp2 (o p : CmpOp) (a b c : IE)
  | not (a : IE) | ands (es : IEs) | ors (es : IEs) | ife (t : IC) (a b : IE)
  | tup (es : IEs) | lst (m : Bool) (es : IEs)
  | sub (a i : IE) | slc (m : Bool) (a lo hi : IE) | rev (m : Bool) (a : IE)
  | fld (o : IE) (f : Nat)
  | call (f : Nat) (es : IEs) | new (c : Nat) (es : IEs) | meth (o : IE) (f : Nat) (es : IEs)
  | blt (b : Blt) (m : Bool) (es : IEs)
  | isi (e : IE) (many : Bool) (ts : List Ty)
  | exIs (i : Nat) (many : Bool) (ts : List (Option Nat)) | hot (f i : Nat)
  | bm (b : BM) (m : Bool) (o : IE) (es : IEs)
  | cix (g : Nat) (e : IE) | lenSet (e : IE) | join (a : IE) (es : IEs) | dget (g : Nat) (e : IE) | tcount (a : IE) (es : IEs) | listRg (e : IE) | inRg (neg : Bool) (a b : IE) | dct0 | dct1 (k v : Int) | dctD (m : Bool) (ks : List Key) (es : IEs) | upd (o e : IE)
  | comp (m : Bool) (k : ItK) (src : IEs) (many : Bool) (tg : List Nat) (ifs : ICs) (elt : IE)
inductive IEs where
  | nil | cons (e : IE) (es : IEs)
/-- a test -/
inductive IC where
  | val (e : IE) | not (c : IC) | ands (cs : ICs) | ors (cs : ICs)
inductive ICs where
  | nil | cons (c : IC) (cs : ICs)
end
mutual
inductive IS where
  | pass | expr (e : IE) | set (i : Nat) (e : IE) | setT (is : List Nat) (e : IE) | setF (o : IE) (f : Nat) (e : IE) | setS (o i e : IE) | setL (o lo hi e : IE)
  | aug (i : Nat) (op : Operator) (e : IE) | augF (o : IE) (f : Nat) (op : Operator) (e : IE)
  | ife (t : IC) (a b : ISs)
  | for_ (k : ItK) (src : IEs) (many : Bool) (tg : List Nat) (body : ISs)
  | while_ (n : Nat) (t : IC) (body : ISs)
  | ret (e : IE) | retN | raise (c : Nat) (es : IEs) | try_ (body : ISs) (cs : List Nat) (nm : Option Nat) (suite : ISs)
  | cont | brk
inductive ISs where
  | nil | cons (s : IS) (ss : ISs)
end

structure Fn where
  pure : Bool
  np : Nat
  ns : Nat
  dfl : List T
  body : ISs
  hot : Bool := false
structure Cl where
  frozen : Bool
  init : Option Nat
  flds : List Nat
  meths : List (Nat × Nat)
  sup : List Nat
structure Tab where
  fn : Nat → Option Fn
  cl : Nat → Option Cl
  con : Nat → Option T
  exc : Nat → Option (List Nat)
  exr : Nat → Bool := fun _ => true
  dc : Nat → Option (List (Str × T)) := fun _ => none

def arity (tab : Tab) (f m : Nat) : Bool := match tab.fn f with
  | some d => (decide (m ≤ d.np) && decide (d.np - m ≤ d.dfl.length)) && !d.hot
  | none => false
def IEs.len : IEs → Nat
  | .nil => 0
  | .cons _ es => es.len + 1
abbrev Env := List (Option Val)
abbrev Call := Nat → List Val → Store → R Val

/-! ### operations on trees -/
def szLine : Nat := 16777216
def bigI (i : Int) : Bool := decide (i.natAbs < 18446744073709551616)
def binI (op : Operator) (i j : Int) : Option Int := match op with
  | .Add => some (i + j)
  | .Sub => some (i - j)
  | .Mult => if bigI i || bigI j then some (i * j) else none
  | .FloorDiv => if 0 < j ∧ j.toNat < 1073741824 then some (i / j) else none
  | .Mod => if 0 < j then some (i % j) else none
  | .Pow => if (0 ≤ j ∧ j.toNat ≤ 1000000) ∧ i.natAbs < 18446744073709551616 then some (i ^ j.toNat) else none
  | .LShift => if (0 ≤ j ∧ j.toNat ≤ 1000000) ∧ i.natAbs < 18446744073709551616 then some (i * 2 ^ j.toNat) else none
  | .RShift => if 0 ≤ j then some (i / 2 ^ j.toNat) else none
  | .BitAnd => some (Builtin.bitAnd i j)
  | .BitOr => some (Builtin.bitOr i j)
  | .BitXor => some (Builtin.bitXor i j)
  | _ => none
def binT (op : Operator) : T → T → Option T
  | .int i, .int j => (binI op i j).map .int
  | .str x, .str y => if op = .Add ∧ x.length + y.length ≤ szLine then some (.str (x ++ y)) else none
  | .str x, .int k => if op = .Mult ∧ (0 ≤ k ∧ k ≤ 8) ∧ x.length ≤ 1000 then some (.str (Txt.mul x k)) else none
  | _, _ => none

mutual
def T.py : T → Option PyData
  | .non => some .none
  | .bl b => some (.bool b)
  | .int i => some (.int i)
  | .str x => some (.str x)
  | .tup xs => (T.pys xs).map .tuple
  | .lst xs => (T.pys xs).map .list
  | .scr ns => some (.list (ns.map .int))
  | _ => none
def T.pys : List T → Option (List PyData)
  | [] => some []
  | x :: xs => match T.py x with
    | some d => (T.pys xs).map (d :: ·)
    | none => none
end
def eqT (a b : T) : Option Bool := match a.py, b.py with
  | some d, some e => if min d.depth e.depth ≤ 60 then some (PyData.eqv d e) else none
  | _, _ => none
def isNon : T → Bool
  | .non => true
  | _ => false
def isB : T → T → Option Bool
  | .bl a, .bl b => some (a == b)
  | _, _ => none
def ordT (op : CmpOp) (i j : Int) : Bool := match op with
  | .Lt => decide (i < j)
  | .LtE => decide (i ≤ j)
  | .Gt => decide (j < i)
  | .GtE => decide (j ≤ i)
  | _ => false
def ordO (op : CmpOp) : T → T → Option Bool
  | .int i, .int j => some (ordT op i j)
  | _, _ => none
def inT (a b : T) : Option Bool := match a.py, b with
  | some d, .lst xs => (T.pys xs).bind fun ds => if min (PyData.depthAll ds) d.depth ≤ 60 then some (ds.any fun y => PyData.eqv y d) else none
  | some d, .tup xs => (T.pys xs).bind fun ds => if min (PyData.depthAll ds) d.depth ≤ 60 then some (ds.any fun y => PyData.eqv y d) else none
  | some _, .str y => match a with
    | .str x => some (!(Builtin.Str.occurrences y x 0 y.length 1).isEmpty)
    | _ => none
  | _, _ => none
def cmpT (op : CmpOp) (a b : T) : Option Bool := match op with
  | .Eq => eqT a b
  | .NotEq => (eqT a b).map not
  | .In => inT a b
  | .NotIn => (inT a b).map not
  | .Is => if isNon b then some (isNon a) else isB a b
  | .IsNot => if isNon b then some (!isNon a) else none
  | _ => ordO op a b
def truT : T → Option Bool
  | .bl b => some b
  | .non => some false
  | .int i => some (i != 0)
  | .str x => if x.length ≤ szLine then some ((x.length : Int) != 0) else none
  | .tup xs => some (!xs.isEmpty)
  | .lst xs => some (!xs.isEmpty)
  | .scr ns => some (!ns.isEmpty)
  | _ => none

/-! ### the store -/
def allT : List Val → Option (List T)
  | [] => some []
  | .t x :: vs => (allT vs).map (x :: ·)
  | .r _ :: _ => none
def allF : List (Nat × Val) → Option (List (Nat × T))
  | [] => some []
  | (f, .t x) :: vs => (allF vs).map ((f, x) :: ·)
  | (_, .r _) :: _ => none
/-- what can be read of a value, as a tree -/
def peek (S : Store) : Val → Option T
  | .t x => some x
  | .r n => match S[n]? with
    | some (.lst vs) => (allT vs).map .lst
    | _ => none
/-- a value as a tree for good: a cell that is one is dead behind it -/
def toT (S : Store) : Val → Option (T × Store)
  | .t x => some (x, S)
  | .r n => match S[n]? with
    | some (.lst vs) => (allT vs).map fun xs => (.lst xs, S.set n .dead)
    | some (.ins c fs) => (allF fs).map fun xs => (.ins c xs, S.set n .dead)
    | _ => none
/-- several values as trees for good -/
def buryS : List Val → Store → Option (List T × Store)
  | [], S => some ([], S)
  | v :: vs, S => match toT S v with
    | some (x, S1) => (match buryS vs S1 with
      | some (xs, S2) => some (x :: xs, S2)
      | none => none)
    | none => none
/-! keys -/
def keyEq : Key → Key → Bool
  | .inl i, .inl j => i == j
  | .inr x, .inr y => x == y
  | _, _ => false
def lookK {α : Type} : List (Key × α) → Key → Option α
  | [], _ => none
  | p :: r, k => if keyEq p.1 k then some p.2 else lookK r k
def putKV {α : Type} (kvs : List (Key × α)) (k : Key) (v : α) : List (Key × α) :=
  if kvs.any (fun p => keyEq p.1 k) then kvs.map (fun p => if keyEq p.1 k then (p.1, v) else p) else kvs ++ [(k, v)]
def mergeKV {α : Type} (kvs more : List (Key × α)) : List (Key × α) := more.foldl (fun acc p => putKV acc p.1 p.2) kvs
def keyT : T → Option Key
  | .int i => some (.inl i)
  | .str x => some (.inr x)
  | _ => none
def nodupK : List Key → Bool
  | [] => true
  | k :: ks => !ks.any (fun j => keyEq j k) && nodupK ks
/-- a list's items, laid open -/
def listV (S : Store) : Val → Option (List Val)
  | .t (.lst xs) => some (xs.map .t)
  | .t (.scr ns) => some (ns.map fun n => .t (.int n))
  | .r n => match S[n]? with
    | some (.lst vs) => some vs
    | _ => none
  | _ => none
def alloc (m : Bool) (vs : List Val) (S : Store) : R Val :=
  if vs.length ≤ szLine then
    if m then .ok (.r S.length) (S ++ [.lst vs])
    else match allT vs with
      | some xs => .ok (.t (.lst xs)) S
      | none => .bad
  else .bad
def ofO {α : Type} (o : Option α) (S : Store) : R α := match o with
  | some x => .ok x S
  | none => .bad
@[simp] theorem ofO_some {α : Type} (x : α) (S : Store) : ofO (some x) S = .ok x S := rfl
@[simp] theorem ofO_none {α : Type} (S : Store) : ofO (none : Option α) S = .bad := rfl
def ofT (o : Option T) (S : Store) : R Val := match o with
  | some x => .ok (.t x) S
  | none => .bad
@[simp] theorem ofT_some (x : T) (S : Store) : ofT (some x) S = .ok (.t x) S := rfl
@[simp] theorem ofT_none (S : Store) : ofT none S = .bad := rfl
def lstT (S : Store) : Val → Option (List T)
  | .t (.lst xs) => some xs
  | .r n => match S[n]? with
    | some (.lst vs) => allT vs
    | _ => none
  | _ => none
/-- o[lo:hi] = a list that is a tree -/
def setLV (a lo hi v : Val) (S : Store) : Option Store := match a, lo, hi, v with
  | .r n, .t (.int i), .t (.int j), .t (.lst ys) => (match S[n]? with
    | some (.lst xs) => if 0 ≤ i ∧ i ≤ j ∧ j ≤ xs.length ∧ xs.length + ys.length ≤ szLine then some (S.set n (.lst (xs.take i.toNat ++ ys.map .t ++ xs.drop j.toNat))) else none
    | _ => none)
  | _, _, _, _ => none
def needCalm : Blt → Bool
  | .min2 => true
  | .max2 => true
  | .all => true
  | .any => true
  | .sum => true
  | _ => false
def isL : Val → Bool
  | .t (.lst _) => true
  | .r _ => true
  | _ => false
/-- a list's items, laid open, of what is no script -/
def lstV (S : Store) : Val → Option (List Val)
  | .t (.lst xs) => some (xs.map .t)
  | .r n => match S[n]? with
    | some (.lst vs) => some vs
    | _ => none
  | _ => none
def binL (m : Bool) (op : Operator) (a b : Val) (S : Store) : R Val := match lstV S a with
  | none => .bad
  | some xs => (match op with
    | .Add => (match lstV S b with
      | some ys => alloc m (xs ++ ys) S
      | none => .bad)
    | .Mult => (match b with
      | .t (.int k) => if k.natAbs < 9223372036854775808 then alloc m (List.replicate k.toNat xs).flatten S else .bad
      | _ => .bad)
    | _ => .bad)
/-- ints and texts -/
def binA (op : Operator) (a b : Val) (S : Store) : R Val := match a, b with
  | .t x, .t y => ofT (binT op x y) S
  | _, _ => .bad
def catT (op : Operator) (a b : Val) (S : Store) : R Val := match op, a, b with
  | .Add, .t (.tup xs), .t (.tup ys) => if xs.length + ys.length ≤ szLine then .ok (.t (.tup (xs ++ ys))) S else .bad
  | _, _, _ => .bad
def isTu : Val → Bool
  | .t (.tup _) => true
  | _ => false
def binV (op : Operator) (a b : Val) (S : Store) : R Val := if isL a then binL false op a b S else if isTu a then catT op a b S else binA op a b S
def cmpW (op : CmpOp) (a b : Val) (S : Store) : R Val := match peek S a, peek S b with
  | some x, some y => ofT ((cmpT op x y).map .bl) S
  | _, _ => .bad
def cmpV (op : CmpOp) (a b : Val) (S : Store) : R Val := match op, a, b with
  | .Is, .r _, .t .non => .ok (.t (.bl false)) S
  | .IsNot, .r _, .t .non => .ok (.t (.bl true)) S
  | op, a, b => cmpW op a b S
def ix (n : Nat) (i : Int) : Option Nat := if 0 ≤ i then (if i < n then some i.toNat else none) else if -(n : Int) ≤ i then some (i + n).toNat else none
def atL {α : Type} (xs : List α) (i : Int) : Option α := (ix xs.length i).bind fun j => xs[j]?
def subV (a i : Val) (S : Store) : R Val := match a, i with
  | .t (.lst xs), .t (.int k) => ofT (atL xs k) S
  | .t (.tup xs), .t (.int k) => ofT (atL xs k) S
  | .t (.scr ns), .t (.int k) => ofT ((atL ns k).map .int) S
  | .t (.str x), .t (.int k) => if x.length ≤ szLine then ofT ((atL x.cps.toList k).map fun c => .str ⟨#[c]⟩) S else .bad
  | .r n, .t (.int k) => (match S[n]? with
    | some (.lst vs) => ofO (atL vs k) S
    | some (.dct kvs) => ofO (lookK kvs (.inl k)) S
    | _ => .bad)
  | .r n, .t (.str x) => (match S[n]? with
    | some (.dct kvs) => ofO (lookK kvs (.inr x)) S
    | _ => .bad)
  | .t (.dct kvs), .t (.int k) => ofT (lookK kvs (.inl k)) S
  | .t (.dct kvs), .t (.str x) => ofT (lookK kvs (.inr x)) S
  | _, _ => .bad
/-- what a dict holds -/
def dctOf (S : Store) : Val → Option (List (Key × Val))
  | .t (.dct kvs) => some (kvs.map fun p => (p.1, .t p.2))
  | .r n => (match S[n]? with
    | some (.dct kvs) => some kvs
    | _ => none)
  | _ => none
def sameR : Val → Val → Bool
  | .r n, .r m => n == m
  | _, _ => false
def dctV (m : Bool) (ks : List Key) (vs : List Val) (S : Store) : R Val :=
  if m then .ok (.r S.length) (S ++ [.dct (ks.zip vs)])
  else match allT vs with
    | some xs => .ok (.t (.dct (ks.zip xs))) S
    | none => .bad
def dctB (a : Val) (S : Store) : Bool := match a with
  | .r n => (match S[n]? with
    | some (.dct _) => true
    | _ => false)
  | _ => false
def updV (a b : Val) (S : Store) : R Val := match a with
  | .r n => (match S[n]? with
    | some (.dct kvs) => if sameR a b then .bad else (match dctOf S b with
      | some more => if kvs.length + more.length < 1000 then .ok (.t .non) (S.set n (.dct (mergeKV kvs more))) else .bad
      | none => .bad)
    | _ => .bad)
  | _ => .bad
def clT (tab : Tab) (d : Nat) : T → Option Bool
  | .ins c _ => (tab.cl c).map fun k => k.sup.contains d
  | .fn _ => none
  | .exn _ _ => none
  | _ => some false
def tyT (tab : Tab) (t : Ty) (x : T) : Option Bool := match t with
  | .cls d => (match tab.cl d with
    | none => none
    | some _ => clT tab d x)
  | t => (match x with
    | .non => some false
    | .bl _ => some (t == .bool || t == .int)
    | .int _ => some (t == .int)
    | .str _ => some (t == .str)
    | .tup _ => some (t == .tuple)
    | .lst _ => some (t == .list)
    | .scr _ => some (t == .list)
    | .dct _ => some (t == .dict)
    | .ins c _ => (tab.cl c).map fun _ => false
    | .fn _ => none
    | .exn _ _ => none)
def anyTy (tab : Tab) (x : T) : List Ty → Option Bool
  | [] => some false
  | t :: ts => match tyT tab t x with
    | some true => some true
    | some false => anyTy tab x ts
    | none => none
/-- a value's outermost form -/
def shell (S : Store) : Val → Option T
  | .t x => some x
  | .r n => match S[n]? with
    | some (.lst _) => some (.lst [])
    | some (.ins c _) => some (.ins c [])
    | some (.dct _) => some (.dct [])
    | _ => none
def isiV (tab : Tab) (ts : List Ty) (a : Val) (S : Store) : R Val := match shell S a with
  | some x => ofT ((anyTy tab x ts).map .bl) S
  | none => .bad
def lenV (a : Val) (S : Store) : R Val := match a with
  | .t (.lst xs) => .ok (.t (.int xs.length)) S
  | .t (.tup xs) => .ok (.t (.int xs.length)) S
  | .t (.scr ns) => .ok (.t (.int ns.length)) S
  | .t (.str x) => if x.length ≤ szLine then .ok (.t (.int x.length)) S else .bad
  | .r n => (match S[n]? with
    | some (.lst vs) => .ok (.t (.int vs.length)) S
    | _ => .bad)
  | _ => .bad
def allB : List Val → Option (List Bool)
  | [] => some []
  | .t (.bl b) :: vs => (allB vs).map (b :: ·)
  | _ :: _ => none
def allI : List Val → Option (List Int)
  | [] => some []
  | .t (.int i) :: vs => (allI vs).map (i :: ·)
  | _ :: _ => none
def cutL {α : Type} (xs : List α) (lo hi : Option Int) : List α := (xs.drop (HT.sIx xs.length 0 lo)).take (HT.sIx xs.length xs.length hi - HT.sIx xs.length 0 lo)
def slcV (m : Bool) (a : Val) (lo hi : Option Int) (S : Store) : R Val := match a, listV S a with
  | .t (.tup xs), _ => .ok (.t (.tup (cutL xs lo hi))) S
  | _, some vs => alloc m (cutL vs lo hi) S
  | _, none => .bad
def revV (m : Bool) (a : Val) (S : Store) : R Val := match listV S a with
  | some vs => alloc m vs.reverse S
  | none => .bad
def isNo : IE → Bool
  | .con .non => true
  | _ => false
def putN (f : Nat) (v : Val) : List (Nat × Val) → List (Nat × Val)
  | [] => [(f, v)]
  | (g, w) :: r => if g = f then (g, v) :: r else (g, w) :: putN f v r
def cellB (a : Val) (S : Store) : Bool := match a with
  | .r n => (match S[n]? with
    | some (.lst _) => true
    | _ => false)
  | .t (.lst _) => true
  | _ => false
def flatT : T → Bool
  | .int _ => true
  | .str _ => true
  | _ => false
def flEq : T → T → Bool
  | .int a, .int b => a == b
  | .str a, .str b => a == b
  | _, _ => false
def flatU : T → Bool
  | .non => true
  | .bl _ => true
  | .int _ => true
  | .str _ => true
  | _ => false
def flU : T → T → Bool
  | .non, .non => true
  | .bl a, .bl b => a == b
  | .bl a, .int b => (if a then 1 else 0) == b
  | .int a, .bl b => a == (if b then 1 else 0)
  | .int a, .int b => a == b
  | .str a, .str b => a == b
  | _, _ => false
/-- the first place of one that is equal: flat things; how many there are -/
def idxT (xs : List T) (y : T) : Option Nat := if xs.all flatU && flatU y then xs.findIdx? fun x => flU x y else none
def cntT (xs : List T) (y : T) : Option Nat := if xs.all flatU && flatU y then some (xs.countP fun x => flU x y) else none
/-- i in range(n) -/
def inRgV (neg : Bool) (a b : Val) (S : Store) : R Val := match a, b with
  | .t (.int i), .t (.int n) => .ok (.t (.bl (if neg then !decide (0 ≤ i ∧ i < n) else decide (0 ≤ i ∧ i < n)))) S
  | _, _ => .bad
/-- a method of a list -/
def bmV (b : BM) (a : Val) (vs : List Val) (S : Store) : R Val := match a with
  | .r n => (match S[n]? with
    | some (.lst ws) => (match b, vs with
      | .append, [v] => if ws.length < szLine then .ok (.t .non) (S.set n (.lst (ws ++ [v]))) else .bad
      | .insert, [.t (.int i), v] => if ws.length < szLine ∧ 0 ≤ i ∧ i < 1048576 then .ok (.t .non) (S.set n (.lst (ws.take i.toNat ++ [v] ++ ws.drop i.toNat))) else .bad
      | .pop, [] => (match ws[ws.length - 1]? with
        | some v => .ok v (S.set n (.lst ws.dropLast))
        | none => .bad)
      | .popi, [.t (.int i)] => if ws.length ≤ szLine then (match ix ws.length i with
        | some k => (match ws[k]? with
          | some v => .ok v (S.set n (.lst (ws.eraseIdx k)))
          | none => .bad)
        | none => .bad) else .bad
      | _, _ => .bad)
    | _ => .bad)
  | .t (.lst xs) => (match b, vs with
    | .index, [.t y] => (match idxT xs y with
      | some j => .ok (.t (.int (j : Nat))) S
      | none => .bad)
    | .count, [.t y] => (match cntT xs y with
      | some j => .ok (.t (.int (j : Nat))) S
      | none => .bad)
    | _, _ => .bad)
  | _ => .bad
def setSV (a i v : Val) (S : Store) : Option Store := match a, i with
  | .r n, .t (.int k) => (match S[n]? with
    | some (.lst ws) => (ix ws.length k).map fun j => S.set n (.lst (ws.set j v))
    | some (.dct kvs) => if kvs.length < 1000 then some (S.set n (.dct (putKV kvs (.inl k) v))) else none
    | _ => none)
  | .r n, .t (.str x) => (match S[n]? with
    | some (.dct kvs) => if kvs.length < 1000 then some (S.set n (.dct (putKV kvs (.inr x) v))) else none
    | _ => none)
  | _, _ => none
/-- a class's field -/
def fldB (tab : Tab) (c f : Nat) : Bool := match tab.cl c with
  | some k => k.flds.contains f
  | none => false
def setFV (tab : Tab) (a : Val) (f : Nat) (v : Val) (S : Store) : Option Store := match a with
  | .r n => (match S[n]? with
    | some (.ins c fs) => if fldB tab c f && decide (fs.length < 1000) then some (S.set n (.ins c (putN f v fs))) else none
    | _ => none)
  | _ => none
def bltV (b : Blt) (m : Bool) (vs : List Val) (S : Store) : R Val := match b, vs with
  | .len, [a] => lenV a S
  | .int, [.t (.int i)] => .ok (.t (.int i)) S
  | .int, [.t (.bl k)] => .ok (.t (.int (if k then 1 else 0))) S
  | .str, [.t (.int i)] => if i.natAbs.log2 < 1920 then .ok (.t (.str (Str.ofString (toString i)))) S else .bad
  | .min2, [.t (.int i), .t (.int j)] => .ok (.t (.int (if j < i then j else i))) S
  | .max2, [.t (.int i), .t (.int j)] => .ok (.t (.int (if j > i then j else i))) S
  | .abs, [.t (.int i)] => .ok (.t (.int (if i < 0 then -i else i))) S
  | .list, [a] => (match a, listV S a with
    | .t (.tup xs), _ => alloc m (xs.map .t) S
    | _, some vs => alloc m vs S
    | _, none => .bad)
  | .tuple, [a] => (match a, listV S a with
    | .t (.tup xs), _ => .ok (.t (.tup xs)) S
    | _, some vs => if vs.length ≤ szLine then ofT ((allT vs).map .tup) S else .bad
    | _, none => .bad)
  | .all, [a] => ofT (((listV S a).bind allB).map fun bs => .bl (bs.all id)) S
  | .any, [a] => ofT (((listV S a).bind allB).map fun bs => .bl (bs.any id)) S
  | .sum, [a] => ofT (((listV S a).bind allI).map fun ns => .int ns.sum) S
  | .sorted, [a] => (match (listV S a).bind allI with
    | some ns => if ns.length < 64 then alloc m ((ns.mergeSort (fun i j => decide (i ≤ j))).map fun i => .t (.int i)) S else .bad
    | none => .bad)
  | .divmod, [.t (.int i), .t (.int j)] => if 0 < j ∧ j.toNat < 1073741824 then .ok (.t (.tup [.int (i / j), .int (i % j)])) S else .bad
  | .bool, [.t (.int i)] => .ok (.t (.bl (i != 0))) S
  | .bool, [.t (.bl k)] => .ok (.t (.bl k)) S
  | _, _ => .bad
/-- the items of what is walked -/
def rng (lo hi : Int) : List Val := (List.range (hi - lo).toNat).map fun (i : Nat) => Val.t (T.int (lo + Int.ofNat i))
def rngOk (i : Int) : Bool := decide (i.natAbs < 4611686018427387904)
/-- a cell that is walked, and what it holds while it is -/
abbrev Wk : Type := Option (Nat × List Val)
def okW (w : Wk) (S : Store) : Prop := match w with
  | none => True
  | some (n, its) => S[n]? = some (.lst its)
noncomputable instance okW.dec (w : Wk) (S : Store) : Decidable (okW w S) := match w with
  | none => .isTrue trivial
  | some p => Classical.propDecidable _
def items (k : ItK) (vs : List Val) (S : Store) : R (List Val × Wk) := match k, vs with
  | .seq, [.t (.lst xs)] => .ok (xs.map .t, none) S
  | .seq, [.t (.tup xs)] => .ok (xs.map .t, none) S
  | .seq, [.t (.scr ns)] => .ok (ns.map fun n => .t (.int n), none) S
  | .seq, [.r n] => (match S[n]? with
    | some (.lst ws) => .ok (ws, some (n, ws)) S
    | _ => .bad)
  | .zip, [.t (.str x), .t (.tup ys)] => .ok ((x.cps.toList.zip ys).map fun p => .t (.tup [.str ⟨#[p.1]⟩, p.2]), none) S
  | .range, [.t (.int n)] => if rngOk n then .ok (rng 0 n, none) S else .bad
  | .range, [.t (.int a), .t (.int b)] => if rngOk a && rngOk b then .ok (rng a b, none) S else .bad
  | _, _ => .bad
def setMany (env : Env) : List Nat → List Val → Option Env
  | [], [] => some env
  | i :: is, x :: xs => setMany (env.set i (some x)) is xs
  | _, _ => none
/-- a target: one name, or several -/
def target (many : Bool) (tg : List Nat) (v : Val) (env : Env) (S : Store) : Option Env := match many, tg, v with
  | false, [i], v => some (env.set i (some v))
  | true, is, .t (.tup xs) => setMany env is (xs.map .t)
  | true, is, .t (.lst xs) => setMany env is (xs.map .t)
  | true, is, .r n => (match S[n]? with
    | some (.lst vs) => setMany env is vs
    | _ => none)
  | _, _, _ => none

/-- a tuple: cells in it are trees for good -/
@[simp] def tupV (vs : List Val) (S : Store) : R Val := if (allT vs).isSome then ofT ((allT vs).map .tup) S else (match buryS vs S with
  | some (xs, S1) => .ok (.t (.tup xs)) S1
  | none => .bad)
/-- a list that is displayed: a cell, or a tree; cells in it are trees for good -/
@[simp] def dispL (m : Bool) (vs : List Val) (S : Store) : R Val := if m || (allT vs).isSome then alloc m vs S else (if vs.length ≤ szLine then (match buryS vs S with
  | some (xs, S1) => .ok (.t (.lst xs)) S1
  | none => .bad) else .bad)
/-! ### expressions -/
section
variable (tab : Tab) (call : Call)
def wipeE (env : Env) : List Nat → Env
  | [] => env
  | v :: vs => (wipeE env vs).set v none
/-- a comprehension's loop -/
noncomputable def compL (w : Wk) (f : Val → Store → R (Option Val)) : List Val → List Val → Store → R (List Val)
  | [], acc, S => if okW w S then .ok acc S else .bad
  | v :: vs, acc, S => if okW w S then ((f v S).nob fun o S1 => match o with
    | some y => if acc.length < szLine then compL w f vs (acc ++ [y]) S1 else .bad
    | none => compL w f vs acc S1) else .bad
theorem compL_bad {w : Wk} {f : Val → Store → R (Option Val)} {l acc : List Val} {S : Store} (h : ¬ okW w S) : compL w f l acc S = .bad := by
  cases l <;> (unfold compL; exact if_neg h)
theorem compL_nil {w : Wk} {f : Val → Store → R (Option Val)} {acc : List Val} {S : Store} (h : okW w S) : compL w f [] acc S = .ok acc S := by
  unfold compL
  exact if_pos h
theorem compL_cons {w : Wk} {f : Val → Store → R (Option Val)} {v : Val} {vs acc : List Val} {S : Store} (h : okW w S) : compL w f (v :: vs) acc S = (f v S).nob fun o S1 => match o with
    | some y => if acc.length < szLine then compL w f vs (acc ++ [y]) S1 else .bad
    | none => compL w f vs acc S1 := by
  rw [compL]
  exact if_pos h
def fldV (a : Val) (f : Nat) (S : Store) : R Val := match a with
  | .t (.ins c fs) => if fldB tab c f then ofT (fs.lookup f) S else .bad
  | .r n => (match S[n]? with
    | some (.ins c fs) => if fldB tab c f then ofO (fs.lookup f) S else .bad
    | _ => .bad)
  | _ => .bad
/-- an instance's class -/
def insC (a : Val) (S : Store) : Option Nat := match a with
  | .t (.ins c _) => some c
  | .r n => (match S[n]? with
    | some (.ins c _) => some c
    | _ => none)
  | _ => none
/-- a tuple of texts -/
def strsT : List T → Option (List Str)
  | [] => some []
  | .str x :: xs => (strsT xs).map (x :: ·)
  | _ :: _ => none
/-- where a text stands first in a constant -/
def cixV (o : Option T) (a : Val) (S : Store) : R Val := match o, a with
  | some (.tup ts), .t (.str z) => (match strsT ts with
    | some ys => (match ys.findIdx? (fun y => y == z) with
      | some j => .ok (.t (.int (j : Nat))) S
      | none => .bad)
    | none => .bad)
  | _, _ => .bad
def nodupI : List Int → Bool
  | [] => true
  | i :: is => !is.contains i && nodupI is
/-- len(set(..)) of ints that are all other ones -/
def lenSetV (a : Val) (S : Store) : R Val := match listV S a with
  | some vs => (match allI vs with
    | some ns => if nodupI ns && decide (ns.length ≤ 4000) then .ok (.t (.int ns.length)) S else .bad
    | none => .bad)
  | none => .bad
def optI (a : Val) (S : Store) : R (Option Int) := match a with
  | .t (.int i) => .ok (some i) S
  | _ => .bad
def ariV (m : Nat) (g : Option Nat) (S : Store) : R Nat := match g with
  | some g => if arity tab g m then .ok g S else .bad
  | none => .bad
/-- a class's method that a value has -/
def methV (f m : Nat) (a : Val) (S : Store) : R Nat := match a with
  | .t (.ins c fs) => if (fs.lookup f).isNone then ariV tab m ((tab.cl c).bind fun k => k.meths.lookup f) S else .bad
  | .r n => (match S[n]? with
    | some (.ins c fs) => if (fs.lookup f).isNone then ariV tab m ((tab.cl c).bind fun k => k.meths.lookup f) S else .bad
    | _ => .bad)
  | _ => .bad
def finV (frozen : Bool) (n : Nat) (S : Store) : R Val := if frozen then (match toT S (.r n) with
    | some (x, S1) => .ok (.t x) S1
    | none => .bad)
  else .ok (.r n) S
/-- a new instance -/
def newV (c : Nat) (vs : List Val) (S : Store) : R Val := match tab.cl c with
  | none => .bad
  | some k => (match k.init with
    | none => if vs.isEmpty then finV k.frozen S.length (S ++ [.ins c []]) else .bad
    | some f => (call f (.r S.length :: vs) (S ++ [.ins c []])).bind fun v S1 => (match v with
      | .t .non => finV k.frozen S.length S1
      | _ => .bad))
def truV (a : Val) (S : Store) : R Bool := match a with
  | .t x => ofO (truT x) S
  | .r n => (match S[n]? with
    | some (.lst vs) => .ok (!vs.isEmpty) S
    | _ => .bad)
/-- is an exception of class c under one of these; none is ValueError -/
def exAny (c : Nat) : List (Option Nat) → Option Bool
  | [] => some false
  | none :: _ => some true
  | some d :: ts => (match tab.exc c with
    | some l => if (tab.exc d).isSome then (if l.contains d then some true else exAny c ts) else none
    | none => none)
def exIsV (ts : List (Option Nat)) (o : Option (Option Val)) (S : Store) : R Val := match o with
  | some (some (.t (.exn c [])) ) => ofT ((exAny tab c ts).map .bl) S
  | _ => .bad
/-- a def is handed the handled exception -/
def hotV (f : Nat) (o : Option (Option Val)) (S : Store) : R Val := match o with
  | some (some (.t (.exn c [])) ) => (call f [.t (.exn c [])] S).nob fun v S => .ok v S
  | _ => .bad
/-- a text that joins texts -/
def joinV (a : Val) (vs : List Val) (S : Store) : R Val := match a, vs with
  | .t (.str x), [e] => (match (match e with
      | .t (.tup xs) => some xs
      | e => lstT S e) with
    | some xs => (match strsT xs with
      | some ys => if (ys.map (·.length)).sum + ys.length * x.length ≤ 16777216 then .ok (.t (.str (Txt.join x ys))) S else .bad
      | none => .bad)
    | none => .bad)
  | _, _ => .bad
def strB : Val → Bool
  | .t (.str _) => true
  | _ => false
/-- a written dict's value, or None -/
def dgetV (o : Option (List (Str × T))) (a : Val) (S : Store) : R Val := match o, a with
  | some kvs, .t (.str z) => .ok (.t ((kvs.lookup z).getD .non)) S
  | _, _ => .bad
def tcountV (a : Val) (vs : List Val) (S : Store) : R Val := match a, vs with
  | .t (.str x), [.t (.str y)] => .ok (.t (.int (Txt.count x y))) S
  | _, _ => .bad
mutual
noncomputable def dE : IE → Env → Store → R Val
  | .var i, env, S => (match env[i]? with
    | some (some v) => .ok v S
    | _ => .bad)
  | .con t, _, S => .ok (.t t) S
  | .glob g, _, S => ofT (tab.con g) S
  | .bin op a b, env, S => (dE a env S).bind fun x S => (dE b env S).bind fun y S => binV op x y S
  | .binM op a b, env, S => (dE a env S).bind fun x S => (dE b env S).bind fun y S => binL true op x y S
  | .neg a, env, S => (dE a env S).bind fun x S => (match x with
    | .t (.int i) => .ok (.t (.int (-i))) S
    | _ => .bad)
  | .cmp op a b, env, S => (dE a env S).bind fun x S => (dE b env S).bind fun y S => cmpV op x y S
  | .cmp2 o p a b c, env, S => (dE a env S).bind fun x S => (dE b env S).bind fun y S => (cmpV o x y S).bind fun z S => (truV z S).bind fun k S =>
      if k then (dE c env S).bind fun w S => cmpV p y w S else .ok (.t (.bl false)) S
  | .not a, env, S => (dE a env S).bind fun x S => (truV x S).bind fun k S => .ok (.t (.bl (!k))) S
  | .ands es, env, S => dAndE es env S
  | .ors es, env, S => dOrE es env S
  | .ife t a b, env, S => (dB t env S).bind fun k S => if k then dE a env S else dE b env S
  | .tup es, env, S => (dEs es env S).bind fun vs S => if vs.length ≤ szLine then tupV vs S else .bad
  | .lst m es, env, S => (dEs es env S).bind fun vs S => dispL m vs S
  | .sub a i, env, S => (dE a env S).bind fun x S => (dE i env S).bind fun y S => subV x y S
  | .slc m a lo hi, env, S => (dE a env S).bind fun x S => (if isNo lo then .ok none S else (dE lo env S).bind fun y S => optI y S).bind fun l S => (if isNo hi then .ok none S else (dE hi env S).bind fun y S => optI y S).bind fun h S => slcV m x l h S
  | .rev m a, env, S => (dE a env S).bind fun x S => revV m x S
  | .fld o f, env, S => (dE o env S).bind fun x S => fldV tab x f S
  | .new c es, env, S => (dEs es env S).bind fun vs S => newV tab call c vs S
  | .meth o f es, env, S => (dE o env S).bind fun x S => (methV tab f (es.len + 1) x S).bind fun g S => (dEs es env S).bind fun vs S => call g (x :: vs) S
  | .bm b _ o es, env, S => (dE o env S).bind fun x S => if cellB x S then (dEs es env S).bind fun vs S => bmV b x vs S else .bad
  | .call f es, env, S => (dEs es env S).bind fun vs S => call f vs S
  | .cix g e, env, S => (dE e env S).bind fun x S => cixV (tab.con g) x S
  | .inRg neg a b, env, S => (dE a env S).bind fun x S => (dE b env S).bind fun y S => inRgV neg x y S
  | .join a es, env, S => (dE a env S).bind fun x S => if strB x then (dEs es env S).bind fun vs S => joinV x vs S else .bad
  | .dget g e, env, S => (dE e env S).bind fun x S => dgetV (tab.dc g) x S
  | .tcount a es, env, S => (dE a env S).bind fun x S => if strB x then (dEs es env S).bind fun vs S => tcountV x vs S else .bad
  | .lenSet e, env, S => (dE e env S).bind fun x S => lenSetV x S
  | .listRg e, env, S => (dE e env S).bind fun x S => (match x with
    | .t (.int n) => if 0 ≤ n ∧ n ≤ 16777216 then alloc false (rng 0 n) S else .bad
    | _ => .bad)
  | .dct0, _, S => .ok (.t (.dct [])) S
  | .dct1 k v, _, S => .ok (.t (.dct [(.inl k, .int v)])) S
  | .dctD m ks es, env, S => (dEs es env S).nob fun vs S => dctV m ks vs S
  | .upd o e, env, S => (dE o env S).bind fun x S => if dctB x S then (dE e env S).bind fun y S => updV x y S else .bad
  | .blt b m es, env, S => (dEs es env S).bind fun vs S => bltV b m vs S
  | .isi e _ ts, env, S => (dE e env S).bind fun x S => isiV tab ts x S
  | .exIs i _ ts, env, S => exIsV tab ts env[i]? S
  | .hot f i, env, S => hotV call f env[i]? S
  | .comp m k src many tg ifs elt, env, S => (dEs src env S).bind fun vs S => (items k vs S).bind fun its S =>
      (compL its.2 (fun v S => match target many tg v (wipeE env tg) S with
        | some env2 => (dAnd ifs env2 S).bind fun k S => if k then (dE elt env2 S).bind fun y S => .ok (some y) S else .ok none S
        | none => .bad) its.1 [] S).bind fun ys S => alloc m ys S
noncomputable def dEs : IEs → Env → Store → R (List Val)
  | .nil, _, S => .ok [] S
  | .cons e es, env, S => (dE e env S).bind fun v S => (dEs es env S).bind fun vs S => .ok (v :: vs) S
/-- and, or as values: truths -/
noncomputable def dAndE : IEs → Env → Store → R Val
  | .nil, _, _ => .bad
  | .cons e .nil, env, S => dE e env S
  | .cons e (.cons f fs), env, S => (dE e env S).bind fun v S => (truV v S).bind fun k S => if k then dAndE (.cons f fs) env S else .ok v S
noncomputable def dOrE : IEs → Env → Store → R Val
  | .nil, _, _ => .bad
  | .cons e .nil, env, S => dE e env S
  | .cons e (.cons f fs), env, S => (dE e env S).bind fun v S => (truV v S).bind fun k S => if k then .ok v S else dOrE (.cons f fs) env S
/-- a test -/
noncomputable def dB : IC → Env → Store → R Bool
  | .val e, env, S => (dE e env S).bind fun v S => truV v S
  | .not a, env, S => (dB a env S).bind fun k S => .ok (!k) S
  | .ands cs, env, S => dAnd cs env S
  | .ors cs, env, S => dOr cs env S
noncomputable def dAnd : ICs → Env → Store → R Bool
  | .nil, _, S => .ok true S
  | .cons c cs, env, S => (dB c env S).bind fun k S => if k then dAnd cs env S else .ok false S
noncomputable def dOr : ICs → Env → Store → R Bool
  | .nil, _, S => .ok false S
  | .cons c cs, env, S => (dB c env S).bind fun k S => if k then .ok true S else dOr cs env S
end

/-! ### statements -/
inductive RS where
  | nx (env : Env) (S : Store) | rt (v : Val) (S : Store) | bk (env : Env) (S : Store) | ct (env : Env) (S : Store)
  | ex (x : Exn) (env : Env) (S : Store) | bad
def R.st {α : Type} (m : R α) (env : Env) (k : α → Store → RS) : RS := match m with
  | .ok a S => k a S
  | .ex x S => .ex x env S
  | .bad => .bad
@[simp] theorem R.st_ok {α : Type} (a : α) (S : Store) (env : Env) (k : α → Store → RS) : (R.ok a S).st env k = k a S := rfl
@[simp] theorem R.st_ex {α : Type} (x : Exn) (S : Store) (env : Env) (k : α → Store → RS) : (R.ex x S : R α).st env k = .ex x env S := rfl
@[simp] theorem R.st_bad {α : Type} (env : Env) (k : α → Store → RS) : (R.bad : R α).st env k = .bad := rfl
def RS.seq (m : RS) (k : Env → Store → RS) : RS := match m with
  | .nx env S => k env S
  | m => m
/-- a for's turns -/
noncomputable def forL (w : Wk) (many : Bool) (tg : List Nat) (body : Env → Store → RS) : List Val → Env → Store → RS
  | [], env, S => if okW w S then .nx env S else .bad
  | v :: vs, env, S => if okW w S then (match target many tg v env S with
    | none => .bad
    | some env1 => match body env1 S with
      | .nx env2 S2 => forL w many tg body vs env2 S2
      | .ct env2 S2 => forL w many tg body vs env2 S2
      | .bk env2 S2 => .nx env2 S2
      | m => m) else .bad
theorem forL_bad {w : Wk} {many : Bool} {tg : List Nat} {body : Env → Store → RS} {l : List Val} {env : Env} {S : Store} (h : ¬ okW w S) : forL w many tg body l env S = .bad := by
  cases l <;> (unfold forL; exact if_neg h)
theorem forL_nil {w : Wk} {many : Bool} {tg : List Nat} {body : Env → Store → RS} {env : Env} {S : Store} (h : okW w S) : forL w many tg body [] env S = .nx env S := by
  unfold forL
  exact if_pos h
theorem forL_cons {w : Wk} {many : Bool} {tg : List Nat} {body : Env → Store → RS} {v : Val} {vs : List Val} {env : Env} {S : Store} (h : okW w S) : forL w many tg body (v :: vs) env S = (match target many tg v env S with
    | none => .bad
    | some env1 => match body env1 S with
      | .nx env2 S2 => forL w many tg body vs env2 S2
      | .ct env2 S2 => forL w many tg body vs env2 S2
      | .bk env2 S2 => .nx env2 S2
      | m => m) := by
  rw [forL]
  exact if_pos h
/-- does an except clause of these classes take it -/
def excIn (tab : Tab) (c : Nat) : List Nat → Option Bool
  | [] => some false
  | d :: ds => (match tab.exc c with
    | some l => if (tab.exc d).isSome then (excIn tab c ds).map fun b => l.contains d || b else none
    | none => none)
/-- behind an except suite with a name -/
def RS.gone (i : Nat) : RS → RS
  | .nx env S => .nx (env.set i none) S
  | .bk env S => .bk (env.set i none) S
  | .ct env S => .ct (env.set i none) S
  | .rt v S => .rt v S
  | .ex _ _ _ => .bad
  | .bad => .bad
def RS.noex : RS → RS
  | .ex _ _ _ => .bad
  | m => m
def whileL (t : Env → Store → R Bool) (body : Env → Store → RS) : Nat → Env → Store → RS
  | 0, _, _ => .bad
  | n + 1, env, S => (t env S).st env fun k S => if k then (match body env S with
      | .nx env2 S2 => whileL t body n env2 S2
      | .ct env2 S2 => whileL t body n env2 S2
      | .bk env2 S2 => .nx env2 S2
      | m => m) else .nx env S
mutual
noncomputable def dS : IS → Env → Store → RS
  | .pass, env, S => .nx env S
  | .expr e, env, S => (dE tab call e env S).st env fun _ S => .nx env S
  | .set i e, env, S => (dE tab call e env S).st env fun v S => .nx (env.set i (some v)) S
  | .setT is e, env, S => (dE tab call e env S).st env fun v S => (match target true is v env S with
    | some env2 => .nx env2 S
    | none => .bad)
  | .setF o f e, env, S => (dE tab call e env S).st env fun v S => (dE tab call o env S).st env fun x S => (match setFV tab x f v S with
    | some S1 => .nx env S1
    | none => .bad)
  | .setS o i e, env, S => (dE tab call e env S).st env fun v S => (dE tab call o env S).st env fun x S => (dE tab call i env S).st env fun y S => (match setSV x y v S with
    | some S1 => .nx env S1
    | none => .bad)
  | .setL o lo hi e, env, S => (dE tab call e env S).st env fun v S => (dE tab call o env S).st env fun x S => (dE tab call lo env S).st env fun y S => (dE tab call hi env S).st env fun z S => (match setLV x y z v S with
    | some S1 => .nx env S1
    | none => .bad)
  | .augF o f op e, env, S => (dE tab call o env S).st env fun x S => (fldV tab x f S).st env fun z S => (dE tab call e env S).st env fun y S3 => (binA op z y S3).st env fun v S3 => if insC x S == insC x S3 then (match setFV tab x f v S3 with
    | some S1 => .nx env S1
    | none => .bad) else .bad
  | .aug i op e, env, S => (match env[i]? with
    | some (some x) => (dE tab call e env S).st env fun y S => (binA op x y S).st env fun z S => .nx (env.set i (some z)) S
    | _ => .bad)
  | .ife t a b, env, S => (dB tab call t env S).st env fun k S => if k then dSs a env S else dSs b env S
  | .for_ k src many tg body, env, S => (dEs tab call src env S).st env fun vs S => (items k vs S).st env fun its S =>
      forL its.2 many tg (fun env S => dSs body env S) its.1 env S
  | .while_ n t body, env, S => whileL (fun env S => dB tab call t env S) (fun env S => dSs body env S) n env S
  | .ret e, env, S => (dE tab call e env S).st env fun v S => .rt v S
  | .retN, _, S => .rt (.t .non) S
  | .raise c _, env, S => if (tab.exc c).isSome && tab.exr c then .ex ⟨c, []⟩ env S else .bad
  | .cont, env, S => .ct env S
  | .brk, env, S => .bk env S
  | .try_ b cs nm su, env, S => (match dSs b env S with
    | .ex x env1 S1 => (match excIn tab x.c cs with
      | some true => if x.fs.isEmpty then (match nm with
        | some i => (dSs su (env1.set i (some (.t (.exn x.c [])))) S1).gone i
        | none => (dSs su env1 S1).noex) else .bad
      | some false => .ex x env1 S1
      | none => .bad)
    | m => m)
noncomputable def dSs : ISs → Env → Store → RS
  | .nil, env, S => .nx env S
  | .cons s ss, env, S => (dS s env S).seq fun env S => dSs ss env S
end

/-- a def's body, run at its arguments -/
noncomputable def runFn (d : Fn) (vs : List Val) (S : Store) : R Val :=
  if vs.length = d.np then
    if d.pure then
      match allT vs with
      | none => .bad
      | some _ => (match dSs tab call d.body (vs.map some ++ List.replicate (d.ns - d.np) none) [] with
        | .nx _ _ => .ok (.t .non) S
        | .rt v S1 => (match toT S1 v with
          | some (x, _) => .ok (.t x) S
          | none => .bad)
        | .ex x _ _ => .ex x S
        | _ => .bad)
    else
      match dSs tab call d.body (vs.map some ++ List.replicate (d.ns - d.np) none) S with
      | .nx _ S1 => .ok (.t .non) S1
      | .rt v S1 => .ok v S1
      | .ex x _ S1 => .ex x S1
      | _ => .bad
  else .bad
end
/-- a def by its number: n calls, one in another, at most -/
noncomputable def callF (tab : Tab) : Nat → Call
  | 0, _, _, _ => .bad
  | n + 1, f, vs, S => match tab.fn f with
    | none => .bad
    | some d => runFn tab (callF tab n) d (vs ++ (d.dfl.drop (d.dfl.length - (d.np - vs.length))).map .t) S
end Rw

/-! zip of a text and a tuple, by the library's iterators of any kind -/
namespace Rw
open PySem PySem.Spec PyProof.Rows L2
/-- what it gives -/
def ItzS (K : PySem.W.Frag) (x : Str) (b : Addr) : It :=
  ⟨fun i H => ∃ (ys : List V) (y : V) (c : Nat), SqT K H b ys ∧ x.cps[i]? = some c ∧ ys[i]? = some y,
    fun i H v H' => ∃ T y c, v = .ref T ∧ H T = none ∧ H' = upd H T (.tup [.str ⟨#[c]⟩, y]) ∧ x.cps[i]? = some c ∧ ∀ ys, SqT K H b ys → ys[i]? = some y,
    fun i H => ∃ ys : List V, SqT K H b ys ∧ i ≤ x.cps.size ∧ i ≤ ys.length ∧ (i = x.cps.size ∨ i = ys.length)⟩
/-- the cells of such a zip -/
def StS (z TI TO i1 i2 : Addr) (x : Str) (t : Tok) (b : Addr) (i : Nat) (h : Heap) : Prop := IsZip h z TI TO .none ∧ IsTupOf2 h TI (.ref i1) (.ref i2) ∧ (∃ x y, IsTupOf2 h TO x y) ∧ h.IsStrIter i1 (strIterType x) x t i ∧ h.IsTupleIter i2 b i
theorem five {p : Addr → Prop} {z TI TO i1 i2 c : Addr} (h : c ∈ [z, TI, TO, i1, i2]) (h1 : p z) (h2 : p TI) (h3 : p TO) (h4 : p i1) (h5 : p i2) : p c := by
  have e : c = z ∨ c = TI ∨ c = TO ∨ c = i1 ∨ c = i2 := by simpa using h
  rcases e with q | q | q | q | q <;> (rw [q]; assumption)
theorem IsStrIter.at {h h' : Heap} {a : Addr} {ty : String} {x : Str} {t : Tok} {i : Nat} (y : h.IsStrIter a ty x t i) (e : ∀ o, h.get? a = some o → h'.get? a = some o) : h'.IsStrIter a ty x t i := let ⟨o, ho, r⟩ := y; ⟨o, e o ho, r⟩
theorem turn_zipS {P : Program} {w : World} {K : PySem.W.Frag} {elts : List Expr} {kk : Nat} {tpos : Pos} {b z TI TO i1 i2 : Addr} {x : Str} {t : Tok} (D : ZipSep2 z TI TO i1 i2 [i1] [i2, b]) (hb : b ≠ i2) :
    Turn P w K (.Tuple elts kk tpos) (ItzS K x b) [z, TI, TO, i1, i2] z (StS z TI TO i1 i2 x t b) where
  mem := by simp
  obj := fun i h st c hc => by
    obtain ⟨hz, hTI, ⟨x, y, hTO⟩, ⟨o1, e1, _, d1⟩, ⟨o2, e2, _, d2⟩⟩ := st
    exact five (p := fun c => ∃ o, h.get? c = some o ∧ ∀ v, o.data ≠ .cell v) hc ⟨_, hz, fun v q => nomatch q⟩ ⟨_, hTI, fun v q => nomatch q⟩ ⟨_, hTO, fun v q => nomatch q⟩ ⟨o1, e1, fun v q => by rw [d1] at q; cases q⟩ ⟨o2, e2, fun v q => by rw [d2] at q; cases q⟩
  keep := fun i h h' st k => by
    obtain ⟨hz, hTI, ⟨x, y, hTO⟩, h1, h2⟩ := st
    exact ⟨k z (by simp) _ hz, k TI (by simp) _ hTI, ⟨x, y, k TO (by simp) _ hTO⟩, IsStrIter.at h1 fun o q => k i1 (by simp) o q, h2.at fun o q => k i2 (by simp) o q⟩
  item := by
    intro X hP hw hK hc i pins s σ H E I hf st hg
    subst hP hw hK
    obtain ⟨hz, hTI, ⟨x0, y0, hTO⟩, h1, h2⟩ := st
    obtain ⟨ys, y, c, hqy, hx, hy⟩ := hg
    obtain ⟨its, rv, p, _⟩ := I.tuple hqy
    obtain ⟨u2, hu2, ru2⟩ := rv.get hy
    have hzl : z < s.heap.objs.size := Heap.lt_size hz
    have l1 : i < x.cps.size := (Array.getElem?_eq_some_iff.mp hx).1
    have l2 : i < its.toArray.size := by
      have := (List.getElem?_eq_some_iff.mp hu2).1
      simpa using this
    have hh : X.A.in1.handled = none := I.ok.hd hc
    refine wpAny_pyNext_zipD2_item D (Draws.text hh i1 x t) (Draws.tuple hh i2 b hb its.toArray) hz hTI hTO h1 ⟨h2, p⟩ l1 l2 fun x1 x2 h' tk e1 e2 z' TO' h1' h2' hT hsz hk => ?_
    obtain ⟨c', u, ec, rfl⟩ := e1
    rw [hx] at ec
    cases ec
    have e2 : its[i]? = some x2 := by simpa using e2
    rw [hu2] at e2
    cases e2
    refine ⟨_, rfl, wpAny_letOwnedTupleGo_zip (s := { s with heap := h', toks := tk }) z' fun h'' z'' sb => ?_⟩
    have hT2 : h''.get? s.heap.objs.size = some { cls := .type "tuple", data := .seq #[.str ⟨#[c]⟩ u, u2] } := (sb.2 _ (Nat.ne_of_gt hzl)).trans hT
    have new : ObjOk X.prog X.w (upd H s.heap.objs.size (.tup [.str ⟨#[c]⟩, y])) h'' s.heap.objs.size (.tup [.str ⟨#[c]⟩, y]) :=
      ⟨by show 2 ≤ sizeLine; decide, [.str ⟨#[c]⟩ u, u2], .cons ⟨u, rfl⟩ (.cons ru2 .nil), ⟨_, hT2, rfl, _, rfl⟩⟩
    have I1 : Inv X pins σ (upd H s.heap.objs.size (.tup [.str ⟨#[c]⟩, y])) { s with heap := h'', toks := tk } :=
      I.turnedNew (t' := tk) (ch := [z, TI, TO, i1, i2]) (fun c o hb q => (sb.2 c (fun q' => hb (by simp [q']))).trans (hk c o (fun q' => hb (by simp [q'])) (fun q' => hb (by simp [q'])) (fun q' => hb (by simp [q'])) (fun q' => hb (by simp [q'])) q)) hf (Nat.le_refl _) new
    refine ⟨.ref s.heap.objs.size, _, I1, rfl, ⟨_, y, c, rfl, I.hok.fresh (Nat.le_refl _), rfl, hx, fun l hl => by rw [I.tuple_inj hl hqy]; exact hy⟩, ⟨z'', ?_, ⟨.str ⟨#[c]⟩ u, u2, ?_⟩, ?_, ?_⟩, fun c hcm => ?_⟩
    · exact (sb.2 _ D.TIz).trans (hk _ _ D.TIz D.TITO D.TIi1 D.TIi2 hTI)
    · exact (sb.2 _ D.TOz).trans TO'
    · exact IsStrIter.at h1' fun o q => (sb.2 _ D.zi1.symm).trans q
    · exact h2'.1.at fun o q => (sb.2 _ D.zi2.symm).trans q
    · have hlt : c < s.heap.objs.size := five (p := fun c => c < s.heap.objs.size) hcm hzl (Heap.lt_size hTI) (Heap.lt_size hTO) (let ⟨_, e, _⟩ := h1; Heap.lt_size e) (let ⟨_, e, _⟩ := h2; Heap.lt_size e)
      rw [upd_ne (Nat.ne_of_lt hlt)]
      exact (hf c hcm).1
  done := by
    intro X hP hw hK hc i pins s σ H E I hf st hg
    subst hP hw hK
    obtain ⟨hz, hTI, ⟨x0, y0, hTO⟩, h1, h2⟩ := st
    obtain ⟨ys, hqy, b1, b2, hend⟩ := hg
    obtain ⟨its, rv, p, _⟩ := I.tuple hqy
    have l2 : its.toArray.size = ys.length := by rw [List.size_toArray]; exact rv.length.symm
    have hh : X.A.in1.handled = none := I.ok.hd hc
    exact wpAny_pyNext_zipD2_end D (Draws.text hh i1 x t) (Draws.tuple hh i2 b hb its.toArray) hz hTI hTO h1 ⟨h2, p⟩ b1 (by rw [l2]; exact b2) (by rw [l2]; exact hend) fun h' tk hk => ⟨rfl, I.turnedL (t' := tk) (ch := [z, TI, TO, i1, i2]) (fun c o hb q =>
      hk c o (fun q' => hb (by simp [q'])) (fun q' => hb (by simp [q'])) (fun q' => hb (by simp [q'])) (fun q' => hb (by simp [q'])) q) hf⟩
  self := fun A i s Q E st h => wpAny_pyIter_zip st.1 h
theorem sepS (I b : Nat) (h : b < I) : ZipSep2 (I + 4) (I + 2) (I + 3) I (I + 1) [I] [I + 1, b] ∧ b ≠ I + 1 := by
  have mem : ∀ (x : Nat) (l : List Nat), (∀ y ∈ l, x ≠ y) → x ∉ l := fun x l h m => h x m rfl
  have e1 : ∀ x y : Nat, x ≠ y → ∀ z ∈ [y], x ≠ z := fun x y h z m => by rw [List.mem_singleton] at m; exact m ▸ h
  have e2 : ∀ x y w : Nat, x ≠ y → x ≠ w → ∀ z ∈ [y, w], x ≠ z := fun x y w h h' z m => by
    rcases List.mem_cons.mp m with r | m
    · exact r ▸ h
    · exact e1 x w h' z m
  have a1 : I + 2 ≠ I + 4 := by omega
  have a2 : I + 3 ≠ I + 4 := by omega
  have a3 : I + 2 ≠ I + 3 := by omega
  have a4 : I + 2 ≠ I := by omega
  have a5 : I + 4 ≠ I := by omega
  have a6 : I + 3 ≠ I := by omega
  have a7 : I + 2 ≠ I + 1 := by omega
  have a8 : I + 4 ≠ I + 1 := by omega
  have a9 : I + 4 ≠ b := by omega
  have b1 : I + 3 ≠ I + 1 := by omega
  have b2 : I + 3 ≠ b := by omega
  have b3 : I ≠ I + 1 := by omega
  have b4 : I ≠ b := by omega
  have b5 : b ≠ I + 1 := by omega
  exact ⟨⟨a1, a2, a3, a4, List.mem_singleton.mpr rfl, mem _ _ (e1 _ _ a5), mem _ _ (e1 _ _ a6), a7, List.mem_cons_self, mem _ _ (e2 _ _ _ a8 a9), mem _ _ (e2 _ _ _ b1 b2), mem _ _ (e2 _ _ _ b3 b4), mem _ _ (e1 _ _ b3.symm)⟩, b5⟩
def iZipS (K : PySem.W.Frag) (ta : TA) : TI := fun σ H R => ta σ H fun vs H1 => ∃ x b ys, vs = [.str x, .ref b] ∧ SqT K H1 b ys ∧ R (ItzS K x b) H1
theorem pi_zipS {X : Cx} {e e2 : Expr} {ta : TA} {p pos tpos : Pos} {elts : List Expr} {kk : Nat} (hg : Gl X "zip") (hm : X.mg "zip" = none) (ha : PA X [e, e2] ta)
    (hs : starEach [e, e2] X.env = (false, eval e X.env) :: starEach [e2] X.env := by rfl) (hpl : (backTo pos (starEach [e2] X.env)).any (·.1) = false := by rfl) :
    PI X (.Tuple elts kk tpos) (.Call (.Name "zip" p) [e, e2] [] pos) (iZipS X.K ta) := by
  refine ⟨fun pins s σ H R I h => ?_⟩
  refine Call_ (ld_blt I hg hm PyProof.Rows.boot_zip (PyProof.Rows.callWith_type1 (thn (ha.run pos pins s σ H _ I h) fun us s1 ⟨vs, H1, I1, r1, q1⟩ => ?_) hs hpl))
  obtain ⟨x, b, ys, ex, hq, q⟩ := q1
  subst ex
  obtain ⟨u1, u2, rfl, ⟨t, rfl⟩, r2⟩ := vals2 r1
  cases r2
  obtain ⟨its, rv, p2, _⟩ := I1.tuple hq
  obtain ⟨o2, ho2, _⟩ := id p2
  have hbl : b < s1.heap.objs.size := Heap.lt_size ho2
  have fresh5 : ∀ c, c ∈ [s1.heap.objs.size + 4, s1.heap.objs.size + 2, s1.heap.objs.size + 3, s1.heap.objs.size, s1.heap.objs.size + 1] → FpOk X pins H1 c := fun c hcm => by
    have hle : s1.heap.objs.size ≤ c := five (p := fun c => s1.heap.objs.size ≤ c) hcm (Nat.le_add_right _ _) (Nat.le_add_right _ _) (Nat.le_add_right _ _) (Nat.le_refl _) (Nat.le_add_right _ _)
    exact I1.fpOk hle (I1.hok.fresh hle)
  refine zip_begins2 (begins_text x t) (begins_tuple b its.toArray) trivial p2 fun h' hz hTI hTO h1 h2 hsz hk => wpAny_pyIter_zip hz ?_
  have I2 : Inv X pins σ H1 { s1 with heap := h' } := I1.kept (t' := s1.toks) hk
  refine ⟨s1.heap.objs.size + 4, [s1.heap.objs.size + 4, s1.heap.objs.size + 2, s1.heap.objs.size + 3, s1.heap.objs.size, s1.heap.objs.size + 1], _, _, H1, rfl, I2, turn_zipS (t := t) (sepS s1.heap.objs.size b hbl).1 (sepS s1.heap.objs.size b hbl).2, ⟨hz, hTI, ⟨_, _, hTO⟩, ⟨_, h1, rfl, rfl⟩, ⟨_, h2, rfl, rfl⟩⟩, fresh5, q⟩
end Rw

/-! What the small language means is what the model does: once, for all defs. -/
namespace Rw
open PySem PySem.Spec PyProof.Rows L2

structure Nm where
  fnN : Nat → Str
  clN : Nat → Str
  coN : Nat → Str
  atN : Nat → Str
  exN : Nat → Str
  dcN : Nat → Str
/-- what stands fast -/
structure Gd where
  prog : Program
  w : World
  K : PySem.W.Frag
  mg : Str → Option Value
  fA : Nat → Addr
  cA : Nat → Addr
  eA : Nat → Addr
  nm : Nm
  tab : Tab
  nAt : Nat
  hs : Option (Nat × Addr × Nat) := none

/-! ### trees and values -/
mutual
inductive Rep (G : Gd) (F : Hp) : V → T → Prop
  | non : Rep G F .non .non
  | bl (b : Bool) : Rep G F (.bl b) (.bl b)
  | int (i : Int) : Rep G F (.int i) (.int i)
  | str (x : Str) : Rep G F (.str x) (.str x)
  | tup {a : Addr} {vs : List V} {xs : List T} (h : SqT G.K F a vs) (r : RepL G F vs xs) : Rep G F (.ref a) (.tup xs)
  | lst {a : Addr} {vs : List V} {xs : List T} (h : F a = some (.lst vs)) (r : RepL G F vs xs) : Rep G F (.ref a) (.lst xs)
  | ins {a dx : Addr} {c : Nat} {gs : List (Str × V)} {fs : List (Nat × T)} (h : F a = some (.ins (G.cA c) dx gs)) (r : RepF G F gs fs) : Rep G F (.ref a) (.ins c fs)
  | dct {a : Addr} {gs : List (Key × V)} {fs : List (Key × T)} (h : F a = some (.dK gs)) (r : RepD G F gs fs) : Rep G F (.ref a) (.dct fs)
  | fn (g : Nat) : Rep G F (.ref (G.fA g)) (.fn g)
  | scr {a : Addr} {ns : List Int} (h : SqL G.K F a (ns.map V.int)) : Rep G F (.ref a) (.scr ns)
inductive RepL (G : Gd) (F : Hp) : List V → List T → Prop
  | nil : RepL G F [] []
  | cons {v : V} {x : T} {vs : List V} {xs : List T} (h : Rep G F v x) (r : RepL G F vs xs) : RepL G F (v :: vs) (x :: xs)
inductive RepF (G : Gd) (F : Hp) : List (Str × V) → List (Nat × T) → Prop
  | nil : RepF G F [] []
  | cons {v : V} {f : Nat} {x : T} {vs : List (Str × V)} {xs : List (Nat × T)} (hf : f < G.nAt) (h : Rep G F v x) (r : RepF G F vs xs) : RepF G F ((G.nm.atN f, v) :: vs) ((f, x) :: xs)
inductive RepD (G : Gd) (F : Hp) : List (Key × V) → List (Key × T) → Prop
  | nil : RepD G F [] []
  | cons {v : V} {k : Key} {x : T} {vs : List (Key × V)} {xs : List (Key × T)} (h : Rep G F v x) (r : RepD G F vs xs) : RepD G F ((k, v) :: vs) ((k, x) :: xs)
end
theorem sameT {K : PySem.W.Frag} {F F' : Hp} {a : Addr} {vs : List V} (s : Same F F') (h : SqT K F a vs) : SqT K F' a vs := by
  rcases h with (h | ⟨o, h⟩) | h
  · exact .inl (.inl (s _ _ h))
  · exact .inl (.inr ⟨o, s _ _ h⟩)
  · exact .inr h
section
variable {G : Gd} {F F' : Hp}
mutual
theorem Rep.mono (s : Same F F') : ∀ (x : T) (v : V), Rep G F v x → Rep G F' v x
  | .non, _, h => by cases h; exact .non
  | .bl _, _, h => by cases h; exact .bl _
  | .int _, _, h => by cases h; exact .int _
  | .str _, _, h => by cases h; exact .str _
  | .tup xs, _, h => by
    cases h with
    | tup h r => exact .tup (sameT s h) (RepL.mono s xs _ r)
  | .lst xs, _, h => by
    cases h with
    | lst h r => exact .lst (s _ _ h) (RepL.mono s xs _ r)
  | .ins c fs, _, h => by
    cases h with
    | ins h r => exact .ins (s _ _ h) (RepF.mono s fs _ r)
  | .dct fs, _, h => by
    cases h with
    | dct h r => exact .dct (s _ _ h) (RepD.mono s fs _ r)
  | .fn g, _, h => by cases h; exact .fn g
  | .scr ns, _, h => by
    cases h with
    | scr h => exact .scr (s.seq h)
  | .exn _ _, _, h => by cases h
theorem RepL.mono (s : Same F F') : ∀ (xs : List T) (vs : List V), RepL G F vs xs → RepL G F' vs xs
  | [], _, h => by cases h; exact .nil
  | x :: xs, _, h => by
    cases h with
    | cons h r => exact .cons (Rep.mono s x _ h) (RepL.mono s xs _ r)
theorem RepF.mono (s : Same F F') : ∀ (xs : List (Nat × T)) (vs : List (Str × V)), RepF G F vs xs → RepF G F' vs xs
  | [], _, h => by cases h; exact .nil
  | (f, x) :: xs, _, h => by
    cases h with
    | cons hf h r => exact .cons hf (Rep.mono s x _ h) (RepF.mono s xs _ r)
theorem RepD.mono (s : Same F F') : ∀ (xs : List (Key × T)) (vs : List (Key × V)), RepD G F vs xs → RepD G F' vs xs
  | [], _, h => by cases h; exact .nil
  | (k, x) :: xs, _, h => by
    cases h with
    | cons h r => exact .cons (Rep.mono s x _ h) (RepD.mono s xs _ r)
end
/-- the ground, another exception handled -/
def Gd.hd (G : Gd) (h : Option (Nat × Addr × Nat)) : Gd := { G with hs := h }
mutual
theorem Rep.hd {h : Option (Nat × Addr × Nat)} : ∀ (x : T) (v : V), Rep G F v x → Rep (G.hd h) F v x
  | .non, _, h => by cases h; exact .non
  | .bl _, _, h => by cases h; exact .bl _
  | .int _, _, h => by cases h; exact .int _
  | .str _, _, h => by cases h; exact .str _
  | .tup xs, _, h => by
    cases h with
    | tup h r => exact .tup (G := G.hd _) h (RepL.hd xs _ r)
  | .lst xs, _, h => by
    cases h with
    | lst h r => exact .lst h (RepL.hd xs _ r)
  | .ins c fs, _, h => by
    cases h with
    | ins h r => exact .ins (G := G.hd _) h (RepF.hd fs _ r)
  | .dct fs, _, h => by
    cases h with
    | dct h r => exact .dct h (RepD.hd fs _ r)
  | .fn g, _, h => by cases h; exact .fn (G := G.hd _) g
  | .scr ns, _, h => by
    cases h with
    | scr h => exact .scr (G := G.hd _) h
  | .exn _ _, _, h => by cases h
theorem RepL.hd {h : Option (Nat × Addr × Nat)} : ∀ (xs : List T) (vs : List V), RepL G F vs xs → RepL (G.hd h) F vs xs
  | [], _, h => by cases h; exact .nil
  | x :: xs, _, h => by
    cases h with
    | cons h r => exact .cons (Rep.hd x _ h) (RepL.hd xs _ r)
theorem RepF.hd {h : Option (Nat × Addr × Nat)} : ∀ (xs : List (Nat × T)) (vs : List (Str × V)), RepF G F vs xs → RepF (G.hd h) F vs xs
  | [], _, h => by cases h; exact .nil
  | (f, x) :: xs, _, h => by
    cases h with
    | cons hf h r => exact .cons (G := G.hd _) hf (Rep.hd x _ h) (RepF.hd xs _ r)
theorem RepD.hd {h : Option (Nat × Addr × Nat)} : ∀ (xs : List (Key × T)) (vs : List (Key × V)), RepD G F vs xs → RepD (G.hd h) F vs xs
  | [], _, h => by cases h; exact .nil
  | (k, x) :: xs, _, h => by
    cases h with
    | cons h r => exact .cons (Rep.hd x _ h) (RepD.hd xs _ r)
end
theorem RepL.length : ∀ {xs : List T} {vs : List V}, RepL G F vs xs → vs.length = xs.length
  | [], _, h => by cases h; rfl
  | x :: xs, _, h => by
    cases h with
    | cons h r => exact congrArg Nat.succ r.length
theorem RepL.get : ∀ {xs : List T} {vs : List V} {i : Nat} {x : T}, RepL G F vs xs → xs[i]? = some x → ∃ v, vs[i]? = some v ∧ Rep G F v x
  | [], _, _, _, h, e => by simp at e
  | y :: xs, _, 0, x, h, e => by
    cases h with
    | cons h r =>
      simp at e
      subst e
      exact ⟨_, rfl, h⟩
  | y :: xs, _, i + 1, x, h, e => by
    cases h with
    | cons h r =>
      obtain ⟨v, h1, h2⟩ := RepL.get (i := i) r (by simpa using e)
      exact ⟨v, by simpa using h1, h2⟩
mutual
theorem Rep.dp : ∀ (x : T) (v : V) (d : PyData), Rep G F v x → x.py = some d → Dp G.K F v d
  | .non, _, _, h, e => by cases h; cases e; exact .non
  | .bl _, _, _, h, e => by cases h; cases e; exact .bl _
  | .int _, _, _, h, e => by cases h; cases e; exact .int _
  | .str _, _, _, h, e => by cases h; cases e; exact .str _
  | .tup xs, _, _, h, e => by
    cases h with
    | tup h r =>
      have e1 : (T.pys xs).map PyData.tuple = some _ := e
      obtain ⟨ds, e2, e3⟩ := Option.map_eq_some_iff.mp e1
      subst e3
      exact .tup h (RepL.dp xs _ ds r e2)
  | .lst xs, _, _, h, e => by
    cases h with
    | lst h r =>
      have e1 : (T.pys xs).map PyData.list = some _ := e
      obtain ⟨ds, e2, e3⟩ := Option.map_eq_some_iff.mp e1
      subst e3
      exact .lst (.inl (.inl h)) (RepL.dp xs _ ds r e2)
  | .ins c fs, _, _, h, e => by cases e
  | .dct fs, _, _, h, e => by cases e
  | .fn g, _, _, h, e => by cases e
  | .exn _ _, _, _, h, e => by cases e
  | .scr ns, _, _, h, e => by
    cases h with
    | scr h =>
      cases e
      refine .lst h ?_
      have all : ∀ ms : List Int, DpAll G.K F (ms.map V.int) (ms.map PyData.int) := fun ms => by
        induction ms with
        | nil => exact .nil
        | cons m ms ih => exact .cons (.int m) ih
      exact all ns
theorem RepL.dp : ∀ (xs : List T) (vs : List V) (ds : List PyData), RepL G F vs xs → T.pys xs = some ds → DpAll G.K F vs ds
  | [], _, _, h, e => by cases h; cases e; exact .nil
  | x :: xs, _, ds, h, e => by
    cases h with
    | cons h r =>
      have e1 : (match T.py x with
        | some d => (T.pys xs).map (d :: ·)
        | none => none) = some ds := e
      cases q : T.py x with
      | none => rw [q] at e1; cases e1
      | some d =>
        rw [q] at e1
        obtain ⟨es, e2, e3⟩ := Option.map_eq_some_iff.mp e1
        subst e3
        exact .cons (Rep.dp x _ d h q) (RepL.dp xs _ es r e2)
end
mutual
theorem py_plain : ∀ (x : T) (d : PyData), x.py = some d → d.plain = true
  | .non, _, e => by cases e; rfl
  | .bl _, _, e => by cases e; rfl
  | .int _, _, e => by cases e; rfl
  | .str _, _, e => by cases e; rfl
  | .tup xs, _, e => by
    have e1 : (T.pys xs).map PyData.tuple = some _ := e
    obtain ⟨ds, e2, e3⟩ := Option.map_eq_some_iff.mp e1
    subst e3
    exact pys_plain xs ds e2
  | .lst xs, _, e => by
    have e1 : (T.pys xs).map PyData.list = some _ := e
    obtain ⟨ds, e2, e3⟩ := Option.map_eq_some_iff.mp e1
    subst e3
    exact pys_plain xs ds e2
  | .ins c fs, _, e => by cases e
  | .dct fs, _, e => by cases e
  | .fn g, _, e => by cases e
  | .exn _ _, _, e => by cases e
  | .scr ns, _, e => by
    cases e
    show PyData.plainAll (ns.map PyData.int) = true
    induction ns with
    | nil => rfl
    | cons m ms ih =>
      show (PyData.plain (.int m) && PyData.plainAll (ms.map PyData.int)) = true
      rw [ih]
      rfl
theorem pys_plain : ∀ (xs : List T) (ds : List PyData), T.pys xs = some ds → PyData.plainAll ds = true
  | [], _, e => by cases e; rfl
  | x :: xs, ds, e => by
    have e1 : (match T.py x with
      | some d => (T.pys xs).map (d :: ·)
      | none => none) = some ds := e
    cases q : T.py x with
    | none => rw [q] at e1; cases e1
    | some d =>
      rw [q] at e1
      obtain ⟨es, e2, e3⟩ := Option.map_eq_some_iff.mp e1
      subst e3
      show (PyData.plain d && PyData.plainAll es) = true
      rw [py_plain x d q, pys_plain xs es e2]
      rfl
end
end

/-- a world: what never changes again (F), what must stay (B), where the cells stand -/
structure Wd where
  F : Hp
  B : Hp
  n : Nat
  at_ : Nat → Addr
structure Wd.le (W W' : Wd) : Prop where
  f : Same W.F W'.F
  new : ∀ a o, W'.F a = some o → W.F a = some o ∨ W.B a = none
  b : W'.B = W.B
  n : W.n ≤ W'.n
  at_ : ∀ k, k < W.n → W'.at_ k = W.at_ k
theorem Wd.le.refl (W : Wd) : W.le W := ⟨Same.refl _, fun _ _ h => .inl h, rfl, Nat.le_refl _, fun _ _ => rfl⟩
theorem Wd.le.trans {W W1 W2 : Wd} (a : W.le W1) (b : W1.le W2) : W.le W2 where
  f := a.f.trans b.f
  new := fun x o h => by
    rcases b.new x o h with q | q
    · exact a.new x o q
    · exact .inr (by rw [a.b] at q; exact q)
  b := b.b.trans a.b
  n := Nat.le_trans a.n b.n
  at_ := fun k hk => (b.at_ k (Nat.lt_of_lt_of_le hk a.n)).trans (a.at_ k hk)

def RepV (G : Gd) (W : Wd) (v : V) : Val → Prop
  | .t x => Rep G W.F v x
  | .r n => n < W.n ∧ v = .ref (W.at_ n)
inductive CellOk (G : Gd) (W : Wd) : HO → Cell → Prop
  | lst {vs : List V} {ws : List Val} (h : Paired (RepV G W) vs ws) : CellOk G W (.lst vs) (.lst ws)
  | ins {dx : Addr} {c : Nat} {gs : List (Str × V)} {fs : List (Nat × Val)} (h : Paired (fun p q => q.1 < G.nAt ∧ p.1 = G.nm.atN q.1 ∧ RepV G W p.2 q.2) gs fs) : CellOk G W (.ins (G.cA c) dx gs) (.ins c fs)
  | dct {gs : List (Key × V)} {fs : List (Key × Val)} (h : Paired (fun p q => p.1 = q.1 ∧ RepV G W p.2 q.2) gs fs) : CellOk G W (.dK gs) (.dct fs)
structure Sim (G : Gd) (W : Wd) (S : Store) (H : Hp) : Prop where
  fz : Same W.F H
  len : S.length = W.n
  live : ∀ (k : Nat) (c : Cell), S[k]? = some c → c ≠ .dead → W.F (W.at_ k) = none ∧ W.B (W.at_ k) = none ∧ ∃ o, H (W.at_ k) = some o ∧ CellOk G W o c
  inj : ∀ (j k : Nat) (c d : Cell), S[j]? = some c → S[k]? = some d → c ≠ .dead → d ≠ .dead → W.at_ j = W.at_ k → j = k
  fr : Same W.B H
/-- a name's value; the handled exception stands under its own name alone -/
def RepE (G : Gd) (W : Wd) (i : Nat) (x : V) (v : Val) : Prop := RepV G W x v ∨ ∃ a c, G.hs = some (i, a, c) ∧ v = .t (.exn c []) ∧ x = .ref a
def EnvRep (G : Gd) (W : Wd) (σ : L2.St) (env : Env) : Prop :=
  σ.length = env.length ∧ ∀ (i : Nat) (v : Val), env[i]? = some (some v) → ∃ x, σ[i]? = some (some x) ∧ RepE G W i x v
structure ExRep (G : Gd) (H : Hp) (cls : Value) (od : Option Addr) (x : Exn) : Prop where
  c : cls = .ref (G.eA x.c)
  f : (x.fs = [] ∧ od = none) ∨ (x.fs ≠ [] ∧ ∃ d gs, od = some d ∧ H d = some (.xd gs) ∧ RepF G H gs x.fs)
section
variable {G : Gd} {W W' : Wd} {S : Store} {H : Hp} {σ : L2.St} {env : Env}
theorem RepV.mono (l : W.le W') {v : V} : ∀ {a : Val}, RepV G W v a → RepV G W' v a
  | .t x, h => Rep.mono l.f x v h
  | .r n, h => ⟨Nat.lt_of_lt_of_le h.1 l.n, by rw [l.at_ n h.1]; exact h.2⟩
theorem RepVs.mono (l : W.le W') {vs : List V} {ws : List Val} (h : Paired (RepV G W) vs ws) : Paired (RepV G W') vs ws := Paired.mono (fun _ _ r => r.mono l) h
theorem CellOk.mono (l : W.le W') {o : HO} {c : Cell} (h : CellOk G W o c) : CellOk G W' o c := by
  cases h with
  | lst h => exact .lst (RepVs.mono l h)
  | ins h => exact .ins (Paired.mono (fun _ _ r => ⟨r.1, r.2.1, r.2.2.mono l⟩) h)
  | dct h => exact .dct (Paired.mono (fun _ _ r => ⟨r.1, r.2.mono l⟩) h)
theorem RepE.mono (l : W.le W') {i : Nat} {x : V} {v : Val} (h : RepE G W i x v) : RepE G W' i x v := h.imp (fun r => r.mono l) id
theorem EnvRep.mono (l : W.le W') (h : EnvRep G W σ env) : EnvRep G W' σ env := ⟨h.1, fun i v e => by
  obtain ⟨x, e1, r⟩ := h.2 i v e
  exact ⟨x, e1, r.mono l⟩⟩
theorem EnvRep.set (h : EnvRep G W σ env) {x : V} {v : Val} (r0 : RepV G W x v) (i : Nat) : EnvRep G W (σ.set i (some x)) (env.set i (some v)) := by
  have r : RepE G W i x v := .inl r0
  refine ⟨by rw [List.length_set, List.length_set]; exact h.1, fun j w e => ?_⟩
  by_cases q : i = j
  · subst q
    by_cases hl : i < env.length
    · rw [List.getElem?_set_self hl] at e
      cases e
      exact ⟨x, List.getElem?_set_self (by rw [h.1]; exact hl), r⟩
    · rw [List.getElem?_eq_none (by rw [List.length_set]; omega)] at e
      cases e
  · rw [List.getElem?_set_ne q] at e
    rw [List.getElem?_set_ne q]
    exact h.2 j w e
theorem RepV.hd {h : Option (Nat × Addr × Nat)} {x : V} : ∀ {a : Val}, RepV G W x a → RepV (G.hd h) W x a
  | .t t, r => Rep.hd t x r
  | .r _, r => r
theorem CellOk.hd {h : Option (Nat × Addr × Nat)} {o : HO} {c : Cell} (k : CellOk G W o c) : CellOk (G.hd h) W o c := by
  cases k with
  | lst k => exact .lst (Paired.mono (fun _ _ r => r.hd) k)
  | ins k => exact .ins (G := G.hd h) (Paired.mono (fun _ _ r => ⟨r.1, r.2.1, r.2.2.hd⟩) k)
  | dct k => exact .dct (Paired.mono (fun _ _ r => ⟨r.1, r.2.hd⟩) k)
theorem Sim.hd {h : Option (Nat × Addr × Nat)} (s : Sim G W S H) : Sim (G.hd h) W S H := ⟨s.fz, s.len, fun k c e d => by
  obtain ⟨h1, h2, o, h3, h4⟩ := s.live k c e d
  exact ⟨h1, h2, o, h3, h4.hd⟩, s.inj, s.fr⟩
/-- a name is the handled exception's -/
theorem EnvRep.held (h : EnvRep G W σ env) (hn : G.hs = none) (i : Nat) (a : Addr) (c : Nat) : EnvRep (G.hd (some (i, a, c))) W (σ.set i (some (.ref a))) (env.set i (some (.t (.exn c [])))) := by
  refine ⟨by rw [List.length_set, List.length_set]; exact h.1, fun j w e => ?_⟩
  by_cases q : i = j
  · subst q
    by_cases hl : i < env.length
    · rw [List.getElem?_set_self hl] at e
      cases e
      exact ⟨.ref a, List.getElem?_set_self (by rw [h.1]; exact hl), .inr ⟨a, c, rfl, rfl, rfl⟩⟩
    · rw [List.getElem?_eq_none (by rw [List.length_set]; omega)] at e
      cases e
  · rw [List.getElem?_set_ne q] at e
    rw [List.getElem?_set_ne q]
    obtain ⟨x, e1, r⟩ := h.2 j w e
    refine ⟨x, e1, ?_⟩
    rcases r with r | ⟨a', c', z, _⟩
    · exact .inl r.hd
    · rw [hn] at z; cases z
/-- .. and gone -/
theorem EnvRep.gone {i : Nat} {a : Addr} {c : Nat} (h : EnvRep (G.hd (some (i, a, c))) W σ env) : EnvRep (G.hd none) W (σ.set i none) (env.set i none) := by
  refine ⟨by rw [List.length_set, List.length_set]; exact h.1, fun j w e => ?_⟩
  by_cases q : i = j
  · subst q
    by_cases hl : i < env.length
    · rw [List.getElem?_set_self hl] at e
      cases e
    · rw [List.getElem?_eq_none (by rw [List.length_set]; omega)] at e
      cases e
  · rw [List.getElem?_set_ne q] at e
    rw [List.getElem?_set_ne q]
    obtain ⟨x, e1, r⟩ := h.2 j w e
    refine ⟨x, e1, ?_⟩
    rcases r with r | ⟨a', c', z, _⟩
    · exact .inl (RepV.hd (G := G.hd (some (i, a, c))) (h := none) r)
    · have z : some (i, a, c) = some (j, a', c') := z
      cases z
      exact absurd rfl q
theorem EnvRep.wipe (h : EnvRep G W σ env) : ∀ vs : List Nat, EnvRep G W (L2.wipe σ vs) (wipeE env vs)
  | [] => h
  | v :: vs => by
    have q := EnvRep.wipe h vs
    refine ⟨by rw [L2.wipe, wipeE, List.length_set, List.length_set]; exact q.1, fun j w e => ?_⟩
    rw [wipeE] at e
    rw [L2.wipe]
    by_cases z : v = j
    · subst z
      by_cases hl : v < (wipeE env vs).length
      · rw [List.getElem?_set_self hl] at e
        cases e
      · rw [List.getElem?_eq_none (by rw [List.length_set]; omega)] at e
        cases e
    · rw [List.getElem?_set_ne z] at e
      rw [List.getElem?_set_ne z]
      exact q.2 j w e
/-- a world with one tree node more -/
def Wd.addF (W : Wd) (p : Addr) (o : HO) : Wd := { W with F := upd W.F p o }
theorem same_upd {F : Hp} {p : Addr} {o : HO} (h : F p = none) : Same F (upd F p o) := fun a u e => by
  rw [upd_ne (ne_of_none e h)]
  exact e
theorem Sim.free (s : Sim G W S H) {p : Addr} (hp : H p = none) : W.F p = none ∧ W.B p = none := ⟨s.fz.free hp, s.fr.free hp⟩
theorem Wd.le_addF (s : Sim G W S H) {p : Addr} (hp : H p = none) (o : HO) : W.le (W.addF p o) where
  f := same_upd (s.free hp).1
  new := fun a u e => by
    by_cases q : a = p
    · exact .inr (by rw [q]; exact (s.free hp).2)
    · exact .inl (by have e' : upd W.F p o a = some u := e; rw [upd_ne q] at e'; exact e')
  b := rfl
  n := Nat.le_refl _
  at_ := fun _ _ => rfl
theorem Sim.addF (s : Sim G W S H) {p : Addr} (hp : H p = none) (o : HO) : Sim G (W.addF p o) S (upd H p o) where
  fz := fun a u e => by
    by_cases q : a = p
    · subst q
      have e' : upd W.F a o a = some u := e
      rw [upd_same] at e' ⊢
      exact e'
    · have e' : upd W.F p o a = some u := e
      rw [upd_ne q] at e'
      rw [upd_ne q]
      exact s.fz a u e'
  len := s.len
  live := fun k c e d => by
    obtain ⟨h1, h2, u, h3, h4⟩ := s.live k c e d
    have q : W.at_ k ≠ p := ne_of_none h3 hp
    refine ⟨by show upd W.F p o (W.at_ k) = none; rw [upd_ne q]; exact h1, h2, u, by rw [show (W.addF p o).at_ k = W.at_ k from rfl, upd_ne q]; exact h3, h4.mono (Wd.le_addF s hp o)⟩
  inj := s.inj
  fr := fun a u e => by
    rw [upd_ne (ne_of_none (s.fr a u e) hp)]
    exact s.fr a u e
/-- .. with one cell more -/
def Wd.addC (W : Wd) (p : Addr) : Wd := { W with n := W.n + 1, at_ := fun k => if k = W.n then p else W.at_ k }
theorem Wd.le_addC (W : Wd) (p : Addr) : W.le (W.addC p) where
  f := Same.refl _
  new := fun _ _ h => .inl h
  b := rfl
  n := Nat.le_succ _
  at_ := fun k hk => if_neg (Nat.ne_of_lt hk)
theorem Sim.addC (s : Sim G W S H) {p : Addr} {o : HO} {c : Cell} (hp : H p = none) (ok : CellOk G W o c) : Sim G (W.addC p) (S ++ [c]) (upd H p o) := by
  have old : ∀ k, k < S.length → (W.addC p).at_ k = W.at_ k := fun k hk => if_neg (by rw [← s.len]; omega)
  have new : (W.addC p).at_ S.length = p := if_pos s.len
  refine ⟨fun a u e => ?_, by rw [List.length_append, s.len]; rfl, fun k d e nd => ?_, fun j k d1 d2 e1 e2 n1 n2 q => ?_, fun a u e => ?_⟩
  · rw [upd_ne (ne_of_none (s.fz a u e) hp)]
    exact s.fz a u e
  · by_cases hk : k < S.length
    · rw [List.getElem?_append_left hk] at e
      obtain ⟨h1, h2, u, h3, h4⟩ := s.live k d e nd
      rw [old k hk]
      exact ⟨h1, h2, u, by rw [upd_ne (ne_of_none h3 hp)]; exact h3, h4.mono (Wd.le_addC W p)⟩
    · rw [List.getElem?_append_right (by omega)] at e
      have hk0 : k = S.length := by
        cases z : k - S.length with
        | zero => omega
        | succ m => rw [z] at e; simp at e
      subst hk0
      simp at e
      subst e
      rw [new]
      exact ⟨(s.free hp).1, (s.free hp).2, o, upd_same, ok.mono (Wd.le_addC W p)⟩
  · have lt : ∀ (j : Nat) (d : Cell), (S ++ [c])[j]? = some d → j < S.length ∨ j = S.length := fun j d e => by
      have := (List.getElem?_eq_some_iff.mp e).1
      rw [List.length_append] at this
      simp at this
      omega
    rcases lt j d1 e1 with hj | hj <;> rcases lt k d2 e2 with hk | hk
    · rw [old j hj, old k hk] at q
      rw [List.getElem?_append_left hj] at e1
      rw [List.getElem?_append_left hk] at e2
      exact s.inj j k d1 d2 e1 e2 n1 n2 q
    · rw [List.getElem?_append_left hj] at e1
      obtain ⟨_, _, u, h3, _⟩ := s.live j d1 e1 n1
      rw [hk, old j hj, new] at q
      rw [q, hp] at h3
      cases h3
    · rw [List.getElem?_append_left hk] at e2
      obtain ⟨_, _, u, h3, _⟩ := s.live k d2 e2 n2
      rw [hj, old k hk, new] at q
      rw [← q, hp] at h3
      cases h3
    · omega
  · rw [upd_ne (ne_of_none (s.fr a u e) hp)]
    exact s.fr a u e
/-- a cell is written -/
theorem Sim.setC (s : Sim G W S H) {n : Nat} {c c' : Cell} {o : HO} (hn : S[n]? = some c) (hd : c ≠ .dead) (ok : CellOk G W o c') : Sim G W (S.set n c') (upd H (W.at_ n) o) := by
  obtain ⟨l1, l2, _⟩ := s.live n c hn hd
  have hlt := (List.getElem?_eq_some_iff.mp hn).1
  have old : ∀ k d, (S.set n c')[k]? = some d → d ≠ Cell.dead → ∃ e, S[k]? = some e ∧ e ≠ Cell.dead := fun k d e nd => by
    by_cases z : n = k
    · subst z
      exact ⟨c, hn, hd⟩
    · rw [List.getElem?_set_ne z] at e
      exact ⟨d, e, nd⟩
  refine ⟨fun a u e => ?_, by rw [List.length_set]; exact s.len, fun k d e nd => ?_, fun j k d1 d2 e1 e2 n1 n2 q => ?_, fun a u e => ?_⟩
  · rw [upd_ne (ne_of_none e l1)]
    exact s.fz a u e
  · by_cases z : n = k
    · subst z
      rw [List.getElem?_set_self hlt] at e
      cases e
      exact ⟨l1, l2, o, upd_same, ok⟩
    · rw [List.getElem?_set_ne z] at e
      obtain ⟨h1, h2, u, h3, h4⟩ := s.live k d e nd
      exact ⟨h1, h2, u, by rw [upd_ne (fun q => z (s.inj k n d c e hn nd hd q).symm)]; exact h3, h4⟩
  · obtain ⟨x1, y1, z1⟩ := old j d1 e1 n1
    obtain ⟨x2, y2, z2⟩ := old k d2 e2 n2
    exact s.inj j k x1 x2 y1 y2 z1 z2 q
  · rw [upd_ne (ne_of_none e l2)]
    exact s.fr a u e
/-- something new that is nobody's -/
theorem Sim.upd_new (s : Sim G W S H) {p : Addr} (hp : H p = none) (o : HO) : Sim G W S (upd H p o) := by
  refine ⟨fun a u e => ?_, s.len, fun k d e nd => ?_, s.inj, fun a u e => ?_⟩
  · rw [upd_ne (ne_of_none (s.fz a u e) hp)]
    exact s.fz a u e
  · obtain ⟨h1, h2, u, h3, h4⟩ := s.live k d e nd
    exact ⟨h1, h2, u, by rw [upd_ne (ne_of_none h3 hp)]; exact h3, h4⟩
  · rw [upd_ne (ne_of_none (s.fr a u e) hp)]
    exact s.fr a u e
/-- a place that is nobody's -/
structure Out (W : Wd) (S : Store) (p : Addr) : Prop where
  f : W.F p = none
  b : W.B p = none
  c : ∀ k c, S[k]? = some c → c ≠ .dead → W.at_ k ≠ p
theorem Sim.out (s : Sim G W S H) {p : Addr} (hp : H p = none) : Out W S p := ⟨(s.free hp).1, (s.free hp).2, fun k c e d z => by
  obtain ⟨_, _, u, h3, _⟩ := s.live k c e d
  rw [z, hp] at h3
  cases h3⟩
theorem Sim.upd_out (s : Sim G W S H) {p : Addr} (hp : Out W S p) (o : HO) : Sim G W S (upd H p o) := by
  refine ⟨fun a u e => ?_, s.len, fun k d e nd => ?_, s.inj, fun a u e => ?_⟩
  · rw [upd_ne (ne_of_none e hp.f)]
    exact s.fz a u e
  · obtain ⟨h1, h2, u, h3, h4⟩ := s.live k d e nd
    exact ⟨h1, h2, u, by rw [upd_ne (hp.c k d e nd)]; exact h3, h4⟩
  · rw [upd_ne (ne_of_none e hp.b)]
    exact s.fr a u e
/-- .. that becomes a tree's node -/
theorem le_seizeF {p : Addr} (f : W.F p = none) (b : W.B p = none) (o : HO) : W.le (W.addF p o) where
  f := same_upd f
  new := fun a u e => by
    by_cases q : a = p
    · exact .inr (by rw [q]; exact b)
    · exact .inl (by have e' : upd W.F p o a = some u := e; rw [upd_ne q] at e'; exact e')
  b := rfl
  n := Nat.le_refl _
  at_ := fun _ _ => rfl
theorem Sim.seizeF (s : Sim G W S H) {p : Addr} {o : HO} (hp : Out W S p) (h : H p = some o) : Sim G (W.addF p o) S H where
  fz := fun a u e => by
    by_cases q : a = p
    · subst q
      have e' : upd W.F a o a = some u := e
      rw [upd_same] at e'
      rw [h, e']
    · have e' : upd W.F p o a = some u := e
      rw [upd_ne q] at e'
      exact s.fz a u e'
  len := s.len
  live := fun k c e d => by
    obtain ⟨h1, h2, u, h3, h4⟩ := s.live k c e d
    refine ⟨?_, h2, u, h3, h4.mono (le_seizeF hp.f hp.b o)⟩
    show upd W.F p o (W.at_ k) = none
    rw [upd_ne (hp.c k c e d)]
    exact h1
  inj := s.inj
  fr := s.fr
/-- .. that becomes a cell -/
theorem Sim.seizeC (s : Sim G W S H) {p : Addr} {o : HO} {c : Cell} (hp : Out W S p) (h : H p = some o) (ok : CellOk G W o c) : Sim G (W.addC p) (S ++ [c]) H := by
  have old : ∀ k, k < S.length → (W.addC p).at_ k = W.at_ k := fun k hk => if_neg (by rw [← s.len]; omega)
  have new : (W.addC p).at_ S.length = p := if_pos s.len
  have lt : ∀ (j : Nat) (d : Cell), (S ++ [c])[j]? = some d → j < S.length ∨ j = S.length := fun j d e => by
    have := (List.getElem?_eq_some_iff.mp e).1
    rw [List.length_append] at this
    simp at this
    omega
  refine ⟨s.fz, by rw [List.length_append, s.len]; rfl, fun k d e nd => ?_, fun j k d1 d2 e1 e2 n1 n2 q => ?_, s.fr⟩
  · rcases lt k d e with hk | hk
    · rw [List.getElem?_append_left hk] at e
      obtain ⟨h1, h2, u, h3, h4⟩ := s.live k d e nd
      rw [old k hk]
      exact ⟨h1, h2, u, h3, h4.mono (Wd.le_addC W p)⟩
    · subst hk
      simp at e
      subst e
      rw [new]
      exact ⟨hp.f, hp.b, o, h, ok.mono (Wd.le_addC W p)⟩
  · rcases lt j d1 e1 with hj | hj <;> rcases lt k d2 e2 with hk | hk
    · rw [old j hj, old k hk] at q
      rw [List.getElem?_append_left hj] at e1
      rw [List.getElem?_append_left hk] at e2
      exact s.inj j k d1 d2 e1 e2 n1 n2 q
    · rw [List.getElem?_append_left hj] at e1
      rw [hk, old j hj, new] at q
      exact absurd q (hp.c j d1 e1 n1)
    · rw [List.getElem?_append_left hk] at e2
      rw [hj, old k hk, new] at q
      exact absurd q.symm (hp.c k d2 e2 n2)
    · omega
/-- a world that keeps one place more -/
def Wd.pin (W : Wd) (p : Addr) (o : HO) : Wd := { W with B := upd W.B p o }
theorem Sim.pin (s : Sim G W S H) {p : Addr} {o : HO} (hp : Out W S p) (h : H p = some o) : Sim G (W.pin p o) S H where
  fz := s.fz
  len := s.len
  live := fun k c e d => by
    obtain ⟨h1, h2, u, h3, h4⟩ := s.live k c e d
    refine ⟨h1, ?_, u, h3, ?_⟩
    · show upd W.B p o (W.at_ k) = none
      rw [upd_ne (hp.c k c e d)]
      exact h2
    · cases h4 with
      | lst h => exact .lst h
      | ins h => exact .ins h
      | dct h => exact .dct h
  inj := s.inj
  fr := fun a u e => by
    by_cases q : a = p
    · subst q
      have e' : upd W.B a o a = some u := e
      rw [upd_same] at e'
      rw [h, e']
    · have e' : upd W.B p o a = some u := e
      rw [upd_ne q] at e'
      exact s.fr a u e'
theorem RepV.pinned {p : Addr} {o : HO} {x : V} : ∀ {a : Val}, RepV G W x a → RepV G (W.pin p o) x a
  | .t _, r => r
  | .r _, r => r
theorem EnvRep.pinned {p : Addr} {o : HO} (h : EnvRep G W σ env) : EnvRep G (W.pin p o) σ env := ⟨h.1, fun i v e => by
  obtain ⟨x, e1, r⟩ := h.2 i v e
  exact ⟨x, e1, r.imp (fun r => r.pinned) id⟩⟩
/-- .. and back -/
def Wd.unpin (W : Wd) (B : Hp) : Wd := { W with B := B }
theorem RepV.unpinned {B : Hp} {x : V} : ∀ {a : Val}, RepV G W x a → RepV G (W.unpin B) x a
  | .t _, r => r
  | .r _, r => r
theorem EnvRep.unpinned {B : Hp} (h : EnvRep G W σ env) : EnvRep G (W.unpin B) σ env := ⟨h.1, fun i v e => by
  obtain ⟨x, e1, r⟩ := h.2 i v e
  exact ⟨x, e1, r.imp (fun r => r.unpinned) id⟩⟩
theorem unpin_le {p : Addr} {o : HO} (hp : W.F p = none) (l : (W.pin p o).le W') : W.le (W'.unpin W.B) where
  f := l.f
  new := fun a u e => by
    rcases l.new a u e with h | h
    · exact .inl h
    · by_cases q : a = p
      · subst q
        have h : upd W.B a o a = none := h
        rw [upd_same] at h
        cases h
      · have h : upd W.B p o a = none := h
        rw [upd_ne q] at h
        exact .inr h
  b := rfl
  n := l.n
  at_ := l.at_
theorem unpin_sim {p : Addr} {o : HO} (hp : W.F p = none) (hb : W.B p = none) (l : (W.pin p o).le W') (s : Sim G W' S H) : Sim G (W'.unpin W.B) S H ∧ Out (W'.unpin W.B) S p ∧ H p = some o := by
  have eB : W'.B = upd W.B p o := l.b
  have hpB : W'.B p = some o := by rw [eB, upd_same]
  refine ⟨⟨s.fz, s.len, fun k c e d => ?_, s.inj, fun a u e => ?_⟩, ⟨?_, hb, fun k c e d z => ?_⟩, s.fr p o hpB⟩
  · obtain ⟨h1, h2, u, h3, h4⟩ := s.live k c e d
    refine ⟨h1, ?_, u, h3, ?_⟩
    · show W.B (W'.at_ k) = none
      cases q : W.B (W'.at_ k) with
      | none => rfl
      | some v =>
        have z : W'.at_ k ≠ p := fun z => by rw [z, hpB] at h2; cases h2
        rw [eB, upd_ne z, q] at h2
        cases h2
    · cases h4 with
      | lst h => exact .lst (Paired.mono (fun _ _ r => r.unpinned) h)
      | ins h => exact .ins (Paired.mono (fun _ _ r => ⟨r.1, r.2.1, r.2.2.unpinned⟩) h)
      | dct h => exact .dct (Paired.mono (fun _ _ r => ⟨r.1, r.2.unpinned⟩) h)
  · have z : a ≠ p := fun z => by
      have e : W.B a = some u := e
      rw [z, hb] at e
      cases e
    exact s.fr a u (by rw [eB, upd_ne z]; exact e)
  · show W'.F p = none
    cases q : W'.F p with
    | none => rfl
    | some u =>
      rcases l.new p u q with h | h
      · have h : W.F p = some u := h
        rw [hp] at h
        cases h
      · have h : upd W.B p o p = none := h
        rw [upd_same] at h
        cases h
  · obtain ⟨_, h2, _⟩ := s.live k c e d
    have z : W'.at_ k = p := z
    rw [z, hpB] at h2
    cases h2
/-- a cell that stays for good: it becomes a tree's node -/
theorem Sim.bury (s : Sim G W S H) {n : Nat} {c : Cell} (hn : S[n]? = some c) (hd : c ≠ .dead) : Sim G W (S.set n .dead) H ∧ Out W (S.set n .dead) (W.at_ n) := by
  obtain ⟨l1, l2, _⟩ := s.live n c hn hd
  have hlt := (List.getElem?_eq_some_iff.mp hn).1
  have old : ∀ k d, (S.set n Cell.dead)[k]? = some d → d ≠ .dead → S[k]? = some d ∧ n ≠ k := fun k d e nd => by
    by_cases z : n = k
    · subst z
      rw [List.getElem?_set_self hlt] at e
      cases e
      exact absurd rfl nd
    · rw [List.getElem?_set_ne z] at e
      exact ⟨e, z⟩
  refine ⟨⟨s.fz, by rw [List.length_set]; exact s.len, fun k d e nd => s.live k d (old k d e nd).1 nd, fun j k d1 d2 e1 e2 n1 n2 q => s.inj j k d1 d2 (old j d1 e1 n1).1 (old k d2 e2 n2).1 n1 n2 q, s.fr⟩, l1, l2, fun k d e nd z => ?_⟩
  obtain ⟨e1, e2⟩ := old k d e nd
  exact e2 (s.inj k n d c e1 hn nd hd z).symm
end

/-! ### what is wanted behind -/
section
variable {α β γ δ : Type}
def Post (G : Gd) (rep : Wd → β → α → Prop) (Wx : WX) (σ : L2.St) (W : Wd) (r : R α) (Q : β → Hp → Prop) : Prop := match r with
  | .ok a S => ∀ (W' : Wd) (b : β) (H' : Hp), W.le W' → Sim G W' S H' → rep W' b a → Q b H'
  | .ex x S => ∀ (W' : Wd) (cls : Value) (od : Option Addr) (H' : Hp), W.le W' → Sim G W' S H' → ExRep G H' cls od x → Wx cls od σ H'
  | .bad => False
def Den (G : Gd) (rep : Wd → β → α → Prop) (Wx : WX) (f : Env → Store → R α) : L2.St → Hp → (β → Hp → Prop) → Prop := fun σ H Q =>
  ∃ (W : Wd) (env : Env) (S : Store), Sim G W S H ∧ EnvRep G W σ env ∧ Post G rep Wx σ W (f env S) Q
variable {G : Gd} {rep : Wd → β → α → Prop} {rep2 : Wd → δ → γ → Prop} {Wx : WX} {σ : L2.St} {W W' : Wd} {S : Store} {H : Hp} {env : Env} {f : Env → Store → R α} {k : α → Store → R γ} {Q : δ → Hp → Prop} {Kt : β → Hp → Prop}
theorem Post.mono {r : R α} {Q : β → Hp → Prop} (h : Post G rep Wx σ W r Q) (l : W.le W') : Post G rep Wx σ W' r Q := by
  cases r with
  | ok a S => exact fun W2 b H' l2 s e => h W2 b H' (l.trans l2) s e
  | ex x S => exact fun W2 cls od H' l2 s e => h W2 cls od H' (l.trans l2) s e
  | bad => exact h
theorem Den.step (h : Post G rep2 Wx σ W ((f env S).bind k) Q) (s : Sim G W S H) (e : EnvRep G W σ env)
    (c : ∀ (a : α) (S1 : Store) (W1 : Wd) (b : β) (H1 : Hp), f env S = .ok a S1 → W.le W1 → Sim G W1 S1 H1 → EnvRep G W1 σ env → rep W1 b a → Post G rep2 Wx σ W1 (k a S1) Q → Kt b H1) :
    Den G rep Wx f σ H Kt := by
  refine ⟨W, env, S, s, e, ?_⟩
  cases q : f env S with
  | ok a S1 =>
    rw [q] at h
    exact fun W1 b H1 l s1 r => c a S1 W1 b H1 q l s1 (e.mono l) r (Post.mono (show Post G rep2 Wx σ W (k a S1) Q from h) l)
  | ex x S1 =>
    rw [q] at h
    exact h
  | bad =>
    rw [q] at h
    exact (show False from h).elim
/-- the last step -/
theorem Den.last (h : Post G rep Wx σ W (f env S) Kt) (s : Sim G W S H) (e : EnvRep G W σ env) : Den G rep Wx f σ H Kt := ⟨W, env, S, s, e, h⟩
theorem Post.step {r : R α} {β' : Type} {rep' : Wd → β' → α → Prop} {Q : δ → Hp → Prop} {Kt : β' → Hp → Prop} (h : Post G rep2 Wx σ W (r.bind k) Q)
    (c : ∀ (a : α) (S1 : Store) (W1 : Wd) (b : β') (H1 : Hp), r = .ok a S1 → W.le W1 → Sim G W1 S1 H1 → rep' W1 b a → Post G rep2 Wx σ W1 (k a S1) Q → Kt b H1) : Post G rep' Wx σ W r Kt := by
  cases r with
  | ok a S1 => exact fun W1 b H1 l s1 r => c a S1 W1 b H1 rfl l s1 r (Post.mono (show Post G rep2 Wx σ W (k a S1) Q from h) l)
  | ex x S1 => exact h
  | bad => exact h
theorem Post.ok {a : α} {b : β} {Q : β → Hp → Prop} (h : Post G rep Wx σ W (.ok a S) Q) (s : Sim G W S H) (r : rep W b a) : Q b H := h W b H (.refl W) s r
end
section
def PostS (G : Gd) (Wx : WX) (W : Wd) (m : RS) (D : Ends) : Prop := match m with
  | .nx env S => ∀ (W' : Wd) (σ : L2.St) (H : Hp), W.le W' → Sim G W' S H → EnvRep G W' σ env → D.nx σ H
  | .rt v S => ∀ (W' : Wd) (x : V) (H : Hp), W.le W' → Sim G W' S H → RepV G W' x v → D.rt x H
  | .bk env S => ∀ (W' : Wd) (σ : L2.St) (H : Hp), W.le W' → Sim G W' S H → EnvRep G W' σ env → D.bk σ H
  | .ct env S => ∀ (W' : Wd) (σ : L2.St) (H : Hp), W.le W' → Sim G W' S H → EnvRep G W' σ env → D.ct σ H
  | .ex x env S => ∀ (W' : Wd) (σ : L2.St) (cls : Value) (od : Option Addr) (H : Hp), W.le W' → Sim G W' S H → EnvRep G W' σ env → ExRep G H cls od x → Wx cls od σ H
  | .bad => False
def DenS (G : Gd) (Wx : WX) (f : Env → Store → RS) : TS := fun D σ H => ∃ (W : Wd) (env : Env) (S : Store), Sim G W S H ∧ EnvRep G W σ env ∧ PostS G Wx W (f env S) D
variable {α β : Type} {G : Gd} {rep : Wd → β → α → Prop} {Wx : WX} {σ : L2.St} {W W' : Wd} {S : Store} {H : Hp} {env : Env} {f : Env → Store → R α} {k : α → Store → RS} {D : Ends} {Kt : β → Hp → Prop}
theorem PostS.mono {m : RS} (h : PostS G Wx W m D) (l : W.le W') : PostS G Wx W' m D := by
  cases m with
  | nx env S => exact fun W2 σ H l2 s e => h W2 σ H (l.trans l2) s e
  | rt v S => exact fun W2 x H l2 s e => h W2 x H (l.trans l2) s e
  | bk env S => exact fun W2 σ H l2 s e => h W2 σ H (l.trans l2) s e
  | ct env S => exact fun W2 σ H l2 s e => h W2 σ H (l.trans l2) s e
  | ex x env S => exact fun W2 σ cls od H l2 s e => h W2 σ cls od H (l.trans l2) s e
  | bad => exact h
theorem Den.stepS (h : PostS G Wx W ((f env S).st env k) D) (s : Sim G W S H) (e : EnvRep G W σ env)
    (c : ∀ (a : α) (S1 : Store) (W1 : Wd) (b : β) (H1 : Hp), f env S = .ok a S1 → W.le W1 → Sim G W1 S1 H1 → EnvRep G W1 σ env → rep W1 b a → PostS G Wx W1 (k a S1) D → Kt b H1) :
    Den G rep Wx f σ H Kt := by
  refine ⟨W, env, S, s, e, ?_⟩
  cases q : f env S with
  | ok a S1 =>
    rw [q] at h
    exact fun W1 b H1 l s1 r => c a S1 W1 b H1 q l s1 (e.mono l) r (PostS.mono (show PostS G Wx W (k a S1) D from h) l)
  | ex x S1 =>
    rw [q] at h
    exact fun W1 cls od H1 l s1 r => h W1 σ cls od H1 l s1 (e.mono l) r
  | bad =>
    rw [q] at h
    exact (show False from h).elim
end
end Rw

namespace Rw
open PySem PySem.Spec PyProof.Rows L2

/-! ### the check: does the small language's term stand for this piece of syntax -/
structure Ck where
  N : List Str
  sc : Scope
  nm : Nm
  tab : Tab
  glF : Nat → Bool
  calm : Bool
  can : Str → Bool
  top : Bool := false
  hs : Option Nat := none
def visB (sc : Scope) (x : Str) : Bool := match sc.names.lookup x with
  | some .local => true
  | some .cell => true
  | some .free => true
  | _ => false
def glB (sc : Scope) (x : Str) : Bool := match sc.names.lookup x with
  | some .globalImplicit => true
  | _ => false
def okN (x : Str) : Bool := !(x == ("__debug__" : Str)) && (!(x == ("__classdict__" : Str)) && !decide (x = ("__name__" : Str)))
def conB : T → Const → Bool
  | .non, .none => true
  | .bl b, .bool c => b == c
  | .int i, .int j => decide (i = j)
  | .str x, .str y => decide (x = y)
  | _, _ => false
def isSet : Expr → Bool
  | .Set _ _ _ => true
  | _ => false
def isSlc : Expr → Bool
  | .Slice _ _ _ _ => true
  | _ => false
def isStar : Expr → Bool
  | .Starred _ _ => true
  | _ => false
def noStar : List Expr → Bool
  | [] => true
  | e :: es => !isStar e && noStar es
def plainT : Expr → Bool
  | .UnaryOp .Not _ _ => false
  | .BoolOp _ _ _ => false
  | .IfExp _ _ _ _ => false
  | .Compare _ _ _ _ => false
  | _ => true
def isCmpI : IE → Bool
  | .cmp _ _ _ => true
  | .cmp2 _ _ _ _ _ => true
  | .inRg _ _ _ => true
  | _ => false
def bltN : Blt → Str
  | .len => "len" | .int => "int" | .str => "str" | .min2 => "min" | .max2 => "max" | .abs => "abs" | .list => "list" | .tuple => "tuple"
  | .all => "all" | .any => "any" | .sum => "sum" | .minl => "min" | .maxl => "max" | .divmod => "divmod" | .sorted => "sorted" | .bool => "bool"
def tyN (nm : Nm) : Ty → Str
  | .int => "int" | .bool => "bool" | .str => "str" | .list => "list" | .tuple => "tuple" | .dict => "dict" | .cls c => nm.clN c
def isCl (tab : Tab) : Ty → Bool
  | .cls c => (tab.cl c).isSome
  | _ => true
def tysB (C : Ck) : List Ty → List Expr → Bool
  | [], [] => true
  | t :: ts, .Name x _ :: es => glB C.sc x && (okN x && (decide (x = tyN C.nm t) && (isCl C.tab t && tysB C ts es)))
  | _, _ => false
def locB (sc : Scope) (x : Str) : Bool := match sc.names.lookup x with
  | some .local => true
  | some .cell => true
  | _ => false
def isSup : Expr → Bool
  | .Call (.Name x _) [] [] _ => decide (x = ("super" : Str))
  | _ => false
def isTupE : Expr → Bool
  | .Tuple _ _ _ => true
  | _ => false
def chkTg (C : Ck) : List Nat → List Expr → Bool
  | [], [] => true
  | i :: is, .Name x _ :: es => decide (C.N[i]? = some x) && (C.can x && chkTg C is es)
  | _, _ => false
def chkT (C : Ck) (many : Bool) (tg : List Nat) (e : Expr) : Bool := match many, tg, e with
  | false, [i], .Name x _ => decide (C.N[i]? = some x) && C.can x
  | true, is, .Tuple es _ _ => chkTg C is es && C.calm
  | _, _, _ => false
def ownOf (N : List Str) (tg : List Nat) : List (Str × Nat) := tg.map fun i => ((N[i]?).getD Str.empty, i)
/-- a comprehension's own names behind the def's cells -/
def blkSc (sc scope : Scope) : Scope := { scope with names := scope.names.map fun (n, k) => if (k == NameKind.free && sc.kind == .function && sc.names.lookup n == some .cell) then (n, NameKind.cell) else (n, k) }
def Ck.blk (C : Ck) (scope : Scope) : Ck := { C with sc := blkSc C.sc scope, can := locB scope, top := false }
def newB (tab : Tab) (c m : Nat) : Bool := match tab.cl c with
  | some k => (match k.init with
    | some f => arity tab f (m + 1)
    | none => decide (m = 0))
  | none => false
def bmN : BM → Str
  | .append => "append" | .pop => "pop" | .popi => "pop" | .insert => "insert" | .extend => "extend" | .index => "index" | .count => "count"
def bmA : BM → Nat → Bool
  | .pop, n => decide (n = 0)
  | .append, n => decide (n = 1)
  | .insert, n => decide (n = 2)
  | .popi, n => decide (n = 1)
  | .index, n => decide (n = 1)
  | .count, n => decide (n = 1)
  | _, _ => false
/-- t.join(y), t.count(y), D.get(y) -/
def m1P (m : Str) : Expr → Option (Expr × Expr)
  | .Call (.Attribute a n ap) [y] [] cp => if decide (n = m) && (ap.endLine == cp.line) then some (a, y) else none
  | _ => none
theorem m1P_ok {m : Str} {e a y : Expr} (h : m1P m e = some (a, y)) : ∃ ap cp, e = .Call (.Attribute a m ap) [y] [] cp ∧ (ap.endLine == cp.line) = true := by
  unfold m1P at h
  split at h
  · split at h
    · rename_i c
      obtain ⟨c1, c2⟩ := Bool.and_eq_true_iff.mp c
      have c1 := of_decide_eq_true c1
      subst c1
      cases h
      exact ⟨_, _, rfl, c2⟩
    · cases h
  · cases h
def nameP : Expr → Option Str
  | .Name x _ => some x
  | _ => none
theorem nameP_ok {e : Expr} {x : Str} (h : nameP e = some x) : ∃ p, e = .Name x p := by
  unfold nameP at h
  split at h
  · cases h
    exact ⟨_, rfl⟩
  · cases h
def isStrs : Option T → Bool
  | some (.tup ts) => (strsT ts).isSome
  | _ => false
theorem isStrs_ok {o : Option T} (h : isStrs o = true) : ∃ ts ys, o = some (.tup ts) ∧ strsT ts = some ys := by
  unfold isStrs at h
  split at h
  · obtain ⟨ys, e⟩ := Option.isSome_iff_exists.mp h
    exact ⟨_, ys, rfl, e⟩
  · cases h
/-- C.index(y) -/
def cixP : Expr → Option (Str × Expr)
  | .Call (.Attribute (.Name x _) n ap) [y] [] cp => if decide (n = ("index" : Str)) && (ap.endLine == cp.line) then some (x, y) else none
  | _ => none
theorem cixP_ok {e : Expr} {x : Str} {y : Expr} (h : cixP e = some (x, y)) : ∃ p ap cp, e = .Call (.Attribute (.Name x p) "index" ap) [y] [] cp ∧ (ap.endLine == cp.line) = true := by
  unfold cixP at h
  split at h
  · split at h
    · rename_i c
      obtain ⟨c1, c2⟩ := Bool.and_eq_true_iff.mp c
      have c1 := of_decide_eq_true c1
      subst c1
      cases h
      exact ⟨_, _, _, rfl, c2⟩
    · cases h
  · cases h
/-- len(set(y)) -/
def lsP : Expr → Option Expr
  | .Call (.Name x _) [.Call (.Name z _) [y] [] _] [] _ => if decide (x = ("len" : Str)) && decide (z = ("set" : Str)) then some y else none
  | _ => none
theorem lsP_ok {e y : Expr} (h : lsP e = some y) : ∃ p p2 q q2, e = .Call (.Name "len" p) [.Call (.Name "set" p2) [y] [] q] [] q2 := by
  unfold lsP at h
  split at h
  · split at h
    · rename_i c
      obtain ⟨c1, c2⟩ := Bool.and_eq_true_iff.mp c
      have c1 := of_decide_eq_true c1
      have c2 := of_decide_eq_true c2
      subst c1 c2
      cases h
      exact ⟨_, _, _, _, rfl⟩
    · cases h
  · cases h
/-- isinstance(x, C), isinstance(x, (C, ..)) -/
def exP : Expr → Option (Str × Bool × List Expr)
  | .Call (.Name f _) [.Name x _, .Name z zp] [] _ => if decide (f = ("isinstance" : Str)) then some (x, false, [.Name z zp]) else none
  | .Call (.Name f _) [.Name x _, .Tuple zs _ _] [] _ => if decide (f = ("isinstance" : Str)) then some (x, true, zs) else none
  | _ => none
theorem exP_ok {e : Expr} {x : Str} {m : Bool} {zs : List Expr} (h : exP e = some (x, m, zs)) : (m = false ∧ ∃ p p2 z zp q, e = .Call (.Name "isinstance" p) [.Name x p2, .Name z zp] [] q ∧ zs = [.Name z zp]) ∨
    (m = true ∧ ∃ p p2 k tp q, e = .Call (.Name "isinstance" p) [.Name x p2, .Tuple zs k tp] [] q) := by
  unfold exP at h
  split at h
  · split at h
    · rename_i c
      have c1 := of_decide_eq_true c
      subst c1
      cases h
      exact .inl ⟨rfl, _, _, _, _, _, rfl, rfl⟩
    · cases h
  · split at h
    · rename_i c
      have c1 := of_decide_eq_true c
      subst c1
      cases h
      exact .inr ⟨rfl, _, _, _, _, _, rfl⟩
    · cases h
  · cases h
/-- list(range(y)) -/
def lrP : Expr → Option Expr
  | .Call (.Name x _) [.Call (.Name z _) [y] [] _] [] _ => if decide (x = ("list" : Str)) && decide (z = ("range" : Str)) then some y else none
  | _ => none
theorem lrP_ok {e y : Expr} (h : lrP e = some y) : ∃ p p2 q q2, e = .Call (.Name "list" p) [.Call (.Name "range" p2) [y] [] q] [] q2 := by
  unfold lrP at h
  split at h
  · split at h
    · rename_i c
      obtain ⟨c1, c2⟩ := Bool.and_eq_true_iff.mp c
      have c1 := of_decide_eq_true c1
      have c2 := of_decide_eq_true c2
      subst c1 c2
      cases h
      exact ⟨_, _, _, _, rfl⟩
    · cases h
  · cases h
/-- l in range(y) -/
def irP : Expr → Option (Bool × Expr × Expr)
  | .Compare l [.In] [.Call (.Name z _) [y] [] _] _ => if decide (z = ("range" : Str)) then some (false, l, y) else none
  | .Compare l [.NotIn] [.Call (.Name z _) [y] [] _] _ => if decide (z = ("range" : Str)) then some (true, l, y) else none
  | _ => none
theorem irP_ok {e l y : Expr} {neg : Bool} (h : irP e = some (neg, l, y)) : ∃ p2 q p, e = .Compare l [if neg then .NotIn else .In] [.Call (.Name "range" p2) [y] [] q] p := by
  unfold irP at h
  split at h
  · split at h
    · rename_i c
      have c := of_decide_eq_true c
      subst c
      cases h
      exact ⟨_, _, _, rfl⟩
    · cases h
  · split at h
    · rename_i c
      have c := of_decide_eq_true c
      subst c
      cases h
      exact ⟨_, _, _, rfl⟩
    · cases h
  · cases h
def dct0P : Expr → Bool
  | .Dict [] [] _ => true
  | _ => false
theorem dct0P_ok {e : Expr} (h : dct0P e = true) : ∃ p, e = .Dict [] [] p := by
  unfold dct0P at h
  split at h
  · exact ⟨_, rfl⟩
  · cases h
def dct1P : Expr → Option (Int × Int)
  | .Dict [some (.Constant (.int k) _ _)] [.Constant (.int v) _ _] _ => some (k, v)
  | _ => none
theorem dct1P_ok {e : Expr} {k v : Int} (h : dct1P e = some (k, v)) : ∃ a b c d p, e = .Dict [some (.Constant (.int k) a b)] [.Constant (.int v) c d] p := by
  unfold dct1P at h
  split at h
  · cases h
    exact ⟨_, _, _, _, _, rfl⟩
  · cases h
/-- the classes of exceptions that isinstance names -/
def exsB (C : Ck) : List (Option Nat) → List Expr → Bool
  | [], [] => true
  | none :: ts, .Name x _ :: es => glB C.sc x && (okN x && (decide (x = ("ValueError" : Str)) && exsB C ts es))
  | some d :: ts, .Name x _ :: es => glB C.sc x && (okN x && (decide (x = C.nm.exN d) && ((C.tab.exc d).isSome && exsB C ts es)))
  | _, _ => false
def keysB : List Key → List (Option Expr) → Bool
  | [], [] => true
  | .inl i :: ks, some (.Constant (.int j) _ _) :: es => decide (i = j) && keysB ks es
  | .inr x :: ks, some (.Constant (.str y) _ _) :: es => decide (x = y) && keysB ks es
  | _, _ => false
/-- a def that takes the handled exception -/
def hotB (tab : Tab) (f : Nat) : Bool := match tab.fn f with
  | some d => d.hot && decide (d.np = 1)
  | none => false
mutual
def chkE (C : Ck) : IE → Expr → Bool
  | .var i, .Name x _ => decide (C.N[i]? = some x) && (visB C.sc x && (okN x && decide (C.hs ≠ some i)))
  | .listRg a, e => match lrP e with
    | some y => glB C.sc ("list" : Str) && (glB C.sc ("range" : Str) && (chkE C a y && (!isStar y && C.calm)))
    | none => false
  | .inRg neg a b, e => match irP e with
    | some (n2, l, y) => (n2 == neg) && (glB C.sc ("range" : Str) && (chkE C a l && (chkE C b y && !isStar y)))
    | none => false
  | .dct0, e => dct0P e
  | .dct1 k v, e => decide (dct1P e = some (k, v))
  | .dctD _ ks es, .Dict keys values _ => keysB ks keys && (chkEs C es values && (decide (keys.length = values.length) && (nodupK ks && (decide (ks.length ≤ 15) && !ks.isEmpty))))
  | .upd o e, .Call (.Attribute x nm ap) [y] [] cp => chkE C o x && (!isSup x && (decide (nm = ("update" : Str)) && (chkE C e y && (!isStar y && (ap.endLine == cp.line)))))
  | .exIs i many ts, e => match exP e with
    | some (x, m, zs) => decide (C.hs = some i) && (decide (C.N[i]? = some x) && (visB C.sc x && (okN x && (glB C.sc ("isinstance" : Str) && (m == many && (exsB C ts zs && (noStar zs && decide (ts.length ≤ 1000))))))))
    | none => false
  | .hot f i, .Call (.Name g _) [.Name x _] [] _ => decide (C.hs = some i) && (decide (C.N[i]? = some x) && (visB C.sc x && (okN x && (glB C.sc g && (okN g && (decide (g = C.nm.fnN f) && (hotB C.tab f && C.glF f)))))))
  | .con t, .Constant c _ _ => conB t c
  | .bin op a b, .BinOp l o r _ => decide (op = o) && (chkE C a l && chkE C b r)
  | .binM op a b, .BinOp l o r _ => decide (op = o) && (chkE C a l && chkE C b r)
  | .neg a, .UnaryOp .USub e _ => chkE C a e
  | .cmp op a b, .Compare l [o] [r] _ => decide (op = o) && (chkE C a l && (chkE C b r && !isSet r))
  | .cmp2 o p a b c, .Compare l [o2, p2] [m, r] _ => decide (o = o2) && (decide (p = p2) && (chkE C a l && (chkE C b m && (chkE C c r && (!isSet m && !isSet r)))))
  | .not a, .UnaryOp .Not e _ => chkE C a e
  | .ands es, .BoolOp .And vs _ => chkEs C es vs
  | .ors es, .BoolOp .Or vs _ => chkEs C es vs
  | .ife t a b, .IfExp c x y _ => chkC C t c && (chkE C a x && chkE C b y)
  | .tup es, .Tuple xs _ _ => chkEs C es xs && noStar xs
  | .lst _ es, .List xs _ => chkEs C es xs && noStar xs
  | .sub a i, .Subscript e x _ => chkE C a e && (chkE C i x && !isSlc x)
  | .call f es, .Call (.Name x _) xs [] _ => glB C.sc x && (okN x && (decide (x = C.nm.fnN f) && (chkEs C es xs && (noStar xs && (arity C.tab f xs.length && (C.glF f && C.calm))))))
  | .glob g, .Name x _ => glB C.sc x && (okN x && (decide (x = C.nm.coN g) && (C.tab.con g).isSome))
  | .slc _ a lo hi, .Subscript e (.Slice l h none _) _ => chkE C a e && ((match l with
    | none => isNo lo
    | some x => !isNo lo && chkE C lo x) && (match h with
    | none => isNo hi
    | some x => !isNo hi && chkE C hi x))
  | .rev _ a, .Subscript e (.Slice none none (some (.UnaryOp .USub (.Constant (.int i) _ _) _)) _) _ => decide (i = 1) && chkE C a e
  | .fld o f, .Attribute e x _ => chkE C o e && (decide (x = C.nm.atN f) && !isSup e)
  | .new c es, .Call (.Name x _) xs [] _ => glB C.sc x && (okN x && (decide (x = C.nm.clN c) && (chkEs C es xs && (noStar xs && (newB C.tab c xs.length && C.calm)))))
  | .meth o f es, .Call (.Attribute e x ap) xs [] cp => chkE C o e && (!isSup e && (decide (x = C.nm.atN f) && (chkEs C es xs && (noStar xs && (decide (xs.length < 20) && ((ap.endLine == cp.line) && C.calm))))))
  | .cix g i, e => match cixP e with
    | some (x, y) => glB C.sc x && (okN x && (decide (x = C.nm.coN g) && (chkE C i y && (!isStar y && isStrs (C.tab.con g)))))
    | none => false
  | .join a es, e => match m1P "join" e with
    | some (x, y) => chkE C a x && (!isSup x && (chkEs C es [y] && !isStar y))
    | none => false
  | .tcount a es, e => match m1P "count" e with
    | some (x, y) => chkE C a x && (!isSup x && (chkEs C es [y] && !isStar y))
    | none => false
  | .dget g i, e => match m1P "get" e with
    | some (d, y) => (match nameP d with
      | some x => glB C.sc x && (okN x && (decide (x = C.nm.dcN g) && (chkE C i y && (!isStar y && (C.tab.dc g).isSome))))
      | none => false)
    | none => false
  | .lenSet a, e => match lsP e with
    | some y => glB C.sc ("len" : Str) && (glB C.sc ("set" : Str) && (chkE C a y && (!isStar y && C.calm)))
    | none => false
  | .bm b _ o es, .Call (.Attribute e x ap) xs [] cp => chkE C o e && (!isSup e && (decide (x = bmN b) && (chkEs C es xs && (noStar xs && (bmA b xs.length && (ap.endLine == cp.line))))))
  | .comp _ k src many tg ifs elt, .ListComp e [⟨t, it, xs, n⟩] scope _ => decide (n = 0) && (chkIt C t k src it && (L2.blkC C.N C.sc scope (ownOf C.N tg) && (chkT (C.blk scope) many tg t && (chkIfs (C.blk scope) ifs xs && (chkE (C.blk scope) elt e && C.calm)))))
  | .blt b _ es, .Call (.Name x _) (e :: xs) [] _ => glB C.sc x && (okN x && (decide (x = bltN b) && (chkEs C es (e :: xs) && (noStar (e :: xs) && (!needCalm b || C.calm)))))
  | .isi e false [t], .Call (.Name x _) [y, .Name z _] [] _ => glB C.sc x && (okN x && (decide (x = ("isinstance" : Str)) && (chkE C e y && (!isStar y && (glB C.sc z && (okN z && (decide (z = tyN C.nm t) && isCl C.tab t)))))))
  | .isi e true ts, .Call (.Name x _) [y, .Tuple zs _ _] [] _ => glB C.sc x && (okN x && (decide (x = ("isinstance" : Str)) && (chkE C e y && (!isStar y && (tysB C ts zs && (noStar zs && (!ts.isEmpty && decide (ts.length ≤ 1000))))))))
  | _, _ => false
def chkEs (C : Ck) : IEs → List Expr → Bool
  | .nil, [] => true
  | .cons e es, x :: xs => chkE C e x && chkEs C es xs
  | _, _ => false
def chkC (C : Ck) : IC → Expr → Bool
  | .val e, x => chkE C e x && (plainT x || isCmpI e)
  | .not c, .UnaryOp .Not e _ => chkC C c e
  | .ands cs, .BoolOp .And vs _ => chkCs C cs vs && !vs.isEmpty
  | .ors cs, .BoolOp .Or vs _ => chkCs C cs vs && !vs.isEmpty
  | _, _ => false
def chkCs (C : Ck) : ICs → List Expr → Bool
  | .nil, [] => true
  | .cons c cs, x :: xs => chkC C c x && chkCs C cs xs
  | _, _ => false
def chkIfs (C : Ck) : ICs → List Expr → Bool
  | .nil, [] => true
  | .cons c .nil, [x] => chkC C c x
  | _, _ => false
def chkIt (C : Ck) (t : Expr) : ItK → IEs → Expr → Bool
  | .zip, .cons a (.cons b .nil), .Call (.Name x _) [y, z] [] _ => decide (x = ("zip" : Str)) && (glB C.sc x && (chkE C a y && (chkE C b z && (!isStar y && (!isStar z && isTupE t)))))
  | .seq, .cons a .nil, e => chkE C a e && !isSet e
  | .range, .cons a .nil, .Call (.Name x _) [y] [] _ => decide (x = ("range" : Str)) && (glB C.sc x && (chkE C a y && !isStar y))
  | .range, .cons a (.cons b .nil), .Call (.Name x _) [y, z] [] _ => decide (x = ("range" : Str)) && (glB C.sc x && (chkE C a y && (chkE C b z && (!isStar y && !isStar z))))
  | _, _, _ => false
end

/-! ### what is known where a piece runs -/
def dflV (d : Fn) (m : Nat) : List Val := (d.dfl.drop (d.dfl.length - (d.np - m))).map Val.t
/-- a def's promise: what the small language says of it -/
def spR (G : Gd) (np : Nat) (run : List Val → Store → R Val) : Sp := fun vs H Q E => ∃ (W : Wd) (S : Store) (ds : List Val), Sim G W S H ∧ Paired (RepV G W) vs ds ∧ ds.length = np ∧
  Post G (RepV G) (fun c o _ H => E c o H) [] W (run ds S) Q
structure FnFact (G : Gd) (base : Heap) (k : Nat) (f : Nat) (d : Fn) (run : List Val → Store → R Val) : Prop where
  ex : ∃ (fd : FuncData) (ps : List Str), FnOk G.prog G.w G.K G.mg base (L2.CX G.prog G.w) k (G.fA f) fd ps (spR G d.np run) ∧
    ∀ m, m ≤ d.np → d.np - m ≤ d.dfl.length → ∃ (ds : List Value) (dvs : List V), Binds G.K fd ps ds ∧ Vals dvs ds ∧ ∀ W, Paired (RepV G W) dvs (dflV d m)
/-- what a def promises that is called with the exception that is handled -/
structure HotFact (G : Gd) (base : Heap) (k : Nat) (f : Nat) (d : Fn) (run : List Val → Store → R Val) : Prop where
  ex : d.np = 1 → ∃ (fd : FuncData) (q : Str), Binds G.K fd [q] [] ∧ ∀ (h : Option (Nat × Addr × Nat)) (A : Around) (outer : List PySem.Env) (s : Shared) (H : Hp) (args : Args) (W : Wd) (S : Store) (a : Addr) (oe : Obj) (c : Nat) (l : List Nat) (Q : VK), L2H.RoomH k A → L2H.PinOk outer H s (a, oe) →
    Env0 G.prog G.w G.K G.mg base A outer s H → BindsTo s fd args [(q, .ref a)] → Zc (.ref (G.eA c)) none oe → (∃ vs, oe.data = .fields vs) → G.tab.exc c = some l → Sim (G.hd h) W S H → Post (G.hd h) (RepV (G.hd h)) (fun _ _ _ _ => False) [] W (run [.t (.exn c [])] S) Q →
    codeAny (model G.prog G.w) A (.call (.ref (G.fA f)) args) (CR (L2.CX G.prog G.w) outer G.prog G.w H s Q fun _ _ _ => False) s
def tyC (G : Gd) : Ty → Value
  | .int => .type "int" | .bool => .type "bool" | .str => .type "str" | .list => .type "list" | .tuple => .type "tuple" | .dict => .type "dict" | .cls c => .ref (G.cA c)
def tyW (G : Gd) : Ty → V
  | .int => .ty "int" | .bool => .ty "bool" | .str => .ty "str" | .list => .ty "list" | .tuple => .ty "tuple" | .dict => .ty "dict" | .cls c => .ref (G.cA c)
/-- what a class without an __init__ of its own must have to be made -/
structure Mk0 (K : PySem.W.Frag) (C : Addr) : Prop where
  makes : PySem.W.makesIn K C = true
  init : PySem.W.findIn K (.ref C) "__init__" = some (some (.builtin "object.__init__"))
  kp : PySem.W.keepIn K (.ref C) = true
/-- a class as it stands behind the top -/
structure ClsFact (G : Gd) (c : Nat) (cl : Cl) : Prop where
  cls : Cls G.K (G.cA c)
  ha : PySem.W.findIn G.K (.ref (G.cA c)) "__class__" = some (some (.builtin "object.__class__"))
  hn : PySem.W.specialIn G.K (.builtin "object.__class__") "__get__" = some (some (.builtin "getset_descriptor.__get__"))
  htk : PySem.W.takesIn G.K (.builtin "object.__class__") = some true
  hm : PySem.W.mroIn G.K (G.cA c) (.type "object") = some true
  isB : ∀ t ∈ [Ty.int, Ty.bool, Ty.str, Ty.list, Ty.tuple, Ty.dict], PySem.W.kitOne G.K (.ref (G.cA c)) (tyC G t) = some false
  isC : ∀ d cd, G.tab.cl d = some cd → PySem.W.kitOne G.K (.ref (G.cA c)) (.ref (G.cA d)) = some (cl.sup.contains d)
  isD : ∀ t ∈ ["NoneType", "bool", "int", "str", "tuple", "list", "dict"], PySem.W.kitOne G.K (.type t) (.ref (G.cA c)) = some false
  mg : G.mg (G.nm.clN c) = some (.ref (G.cA c))
  na : ∀ f ∈ cl.flds, f < G.nAt ∧ NoAttr G.K (G.cA c) (G.nm.atN f)
  mt : ∀ f g, cl.meths.lookup f = some g → f < G.nAt ∧ Meth G.K (G.cA c) (G.nm.atN f) (G.fA g) ∧ (G.tab.fn g).isSome = true
  mkf : match cl.init with
    | some f => Mk G.K (G.cA c) (G.fA f)
    | none => Mk0 G.K (G.cA c)
/-- a class of exceptions, under ValueError, as it stands behind the top -/
structure ExcFact (G : Gd) (c : Nat) : Prop where
  mg : G.mg (G.nm.exN c) = some (.ref (G.eA c))
  ex : G.tab.exr c = true → PySem.W.excIn G.K (G.eA c) He.veBase "ValueError.__new__" = true ∧ PySem.W.keepIn G.K (.ref (G.eA c)) = true
  sub : PySem.W.subIn G.K (.ref (G.eA c)) (.type "BaseException") = some true
  ty : PySem.W.typeIn G.K (.ref (G.eA c)) = some (.type "type")
  isE : ExcC G.K (G.eA c)
  ve : PySem.W.kitOne G.K (.ref (G.eA c)) (.type "ValueError") = some true
  kO : ∀ lc, G.tab.exc c = some lc → ∀ d l, G.tab.exc d = some l → PySem.W.kitOne G.K (.ref (G.eA c)) (.ref (G.eA d)) = some (lc.contains d) ∧ PySem.W.exmOne G.K (.ref (G.eA c)) (.ref (G.eA d)) = some (lc.contains d)
/-- a flat value -/
def flV : T → Option V
  | .str x => some (.str x)
  | .int i => some (.int i)
  | .bl b => some (.bl b)
  | .non => some .non
  | _ => none
/-- a dict of the module with text keys -/
structure DcFact (G : Gd) (g : Nat) (kvs : List (Str × T)) : Prop where
  ex : ∃ d es n, G.mg (G.nm.dcN g) = some (.ref d) ∧ KDict G.K G.w d es n ∧ ∀ z, ∃ r, PySem.W.nsIn G.K d z = some r ∧ (match kvs.lookup z with
    | none => r = none
    | some t => ∃ u v, r = some u ∧ RelV v u ∧ flV t = some v)
structure XOk (G : Gd) (C : Ck) (X : Cx) (Wx : WX) (k : Nat) (call : Call) : Prop where
  prog : X.prog = G.prog
  w : X.w = G.w
  K : X.K = G.K
  mg : X.mg = G.mg
  N : X.N = C.N
  nd : X.N.Nodup
  sc : X.env.scope = C.sc
  room : C.calm = true → Room (k + 1) X.A
  roomH : L2H.RoomH (k + 1) X.A
  hu : X.A.units + 64 < cLine
  calm : C.calm = true → X.calm = true
  tk : Takes X Wx
  pas : PassesOwn (model X.prog X.w) X.A X.env X.xe
  tab : C.tab = G.tab
  nm : C.nm = G.nm
  free : ∀ x : Str, x ∈ ["len", "int", "str", "min", "max", "abs", "list", "tuple", "all", "any", "sum", "divmod", "sorted", "bool", "isinstance", "range", "enumerate", "zip", "dict", "set", "ValueError"].map Str.ofString → G.mg x = none
  gl : ∀ f, C.glF f = true → G.mg (G.nm.fnN f) = some (.ref (G.fA f)) ∧ PySem.W.keepIn G.K (.ref (G.fA f)) = true
  cls : ∀ (c : Nat) (cl : Cl), G.tab.cl c = some cl → ClsFact G c cl
  fns : C.calm = true → ∀ (f : Nat) (d : Fn), G.tab.fn f = some d → d.hot = false → ∃ run : List Val → Store → R Val, (∀ vs S, call f vs S = run (vs ++ dflV d vs.length) S) ∧ FnFact G X.base k f d run
  fnsH : ∀ (f : Nat) (d : Fn), G.tab.fn f = some d → d.hot = true → ∃ run : List Val → Store → R Val, (∀ vs S, call f vs S = run (vs ++ dflV d vs.length) S) ∧ HotFact G X.base k f d run
  okf : ∀ f g, f < G.nAt → g < G.nAt → G.nm.atN f = G.nm.atN g → f = g
  con : ∀ g t, G.tab.con g = some t → ∃ v u, G.mg (G.nm.coN g) = some u ∧ RelV v u ∧ (∀ F, Rep G F v t) ∧ ∀ ts, t = .tup ts → ∃ p o, v = .ref p ∧ G.K.lookup p = some o ∧ o.cls = .type "tuple" ∧ o.dict = none
  exc : ∀ c l, G.tab.exc c = some l → ExcFact G c
  dc : ∀ g kvs, G.tab.dc g = some kvs → DcFact G g kvs
  hs : G.hs.map (fun h => h.1) = C.hs
  cs : C.calm = true → C.hs = none
  hx : ∀ i a c, G.hs = some (i, a, c) → ∃ (oe : Obj), (a, oe) ∈ X.pn ∧ Zc (.ref (G.eA c)) none oe ∧ (∃ vs, oe.data = .fields vs) ∧ ∃ l, G.tab.exc c = some l
  stk : C.top = true → X.stack = X.env :: X.outer ∧ X.env.frame = some X.env.locals
  can : ∀ (i : Nat) (x : Str), X.N[i]? = some x → C.can x = true → Loc X.env.scope x ∧ (X.fn x = true ∨ X.env.scope.names.lookup x = some .local)

section
variable {X : Cx} {e : Expr} {es : List Expr} {st : Stmt} {sts : List Stmt}
theorem PE.imp {t t' : TE} (h : PE X e t) (f : ∀ σ H Q, t' σ H Q → t σ H Q) : PE X e t' := ⟨fun pins s σ H Q I q => h.run pins s σ H Q I (f σ H Q q)⟩
theorem PT.imp {t t' : TT} (h : PT X e t) (f : ∀ σ H Q, t' σ H Q → t σ H Q) : PT X e t' := ⟨fun pins s σ H Q I q => h.run pins s σ H Q I (f σ H Q q)⟩
theorem PW.imp {t t' : TT} (h : PW X e t) (f : ∀ σ H Q, t' σ H Q → t σ H Q) : PW X e t' := ⟨fun wh pins s σ H Q I q => h.run wh pins s σ H Q I (f σ H Q q)⟩
theorem PA.imp {t t' : TA} (h : PA X es t) (f : ∀ σ H Q, t' σ H Q → t σ H Q) : PA X es t' := ⟨fun pos pins s σ H Q I q => h.run pos pins s σ H Q I (f σ H Q q)⟩
theorem PS.imp {t t' : TS} (h : PS X st t) (f : ∀ D σ H, t' D σ H → t D σ H) : PS X st t' := ⟨fun pins s σ H D I q => h.run pins s σ H D I (f D σ H q)⟩
theorem PSs.imp {t t' : TS} (h : PSs X sts t) (f : ∀ D σ H, t' D σ H → t D σ H) : PSs X sts t' := ⟨fun pins s σ H D I q => h.run pins s σ H D I (f D σ H q)⟩
/-- whichever rule of an operation -/
theorem OpR.any (f : Value → Value → Sem Value) : OpR X f (fun x y H Q => ∃ r : R2, OpR X f r ∧ r x y H Q) := fun pins s σ H x y v u Q I rx ry ⟨_, h, q⟩ => h pins s σ H x y v u Q I rx ry q
theorem IxR.any : IxR X (fun x y H Q => ∃ r : R2, IxR X r ∧ r x y H Q) := fun va sl pins s σ H x y v u Q I rx ry ⟨_, h, q⟩ e => h va sl pins s σ H x y v u Q I rx ry q e
theorem CallR.any (f : Value) : CallR X f (fun vs H Q => ∃ r : List V → Hp → VK → Prop, CallR X f r ∧ r vs H Q) := fun pins s σ H vs us Q I rx ⟨_, h, q⟩ => h pins s σ H vs us Q I rx q
theorem UnR.any (f : Value → Sem Value) : UnR X f (fun x H Q => ∃ r : V → Hp → VK → Prop, UnR X f r ∧ r x H Q) := fun pins s σ H x v Q I rx ⟨_, h, q⟩ => h pins s σ H x v Q I rx q
end
theorem ba {a b : Bool} (h : (a && b) = true) : a = true ∧ b = true := Bool.and_eq_true_iff.mp h
theorem nb {a : Bool} (h : (!a) = true) : a = false := by cases a <;> first | rfl | cases h
section
variable {X : Cx}
theorem okN_1 {x : Str} (h : okN x = true) : (x == ("__debug__" : Str)) = false := nb (ba h).1
theorem okN_2 {x : Str} (h : okN x = true) : (x == ("__classdict__" : Str)) = false := nb (ba (ba h).2).1
theorem okN_3 {x : Str} (h : okN x = true) : x ≠ ("__name__" : Str) := of_decide_eq_false (nb (ba (ba h).2).2)
theorem visB_ok {sc : Scope} {x : Str} (h : visB sc x = true) : Vis sc x := by
  unfold visB at h
  unfold Vis
  cases q : sc.names.lookup x with
  | none => rw [q] at h; cases h
  | some k =>
    rw [q] at h
    cases k with
    | «local» => exact .inl rfl
    | cell => exact .inr (.inl rfl)
    | free => exact .inr (.inr rfl)
    | globalExplicit => cases h
    | globalImplicit => cases h
theorem glB_ok {sc : Scope} {x : Str} (h : glB sc x = true) : sc.names.lookup x = some .globalImplicit := by
  unfold glB at h
  cases q : sc.names.lookup x with
  | none => rw [q] at h; cases h
  | some k =>
    rw [q] at h
    cases k with
    | globalImplicit => rfl
    | «local» => cases h
    | cell => cases h
    | free => cases h
    | globalExplicit => cases h
theorem star_cons {e : Expr} {es : List Expr} (env : PySem.Env) (h : isStar e = false) : starEach (e :: es) env = (false, eval e env) :: starEach es env := by
  cases e <;> first | rfl | cases h
theorem star_any {env : PySem.Env} {pos : Pos} : ∀ {es : List Expr}, noStar es = true → (backTo pos (starEach es env)).any (·.1) = false
  | [], _ => rfl
  | e :: es, h => by
    obtain ⟨h1, h2⟩ := ba h
    rw [star_cons env (nb h1)]
    show (false || (backTo pos (starEach es env)).any (·.1)) = false
    rw [star_any h2]
    rfl
theorem plainT_ok {e : Expr} {env : PySem.Env} (h : plainT e = true) (whole : Sem Value) : isTrue e env whole = (do let v ← whole; standAt e.pos; holding [v] (truthy v)) := by
  cases e with
  | UnaryOp op _ _ => cases op <;> first | rfl | cases h
  | BoolOp _ _ _ => cases h
  | IfExp _ _ _ _ => cases h
  | Compare _ _ _ _ => cases h
  | _ => rfl
theorem isSet_ok {op : CmpOp} {e : Expr} (h : isSet e = false) : behindInMarks op e = false := by
  cases e <;> first | rfl | cases h
theorem isSlc_ok {e : Expr} (h : isSlc e = false) : PlainIx e := by
  intro o i
  cases e <;> first | rfl | cases h
end

/-! ### operations -/
section
variable {G : Gd} {C : Ck} {X : Cx} {Wx : WX} {k : Nat} {call : Call} {W : Wd} {S : Store} {H : Hp} {σ : L2.St} {env : Env} {x y : V} {a b : Val} {Q : VK}
abbrev PostV (G : Gd) := @Post Val V G (RepV G)
theorem post_t {t : T} (h : PostV G Wx σ W (.ok (.t t) S) Q) (s : Sim G W S H) {v : V} (r : Rep G W.F v t) : Q v H := Post.ok h s (show RepV G W v (.t t) from r)
theorem bigI_ok {i j : Int} (h : (bigI i || bigI j) = true) : CMul i j := by
  unfold bigI at h
  simp only [Bool.or_eq_true, decide_eq_true_eq] at h
  show (-(2 ^ 64) < i ∧ i < 2 ^ 64) ∨ (-(2 ^ 64) < j ∧ j < 2 ^ 64)
  omega
/-- a text, a few times -/
theorem mulOk_few {x : Str} {j : Int} (h0 : 0 ≤ j) (h1 : j ≤ 8) (hx : x.length ≤ 1000) : MulOk x j := by
  have tl : ∀ n : Nat, n ≤ 8000 → Builtin.Str.tooLong n = false := fun n hn => by
    show decide (n > sizeLine) = false
    rw [sizeLine_eq]
    exact decide_eq_false (by omega)
  refine ⟨?_, fun _ _ => ?_, fun _ _ => ?_⟩
  · rw [decide_eq_false (by omega), decide_eq_false (by omega)]
    rfl
  · have e : j = 0 ∨ j = 1 ∨ j = 2 ∨ j = 3 ∨ j = 4 ∨ j = 5 ∨ j = 6 ∨ j = 7 ∨ j = 8 := by omega
    rcases e with rfl | rfl | rfl | rfl | rfl | rfl | rfl | rfl | rfl <;> omega
  · refine tl _ ?_
    have : j.toNat ≤ 8 := by omega
    calc x.length * j.toNat ≤ 1000 * 8 := Nat.mul_le_mul hx this
      _ = 8000 := rfl
theorem op_mul_str : OpR X (binaryOp .Mult) (fun x y H Q => ∃ z j, x = .str z ∧ y = .int j ∧ 0 ≤ j ∧ j ≤ 8 ∧ z.length ≤ 1000 ∧ Q (.str (Txt.mul z j)) H) := by
  intro pins s σ H x y v u Q I rx ry h
  obtain ⟨z, j, rfl, rfl, h0, h1, hz, q⟩ := h
  obtain ⟨t, rfl⟩ := rx
  obtain ⟨t', rfl⟩ := ry
  exact SB.mul (mulOk_few h0 h1 hz) fun t'' k => ⟨.str _, H, I.tok _, ⟨_, rfl⟩, q⟩
theorem binA_any (h : PostV G Wx σ W (binA op a b S) Q) (s : Sim G W S H) (rx : RepV G W x a) (ry : RepV G W y b) : ∃ r : R2, OpR X (binaryOp op) r ∧ r x y H Q := by
  cases a with
  | r n => exact (show False from h).elim
  | t a =>
    cases b with
    | r n =>
      have h' : PostV G Wx σ W .bad Q := h
      exact (show False from h').elim
    | t b =>
      have rx : Rep G W.F x a := rx
      have ry : Rep G W.F y b := ry
      have h : PostV G Wx σ W (ofT (binT op a b) S) Q := h
      have no : binT op a b = none → False := fun z => by rw [z] at h; exact h
      cases a with
      | int i =>
        cases b with
        | int j =>
          cases rx
          cases ry
          have h : PostV G Wx σ W (ofT ((binI op i j).map .int) S) Q := h
          cases q : binI op i j with
          | none => rw [q] at h; exact (show False from h).elim
          | some z =>
            rw [q] at h
            have qz : Q (.int z) H := post_t h s (.int z)
            cases op with
            | Add => cases q; exact ⟨_, op_add, i, j, rfl, rfl, qz⟩
            | Sub => cases q; exact ⟨_, op_sub, i, j, rfl, rfl, qz⟩
            | Mult =>
              have q : (if bigI i || bigI j then some (i * j) else none) = some z := q
              split at q
              · rename_i c
                cases q
                exact ⟨_, op_mul, i, j, rfl, rfl, bigI_ok c, qz⟩
              · cases q
            | FloorDiv =>
              have q : (if 0 < j ∧ j.toNat < 1073741824 then some (i / j) else none) = some z := q
              split at q
              · rename_i c
                cases q
                exact ⟨_, op_fdiv, i, j, rfl, rfl, ⟨c.1, by omega⟩, qz⟩
              · cases q
            | Mod =>
              have q : (if 0 < j then some (i % j) else none) = some z := q
              split at q
              · rename_i c
                cases q
                exact ⟨_, op_mod, i, j, rfl, rfl, c, qz⟩
              · cases q
            | Pow =>
              have q : (if (0 ≤ j ∧ j.toNat ≤ 1000000) ∧ i.natAbs < 18446744073709551616 then some (i ^ j.toNat) else none) = some z := q
              split at q
              · rename_i c
                cases q
                exact ⟨_, op_pow, i, j, rfl, rfl, ⟨c.1.1, by omega, by omega⟩, qz⟩
              · cases q
            | LShift =>
              have q : (if (0 ≤ j ∧ j.toNat ≤ 1000000) ∧ i.natAbs < 18446744073709551616 then some (i * 2 ^ j.toNat) else none) = some z := q
              split at q
              · rename_i c
                cases q
                exact ⟨_, op_shl, i, j, rfl, rfl, ⟨c.1.1, by omega, by omega⟩, qz⟩
              · cases q
            | RShift =>
              have q : (if 0 ≤ j then some (i / 2 ^ j.toNat) else none) = some z := q
              split at q
              · rename_i c
                cases q
                exact ⟨_, op_shr, i, j, rfl, rfl, c, qz⟩
              · cases q
            | BitAnd => cases q; exact ⟨_, op_and, i, j, rfl, rfl, qz⟩
            | BitOr => cases q; exact ⟨_, op_or, i, j, rfl, rfl, qz⟩
            | BitXor => cases q; exact ⟨_, op_xor, i, j, rfl, rfl, qz⟩
            | MatMult => cases q
            | Div => cases q
        | _ => exact (no rfl).elim
      | str u =>
        cases b with
        | str v =>
          cases rx
          cases ry
          have h2 : PostV G Wx σ W (ofT (if op = .Add ∧ u.length + v.length ≤ szLine then some (.str (u ++ v)) else none) S) Q := h
          by_cases c : op = .Add ∧ u.length + v.length ≤ szLine
          · rw [if_pos c] at h2
            obtain ⟨c1, c2⟩ := c
            subst c1
            exact ⟨_, op_add_str, u, v, rfl, rfl, c2, post_t h2 s (.str _)⟩
          · rw [if_neg c] at h2
            exact (show False from h2).elim
        | int j =>
          cases rx
          cases ry
          have h2 : PostV G Wx σ W (ofT (if op = .Mult ∧ (0 ≤ j ∧ j ≤ 8) ∧ u.length ≤ 1000 then some (.str (Txt.mul u j)) else none) S) Q := h
          by_cases c : op = .Mult ∧ (0 ≤ j ∧ j ≤ 8) ∧ u.length ≤ 1000
          · rw [if_pos c] at h2
            obtain ⟨c1, ⟨c2, c3⟩, c4⟩ := c
            subst c1
            exact ⟨_, op_mul_str, u, j, rfl, rfl, c2, c3, c4, post_t h2 s (.str _)⟩
          · rw [if_neg c] at h2
            exact (show False from h2).elim
        | _ => exact (no rfl).elim
      | _ => exact (no rfl).elim
/-- what is peeked stands in the heap -/
theorem allT_rep : ∀ {ws : List Val} {xs : List T} {vs : List V}, Paired (RepV G W) vs ws → allT ws = some xs → RepL G W.F vs xs
  | [], _, _, r, e => by
    cases r
    cases e
    exact .nil
  | .t x :: ws, _, _, r, e => by
    cases r with
    | cons r rr =>
      have e1 : (allT ws).map (x :: ·) = some _ := e
      obtain ⟨ys, e2, e3⟩ := Option.map_eq_some_iff.mp e1
      subst e3
      exact .cons r (allT_rep rr e2)
  | .r n :: ws, _, _, _, e => by cases e
theorem lst_rep {xs : List T} (s : Sim G W S H) (r : RepV G W x a) (e : lstT S a = some xs) : ∃ p vs, x = .ref p ∧ H p = some (.lst vs) ∧ RepL G W.F vs xs := by
  cases a with
  | t u =>
    cases u with
    | lst ys =>
      cases e
      cases r with
      | lst hF r => exact ⟨_, _, rfl, s.fz _ _ hF, r⟩
    | _ => cases e
  | r n =>
    obtain ⟨hn, ex⟩ := r
    subst ex
    have e1 : (match S[n]? with
      | some (.lst vs) => allT vs
      | _ => none) = some xs := e
    cases q : S[n]? with
    | none => rw [q] at e1; cases e1
    | some c =>
      rw [q] at e1
      cases c with
      | lst ws =>
        obtain ⟨_, _, o, ho, ok⟩ := s.live n _ q (by intro z; cases z)
        cases ok with
        | lst hp => exact ⟨_, _, rfl, ho, allT_rep hp e1⟩
      | dead => cases e1
      | ins _ _ => cases e1
      | dct _ => cases e1
theorem RepL.app {F : Hp} : ∀ {xs ys : List T} {vs us : List V}, RepL G F vs xs → RepL G F us ys → RepL G F (vs ++ us) (xs ++ ys)
  | [], _, _, _, r, q => by cases r; exact q
  | x :: xs, _, _, _, r, q => by
    cases r with
    | cons h r => exact .cons h (r.app q)
theorem RepL.rep {F : Hp} {xs : List T} {vs : List V} (r : RepL G F vs xs) : ∀ n, RepL G F (List.replicate n vs).flatten (List.replicate n xs).flatten
  | 0 => .nil
  | n + 1 => by
    rw [List.replicate_succ, List.flatten_cons, List.replicate_succ, List.flatten_cons]
    exact r.app (r.rep n)
/-- a new tree of a list -/
theorem new_lst {xs : List T} {vs : List V} (h : PostV G Wx σ W (.ok (.t (.lst xs)) S) Q) (s : Sim G W S H) (r : RepL G W.F vs xs) : ∀ p, H p = none → Q (.ref p) (upd H p (.lst vs)) := fun p hp => by
  refine h (W.addF p (.lst vs)) (.ref p) _ (Wd.le_addF s hp _) (s.addF hp _) ?_
  exact .lst upd_same (RepL.mono (Wd.le_addF s hp _).f xs vs r)
theorem new_tup {xs : List T} {vs : List V} (h : PostV G Wx σ W (.ok (.t (.tup xs)) S) Q) (s : Sim G W S H) (r : RepL G W.F vs xs) : ∀ p, H p = none → Q (.ref p) (upd H p (.tup vs)) := fun p hp => by
  refine h (W.addF p (.tup vs)) (.ref p) _ (Wd.le_addF s hp _) (s.addF hp _) ?_
  exact .tup (.inl (.inl upd_same)) (RepL.mono (Wd.le_addF s hp _).f xs vs r)
theorem peek_rep {t : T} (s : Sim G W S H) (r : RepV G W x a) (e : peek S a = some t) : Rep G H x t := by
  cases a with
  | t u =>
    cases e
    exact Rep.mono s.fz t x r
  | r n =>
    obtain ⟨hn, ex⟩ := r
    subst ex
    have e1 : (match S[n]? with
      | some (.lst vs) => (allT vs).map .lst
      | _ => none) = some t := e
    cases q : S[n]? with
    | none => rw [q] at e1; cases e1
    | some c =>
      rw [q] at e1
      cases c with
      | lst ws =>
        obtain ⟨xs, e2, e3⟩ := Option.map_eq_some_iff.mp e1
        subst e3
        obtain ⟨_, _, o, ho, ok⟩ := s.live n _ q (by intro z; cases z)
        cases ok with
        | lst hp => exact .lst ho (RepL.mono s.fz xs _ (allT_rep hp e2))
      | dead => cases e1
      | ins _ _ => cases e1
      | dct _ => cases e1
theorem op_eqP (hu : X.A.units + 64 < cLine) : OpR X (compareOp .Eq) (fun x y H Q => ∃ d e, Dp X.K H x d ∧ Dp X.K H y e ∧ d.plain = true ∧ e.plain = true ∧ min d.depth e.depth ≤ 60 ∧ Q (.bl (PyData.eqv d e)) H) := by
  intro pins s σ H x y v u Q I rx ry ⟨d, e, hd, he, pd, pe, hm, q⟩
  obtain ⟨as, r1⟩ := Dp.reads I d x v hd rx
  obtain ⟨bs, r2⟩ := Dp.reads I e y u he ry
  exact PySem.SeqAt.eq_plain r1 r2 pd pe (by omega) ⟨.bl _, H, I, rfl, q⟩
theorem op_neP (hu : X.A.units + 64 < cLine) : OpR X (compareOp .NotEq) (fun x y H Q => ∃ d e, Dp X.K H x d ∧ Dp X.K H y e ∧ d.plain = true ∧ e.plain = true ∧ min d.depth e.depth ≤ 60 ∧ Q (.bl (!PyData.eqv d e)) H) := by
  intro pins s σ H x y v u Q I rx ry ⟨d, e, hd, he, pd, pe, hm, q⟩
  obtain ⟨as, r1⟩ := Dp.reads I d x v hd rx
  obtain ⟨bs, r2⟩ := Dp.reads I e y u he ry
  exact PySem.SeqAt.ne_plain r1 r2 pd pe (by omega) ⟨.bl _, H, I, rfl, q⟩
theorem op_inL (hu : X.A.units + 64 < cLine) (neg : Bool) : OpR X (compareOp (if neg then .NotIn else .In)) (fun x y H Q => ∃ d ds, Dp X.K H x d ∧ Dp X.K H y (.list ds) ∧ d.plain = true ∧ PyData.plainAll ds = true ∧ min (PyData.depthAll ds) d.depth ≤ 60 ∧
    Q (.bl (if neg then !ds.any (fun y => PyData.eqv y d) else ds.any fun y => PyData.eqv y d)) H) := by
  intro pins s σ H x y v u Q I rx ry ⟨d, ds, hd, he, pd, pe, hm, q⟩
  obtain ⟨as, r1⟩ := Dp.reads I d x v hd rx
  obtain ⟨bs, r2⟩ := Dp.reads I (.list ds) y u he ry
  cases neg with
  | false => exact PySem.SeqAt.in_list_data r2 r1 pe pd (by omega) ⟨.bl _, H, I, rfl, q⟩
  | true => exact PySem.SeqAt.notIn_list_data r2 r1 pe pd (by omega) ⟨.bl _, H, I, rfl, q⟩
theorem op_inU (hu : X.A.units + 64 < cLine) (neg : Bool) : OpR X (compareOp (if neg then .NotIn else .In)) (fun x y H Q => ∃ d ds, Dp X.K H x d ∧ Dp X.K H y (.tuple ds) ∧ d.plain = true ∧ PyData.plainAll ds = true ∧ min (PyData.depthAll ds) d.depth ≤ 60 ∧
    Q (.bl (if neg then !ds.any (fun y => PyData.eqv y d) else ds.any fun y => PyData.eqv y d)) H) := by
  intro pins s σ H x y v u Q I rx ry ⟨d, ds, hd, he, pd, pe, hm, q⟩
  obtain ⟨as, r1⟩ := Dp.reads I d x v hd rx
  obtain ⟨bs, r2⟩ := Dp.reads I (.tuple ds) y u he ry
  cases neg with
  | false => exact PySem.SeqAt.in_tuple_data r2 r1 pe pd (by omega) ⟨.bl _, H, I, rfl, q⟩
  | true => exact PySem.SeqAt.notIn_tuple_data r2 r1 pe pd (by omega) ⟨.bl _, H, I, rfl, q⟩
theorem cr_range1 : CallR X (.type "range") (fun vs H Q => ∃ j, vs = [V.int j] ∧ ∀ p, H p = none → Q (.ref p) (upd H p (.rng 0 j))) := by
  intro pins s σ H vs us Q I r h
  obtain ⟨j, rfl, q⟩ := h
  obtain ⟨u1, rfl, ri⟩ := r.one
  obtain ⟨t, rfl⟩ := ri
  refine PySem.call_range_1 ⟨.ref s.heap.objs.size, upd H s.heap.objs.size (.rng 0 j), I.laid (t' := s.toks + 1 + 1) (fun b o e => Heap.get?_push_of_some _ e) (Nat.le_refl _) ?_, rfl, q _ (I.hok.fresh (Nat.le_refl _))⟩
  exact ⟨_, _, _, Heap.get?_push_size _ rfl⟩
theorem op_rg (neg : Bool) : OpR X (compareOp (if neg then .NotIn else .In)) (fun x y H Q => ∃ i a lo hi, x = V.int i ∧ y = V.ref a ∧ H a = some (.rng lo hi) ∧ Q (.bl (if neg then !decide (lo ≤ i ∧ i < hi) else decide (lo ≤ i ∧ i < hi))) H) := by
  cases neg with
  | false => exact op_in_rng
  | true =>
    intro pins s σ H x y v u Q I rx ry h
    obtain ⟨i, a, lo, hi, rfl, rfl, ha, q⟩ := h
    obtain ⟨k, rfl⟩ := rx
    obtain rfl : u = Value.ref a := ry
    obtain ⟨t1, t2, t3, ho⟩ := I.hok a _ ha
    show wpAny _ _ (do return Value.bool (!(← contains (Value.ref a) (Value.int i k)))) _ _ s
    refine wpAny_bind (wpAny_contains_slot (T := "range") ⟨_, ho, rfl⟩ F.slot_range_contains (call_meets F.slot_range_contains ⟨_, ho, rfl⟩ F.entry_range_contains (F.args_range_contains_2 _ _) (q_contains a lo hi i t1 t2 t3 k)
      ⟨ho, wpAny_truthy_bool (wpAny_pure ⟨.bl _, H, I, rfl, ?_⟩)⟩))
    rw [place1]
    exact q
theorem isNon_iff {t : T} (r : Rep G H x t) : decide (x = .non) = isNon t := by
  cases r <;> rfl
theorem eqT_some {t u : T} {k : Bool} (e : eqT t u = some k) : ∃ d f, t.py = some d ∧ u.py = some f ∧ min d.depth f.depth ≤ 60 ∧ k = PyData.eqv d f := by
  unfold eqT at e
  split at e
  · rename_i d f h1 h2
    split at e
    · rename_i c
      cases e
      exact ⟨d, f, h1, h2, c, rfl⟩
    · cases e
  · cases e
theorem in_any (hK : X.K = G.K) (hu : X.A.units + 64 < cLine) {t u : T} {k : Bool} (neg : Bool) (e : inT t u = some k) (rx : Rep G H x t) (ry : Rep G H y u) (q : Q (.bl (if neg then !k else k)) H) :
    ∃ r : R2, OpR X (compareOp (if neg then .NotIn else .In)) r ∧ r x y H Q := by
  unfold inT at e
  split at e
  · rename_i d xs h1
    obtain ⟨ds, e1, e2⟩ := Option.bind_eq_some_iff.mp e
    split at e2
    · rename_i c
      cases e2
      refine ⟨_, op_inL hu neg, d, ds, by rw [hK]; exact Rep.dp t x d rx h1, by rw [hK]; exact Rep.dp (.lst xs) y (.list ds) ry (by show (T.pys xs).map PyData.list = _; rw [e1]; rfl), py_plain t d h1, pys_plain xs ds e1, c, q⟩
    · cases e2
  · rename_i d xs h1
    obtain ⟨ds, e1, e2⟩ := Option.bind_eq_some_iff.mp e
    split at e2
    · rename_i c
      cases e2
      refine ⟨_, op_inU hu neg, d, ds, by rw [hK]; exact Rep.dp t x d rx h1, by rw [hK]; exact Rep.dp (.tup xs) y (.tuple ds) ry (by show (T.pys xs).map PyData.tuple = _; rw [e1]; rfl), py_plain t d h1, pys_plain xs ds e1, c, q⟩
    · cases e2
  · cases t with
    | str z =>
      cases rx
      cases ry
      cases e
      cases neg with
      | false => exact ⟨_, op_in_str, _, _, rfl, rfl, q⟩
      | true => exact ⟨_, op_notin_str, _, _, rfl, rfl, q⟩
    | _ => cases e
  · cases e
theorem cmpW_any (hK : X.K = G.K) (hu : X.A.units + 64 < cLine) (h : PostV G Wx σ W (cmpW op a b S) Q) (s : Sim G W S H) (rx : RepV G W x a) (ry : RepV G W y b) : ∃ r : R2, OpR X (compareOp op) r ∧ r x y H Q := by
  unfold cmpW at h
  cases e1 : peek S a with
  | none => rw [e1] at h; exact (show False from h).elim
  | some t =>
    cases e2 : peek S b with
    | none => rw [e1, e2] at h; exact (show False from h).elim
    | some u =>
      rw [e1, e2] at h
      have rt := peek_rep s rx e1
      have ru := peek_rep s ry e2
      have h : PostV G Wx σ W (ofT ((cmpT op t u).map .bl) S) Q := h
      cases e : cmpT op t u with
      | none => rw [e] at h; exact (show False from h).elim
      | some k =>
        rw [e] at h
        have q : Q (.bl k) H := post_t h s (.bl k)
        have ord : ∀ {op : CmpOp}, ordO op t u = some k → ∃ i j, x = .int i ∧ y = .int j ∧ k = ordT op i j := fun {op} e => by
          cases t with
          | int i =>
            cases u with
            | int j =>
              cases rt
              cases ru
              cases e
              exact ⟨i, j, rfl, rfl, rfl⟩
            | _ => cases e
          | _ => cases e
        cases op with
        | Eq =>
          obtain ⟨d, f, h1, h2, c, e3⟩ := eqT_some e
          subst e3
          exact ⟨_, op_eqP hu, d, f, by rw [hK]; exact Rep.dp t x d rt h1, by rw [hK]; exact Rep.dp u y f ru h2, py_plain t d h1, py_plain u f h2, c, q⟩
        | NotEq =>
          obtain ⟨k', e4, e5⟩ := Option.map_eq_some_iff.mp (show (eqT t u).map not = some k from e)
          obtain ⟨d, f, h1, h2, c, e3⟩ := eqT_some e4
          subst e3 e5
          exact ⟨_, op_neP hu, d, f, by rw [hK]; exact Rep.dp t x d rt h1, by rw [hK]; exact Rep.dp u y f ru h2, py_plain t d h1, py_plain u f h2, c, q⟩
        | In => exact in_any hK hu false (show inT t u = some k from e) rt ru q
        | NotIn =>
          obtain ⟨k', e4, e5⟩ := Option.map_eq_some_iff.mp (show (inT t u).map not = some k from e)
          subst e5
          exact in_any hK hu true e4 rt ru q
        | Is =>
          have e3 : (if isNon u then some (isNon t) else isB t u) = some k := e
          split at e3
          · rename_i c
            cases e3
            have : y = .non := of_decide_eq_true ((isNon_iff ru).trans c)
            exact ⟨_, op_isN, this, by rw [isNon_iff rt]; exact q⟩
          · cases t with
            | bl i =>
              cases u with
              | bl j =>
                cases rt
                cases ru
                cases e3
                rw [show (i == j) = decide (i = j) from Bool.beq_eq_decide_eq i j] at q
                exact ⟨_, op_isBl, i, j, rfl, rfl, q⟩
              | _ => cases e3
            | _ => cases e3
        | IsNot =>
          have e3 : (if isNon u then some (!isNon t) else none) = some k := e
          split at e3
          · rename_i c
            cases e3
            have : y = .non := of_decide_eq_true ((isNon_iff ru).trans c)
            exact ⟨_, op_notN, this, by rw [isNon_iff rt]; exact q⟩
          · cases e3
        | Lt =>
          obtain ⟨i, j, e3, e4, e5⟩ := ord (op := .Lt) e
          exact ⟨_, op_lt, i, j, e3, e4, by rw [e5] at q; exact q⟩
        | LtE =>
          obtain ⟨i, j, e3, e4, e5⟩ := ord (op := .LtE) e
          exact ⟨_, op_le, i, j, e3, e4, by rw [e5] at q; exact q⟩
        | Gt =>
          obtain ⟨i, j, e3, e4, e5⟩ := ord (op := .Gt) e
          exact ⟨_, op_gt, i, j, e3, e4, by rw [e5] at q; exact q⟩
        | GtE =>
          obtain ⟨i, j, e3, e4, e5⟩ := ord (op := .GtE) e
          exact ⟨_, op_ge, i, j, e3, e4, by rw [e5] at q; exact q⟩
theorem cmp_any (hK : X.K = G.K) (hu : X.A.units + 64 < cLine) (h : PostV G Wx σ W (cmpV op a b S) Q) (s : Sim G W S H) (rx : RepV G W x a) (ry : RepV G W y b) : ∃ r : R2, OpR X (compareOp op) r ∧ r x y H Q := by
  unfold cmpV at h
  split at h
  · obtain ⟨_, ex⟩ := rx
    subst ex
    cases ry
    exact ⟨_, op_isN, rfl, by rw [decide_eq_false (by intro z; cases z)]; exact post_t h s (.bl false)⟩
  · obtain ⟨_, ex⟩ := rx
    subst ex
    cases ry
    exact ⟨_, op_notN, rfl, by rw [decide_eq_false (by intro z; cases z)]; exact post_t h s (.bl true)⟩
  · exact cmpW_any hK hu h s rx ry
theorem isE_eq {α β : Type} : ∀ {l : List α} {m : List β}, l.length = m.length → l.isEmpty = m.isEmpty
  | [], [], _ => rfl
  | _ :: _, _ :: _, _ => rfl
  | [], _ :: _, h => by cases h
  | _ :: _, [], h => by cases h
theorem truV_st {γ δ : Type} {rep : Wd → δ → γ → Prop} {f : Bool → Store → R γ} {Q : δ → Hp → Prop} (h : Post G rep Wx σ W ((truV a S).bind f) Q) (s : Sim G W S H) (rx : RepV G W x a) : ∃ k, TruV G.K x H k ∧ Post G rep Wx σ W (f k S) Q := by
  cases a with
  | r n =>
    obtain ⟨hn, ex⟩ := rx
    subst ex
    have h : Post G rep Wx σ W ((match S[n]? with
      | some (.lst vs) => R.ok (!vs.isEmpty) S
      | _ => .bad).bind f) Q := h
    cases q : S[n]? with
    | none => rw [q] at h; exact (show False from h).elim
    | some c =>
      rw [q] at h
      cases c with
      | lst vs =>
        obtain ⟨_, _, o, ho, ok⟩ := s.live n _ q (by intro z; cases z)
        cases ok with
        | lst hp => exact ⟨_, .inl ⟨_, .of ho, rfl⟩, by rw [isE_eq hp.length]; exact h⟩
      | _ => exact (show False from h).elim
  | t t =>
    have h : Post G rep Wx σ W ((ofO (truT t) S).bind f) Q := h
    have no : truT t = none → False := fun z => by rw [z] at h; exact h
    cases t with
    | bl k =>
      cases rx
      exact ⟨k, rfl, h⟩
    | non =>
      cases rx
      exact ⟨false, rfl, h⟩
    | int i =>
      cases rx
      exact ⟨_, rfl, h⟩
    | str y =>
      cases rx
      have h : Post G rep Wx σ W ((ofO (if y.length ≤ szLine then some ((y.length : Int) != 0) else none) S).bind f) Q := h
      by_cases c : y.length ≤ szLine
      · rw [if_pos c] at h
        exact ⟨_, ⟨c, rfl⟩, h⟩
      · rw [if_neg c] at h
        exact (show False from h).elim
    | tup xs =>
      cases rx with
      | tup hF r => exact ⟨_, .inr (.inl ⟨_, sameT s.fz hF, rfl⟩), by rw [isE_eq r.length]; exact h⟩
    | lst xs =>
      cases rx with
      | lst hF r => exact ⟨_, .inl ⟨_, .of (s.fz _ _ hF), rfl⟩, by rw [isE_eq r.length]; exact h⟩
    | scr ns =>
      cases rx with
      | scr hF => exact ⟨_, .inl ⟨_, s.fz.seq hF, rfl⟩, by rw [isE_eq (List.length_map _)]; exact h⟩
    | _ => exact (no rfl).elim
theorem tru_post {Q : Bool → Hp → Prop} (h : Post G (fun _ (b c : Bool) => b = c) Wx σ W (truV a S) Q) (s : Sim G W S H) (rx : RepV G W x a) : ∃ k, TruV G.K x H k ∧ Q k H := by
  have h2 : Post G (fun _ (b c : Bool) => b = c) Wx σ W ((truV a S).bind fun k S => .ok k S) Q := by
    cases z : truV a S with
    | ok k S2 => rw [z] at h; exact h
    | ex x S2 => rw [z] at h; exact h
    | bad => rw [z] at h; exact h
  obtain ⟨k, h3, h4⟩ := truV_st h2 s rx
  exact ⟨k, h3, Post.ok (rep := fun _ (b c : Bool) => b = c) h4 s rfl⟩
theorem alloc_post {m : Bool} {ws : List Val} {vs : List V} (h : PostV G Wx σ W (alloc m ws S) Q) (s : Sim G W S H) (r : Paired (RepV G W) vs ws) : vs.length ≤ sizeLine ∧ ∀ p, H p = none → Q (.ref p) (upd H p (.lst vs)) := by
  unfold alloc at h
  by_cases c : ws.length ≤ szLine
  · rw [if_pos c] at h
    refine ⟨by rw [r.length]; exact c, fun p hp => ?_⟩
    cases m with
    | true =>
      have h : PostV G Wx σ W (.ok (.r S.length) (S ++ [.lst ws])) Q := h
      refine h (W.addC p) (.ref p) _ (Wd.le_addC W p) (s.addC hp (.lst r)) ⟨?_, ?_⟩
      · show S.length < W.n + 1
        rw [s.len]
        exact Nat.lt_succ_self _
      · show V.ref p = V.ref (if S.length = W.n then p else _)
        rw [if_pos s.len]
    | false =>
      have h : PostV G Wx σ W (match allT ws with
        | some xs => .ok (.t (.lst xs)) S
        | none => .bad) Q := h
      cases e : allT ws with
      | none => rw [e] at h; exact (show False from h).elim
      | some xs =>
        rw [e] at h
        refine h (W.addF p (.lst vs)) (.ref p) _ (Wd.le_addF s hp _) (s.addF hp _) ?_
        exact .lst upd_same (RepL.mono (Wd.le_addF s hp _).f xs vs (allT_rep r e))
  · rw [if_neg c] at h
    exact (show False from h).elim
theorem vals_repL {vs : List V} : ∀ {xs : List T} {vs : List V}, RepL G W.F vs xs → Paired (RepV G W) vs (xs.map .t)
  | [], _, r => by cases r; exact .nil
  | x :: xs, _, r => by
    cases r with
    | cons h r => exact .cons (show RepV G W _ (.t x) from h) (vals_repL (vs := []) r)
theorem alloc_len {m : Bool} {ws : List Val} (h : PostV G Wx σ W (alloc m ws S) Q) : ws.length ≤ szLine := by
  unfold alloc at h
  split at h
  · assumption
  · exact (show False from h).elim
theorem flat_len {α : Type} (xs : List α) : ∀ n, (List.replicate n xs).flatten.length = xs.length * n
  | 0 => rfl
  | n + 1 => by rw [List.replicate_succ, List.flatten_cons, List.length_append, flat_len xs n, Nat.mul_succ, Nat.add_comm]
theorem lstV_rep {ws : List Val} (s : Sim G W S H) (r : RepV G W x a) (e : lstV S a = some ws) : ∃ p vs, x = .ref p ∧ H p = some (.lst vs) ∧ Paired (RepV G W) vs ws := by
  cases a with
  | t u =>
    cases u with
    | lst xs =>
      cases e
      cases r with
      | lst hF r => exact ⟨_, _, rfl, s.fz _ _ hF, vals_repL (vs := []) r⟩
    | _ => cases e
  | r n =>
    obtain ⟨hn, ex⟩ := r
    subst ex
    have e1 : (match S[n]? with
      | some (.lst vs) => some vs
      | _ => none) = some ws := e
    cases q : S[n]? with
    | none => rw [q] at e1; cases e1
    | some c =>
      rw [q] at e1
      cases c with
      | lst us =>
        cases e1
        obtain ⟨_, _, o, ho, ok⟩ := s.live n _ q (by intro z; cases z)
        cases ok with
        | lst hp => exact ⟨_, _, rfl, ho, hp⟩
      | dead => cases e1
      | ins _ _ => cases e1
      | dct _ => cases e1
theorem Paired.app2 {α β : Type} {P : α → β → Prop} {us : List α} {ws : List β} (q : Paired P us ws) : ∀ {xs : List α} {ys : List β}, Paired P xs ys → Paired P (xs ++ us) (ys ++ ws)
  | _, _, .nil => q
  | _, _, .cons r t => .cons r (Paired.app2 q t)
theorem Paired.rep2 {α β : Type} {P : α → β → Prop} {us : List α} {ws : List β} (q : Paired P us ws) : ∀ n, Paired P (List.replicate n us).flatten (List.replicate n ws).flatten
  | 0 => .nil
  | n + 1 => by
    rw [List.replicate_succ, List.replicate_succ, List.flatten_cons, List.flatten_cons]
    exact Paired.app2 (Paired.rep2 q n) q
theorem binL_any {m : Bool} (h : PostV G Wx σ W (binL m op a b S) Q) (s : Sim G W S H) (rx : RepV G W x a) (ry : RepV G W y b) : ∃ r : R2, OpR X (binaryOp op) r ∧ r x y H Q := by
  have no : ∀ {P : Prop}, PostV G Wx σ W .bad Q → P := fun z => (show False from z).elim
  unfold binL at h
  cases e : lstV S a with
  | none => rw [e] at h; exact no h
  | some xs =>
    rw [e] at h
    obtain ⟨p, vs, rfl, hp, r1⟩ := lstV_rep s rx e
    cases op with
    | Add =>
      have h : PostV G Wx σ W (match lstV S b with
        | some ys => alloc m (xs ++ ys) S
        | none => .bad) Q := h
      cases e2 : lstV S b with
      | none => rw [e2] at h; exact no h
      | some ys =>
        rw [e2] at h
        obtain ⟨q, us, rfl, hq, r2⟩ := lstV_rep s ry e2
        have h : PostV G Wx σ W (alloc m (xs ++ ys) S) Q := h
        have c := alloc_len h
        rw [List.length_append] at c
        exact ⟨_, op_cat, p, q, vs, us, rfl, rfl, hp, hq, by rw [Paired.length r1, Paired.length r2]; exact c, (alloc_post h s (Paired.app2 r2 r1)).2⟩
    | Mult =>
      cases b with
      | r n => exact no h
      | t u =>
        cases u with
        | int k =>
          cases ry
          have h : PostV G Wx σ W (if k.natAbs < 9223372036854775808 then alloc m (List.replicate k.toNat xs).flatten S else .bad) Q := h
          split at h
          · rename_i c
            have c2 := alloc_len h
            rw [flat_len] at c2
            exact ⟨_, op_rep, p, k, vs, rfl, rfl, hp, by omega, by omega, by rw [Paired.length r1]; exact c2, (alloc_post h s (Paired.rep2 r1 k.toNat)).2⟩
          · exact no h
        | _ => exact no h
    | _ => exact no h
theorem RepL.app2 {F : Hp} : ∀ {xs ys : List T} {vs us : List V}, RepL G F vs xs → RepL G F us ys → RepL G F (vs ++ us) (xs ++ ys)
  | [], _, _, _, h, k => by cases h; exact k
  | x :: xs, _, _, _, h, k => by
    cases h with
    | cons h r => exact .cons h (RepL.app2 r k)
theorem catT_any (hK : X.K = G.K) (h : PostV G Wx σ W (catT op a b S) Q) (s : Sim G W S H) (rx : RepV G W x a) (ry : RepV G W y b) : ∃ r : R2, OpR X (binaryOp op) r ∧ r x y H Q := by
  unfold catT at h
  split at h
  · rename_i us ws
    cases rx with
    | @tup pa va _ hx rlx =>
    cases ry with
    | @tup pb vb _ hy rly =>
    split at h
    · rename_i c2
      refine ⟨_, op_catA, pa, pb, va, vb, rfl, rfl, by rw [hK]; exact sameT s.fz hx, by rw [hK]; exact sameT s.fz hy, by rw [rlx.length, rly.length]; exact c2, fun e => ?_, fun e1 e2 => ?_, fun e1 e2 p hp => ?_⟩
      · subst e
        cases us with
        | nil => exact post_t h s (.tup hy rly)
        | cons _ _ => cases rlx
      · subst e2
        cases ws with
        | nil => rw [List.append_nil] at h; exact post_t h s (.tup hx rlx)
        | cons _ _ => cases rly
      · exact h (W.addF p (.tup (va ++ vb))) (.ref p) _ (Wd.le_addF s hp _) (s.addF hp _) (.tup (.inl (.inl upd_same)) (RepL.mono (Wd.le_addF s hp _).f _ _ (RepL.app2 rlx rly)))
    · exact (show False from h).elim
  · exact (show False from h).elim
theorem bin_any (hK : X.K = G.K) (h : PostV G Wx σ W (binV op a b S) Q) (s : Sim G W S H) (rx : RepV G W x a) (ry : RepV G W y b) : ∃ r : R2, OpR X (binaryOp op) r ∧ r x y H Q := by
  unfold binV at h
  split at h
  · exact binL_any h s rx ry
  · split at h
    · exact catT_any hK h s rx ry
    · exact binA_any h s rx ry
theorem tup_post {ws : List Val} {vs : List V} (h : PostV G Wx σ W (if ws.length ≤ szLine then ofT ((allT ws).map .tup) S else .bad) Q) (s : Sim G W S H) (r : Paired (RepV G W) vs ws) : vs.length ≤ sizeLine ∧ ∀ p, H p = none → Q (.ref p) (upd H p (.tup vs)) := by
  by_cases c : ws.length ≤ szLine
  · rw [if_pos c] at h
    refine ⟨by rw [r.length]; exact c, fun p hp => ?_⟩
    cases e : allT ws with
    | none => rw [e] at h; exact (show False from h).elim
    | some xs =>
      rw [e] at h
      have h : PostV G Wx σ W (.ok (.t (.tup xs)) S) Q := h
      refine h (W.addF p (.tup vs)) (.ref p) _ (Wd.le_addF s hp _) (s.addF hp _) ?_
      exact .tup (.inl (.inl upd_same)) (RepL.mono (Wd.le_addF s hp _).f xs vs (allT_rep r e))
  · rw [if_neg c] at h
    exact (show False from h).elim
theorem ix_eq (n : Nat) (i : Int) : ixN n i = ix n i := rfl
theorem atI_eq {α : Type} (xs : List α) (i : Int) : atI xs i = atL xs i := rfl
theorem atL_ex {α : Type} {xs : List α} {i : Int} {v : α} (h : atL xs i = some v) : ∃ j, ix xs.length i = some j ∧ xs[j]? = some v := Option.bind_eq_some_iff.mp h
theorem atL_rep {xs : List T} {vs : List V} {F : Hp} {i : Int} {t : T} (r : RepL G F vs xs) (h : atL xs i = some t) : ∃ v, atI vs i = some v ∧ Rep G F v t := by
  obtain ⟨j, h1, h2⟩ := atL_ex h
  obtain ⟨v, h3, h4⟩ := r.get h2
  refine ⟨v, ?_, h4⟩
  unfold atI
  rw [ix_eq, r.length, h1]
  exact h3
theorem Paired.get {α β : Type} {P : α → β → Prop} : ∀ {xs : List α} {ys : List β} {i : Nat} {y : β}, Paired P xs ys → ys[i]? = some y → ∃ x, xs[i]? = some x ∧ P x y
  | _, _, _, _, .nil, e => by simp at e
  | _, _, 0, y, .cons r _, e => by
    simp at e
    subst e
    exact ⟨_, rfl, r⟩
  | _, _, i + 1, y, .cons _ t, e => by
    obtain ⟨x, h1, h2⟩ := Paired.get (i := i) t (by simpa using e)
    exact ⟨x, by simpa using h1, h2⟩
/-! dicts -/
theorem keyEq_eq : ∀ (a b : Key), keyEq a b = decide (a = b)
  | .inl i, .inl j => by
    show (i == j) = _
    by_cases e : i = j
    · subst e; rw [beq_self_eq_true, decide_eq_true rfl]
    · rw [beq_eq_false_iff_ne.mpr e, decide_eq_false fun z => e (Sum.inl.inj z)]
  | .inr x, .inr y => by
    show (x == y) = _
    by_cases e : x = y
    · subst e; rw [beq_self_eq_true, decide_eq_true rfl]
    · rw [beq_eq_false_iff_ne.mpr e, decide_eq_false fun z => e (Sum.inr.inj z)]
  | .inl _, .inr _ => (decide_eq_false fun z => nomatch z).symm
  | .inr _, .inl _ => (decide_eq_false fun z => nomatch z).symm
abbrev DR (G : Gd) (W : Wd) : (Key × V) → (Key × Val) → Prop := fun p q => p.1 = q.1 ∧ RepV G W p.2 q.2
theorem lookK_rel {k : Key} : ∀ {gs : List (Key × V)} {kvs : List (Key × Val)}, Paired (DR G W) gs kvs → ∀ {v : Val}, lookK kvs k = some v → ∃ x, valV gs k = some x ∧ RepV G W x v
  | _, _, .nil, _, h => nomatch h
  | _, _, .cons (a := p) (b := q) (l₁ := gs) (l₂ := kvs) r rr, v, h => by
    obtain ⟨e1, r1⟩ := r
    have h : (if keyEq q.1 k then some q.2 else lookK kvs k) = some v := h
    rw [keyEq_eq] at h
    by_cases e : q.1 = k
    · rw [if_pos (decide_eq_true e)] at h
      cases h
      exact ⟨p.2, valV_pos (e1.trans e), r1⟩
    · rw [if_neg (by rw [decide_eq_false e]; exact Bool.false_ne_true)] at h
      rw [valV_neg fun z => e (e1.symm.trans z)]
      exact lookK_rel rr h
theorem lookK_repD {F : Hp} {k : Key} : ∀ {gs : List (Key × V)} {fs : List (Key × T)}, RepD G F gs fs → ∀ {t : T}, lookK fs k = some t → ∃ x, valV gs k = some x ∧ Rep G F x t
  | _, _, .nil, _, h => nomatch h
  | _, _, .cons (v := v0) (k := k0) (x := x0) (vs := gs) (xs := fs) r rr, t, h => by
    have h : (if keyEq k0 k then some x0 else lookK fs k) = some t := h
    rw [keyEq_eq] at h
    by_cases e : k0 = k
    · rw [if_pos (decide_eq_true e)] at h
      cases h
      exact ⟨v0, valV_pos (p := (k0, v0)) e, r⟩
    · rw [if_neg (by rw [decide_eq_false e]; exact Bool.false_ne_true)] at h
      rw [valV_neg (p := (k0, v0)) e]
      exact lookK_repD rr h
theorem putKV_rel {gs : List (Key × V)} {kvs : List (Key × Val)} (r : Paired (DR G W) gs kvs) (k : Key) {x : V} {v : Val} (rv : RepV G W x v) : Paired (DR G W) (putK gs k x) (putKV kvs k v) := by
  have e : (gs.any fun kv => decide (kv.1 = k)) = kvs.any fun p => keyEq p.1 k := by
    induction r with
    | nil => rfl
    | cons h t ih => rw [List.any_cons, List.any_cons, ih, keyEq_eq, h.1]
  have m : Paired (DR G W) (gs.map fun kv => if kv.1 = k then (kv.1, x) else kv) (kvs.map fun p => if keyEq p.1 k then (p.1, v) else p) := by
    clear e
    induction r with
    | nil => exact .nil
    | @cons p q _ _ h t ih =>
      rw [List.map_cons, List.map_cons]
      refine .cons ?_ ih
      rw [keyEq_eq]
      by_cases z : p.1 = k
      · rw [if_pos z, if_pos (decide_eq_true (h.1.symm.trans z))]
        exact ⟨h.1, rv⟩
      · rw [if_neg z, if_neg (by rw [decide_eq_false fun y => z (h.1.trans y)]; exact Bool.false_ne_true)]
        exact h
  unfold putK putKV
  rw [e]
  split
  · exact m
  · exact Paired.snoc r ⟨rfl, rv⟩
theorem mergeKV_rel : ∀ {ms : List (Key × V)} {more : List (Key × Val)}, Paired (DR G W) ms more → ∀ {gs : List (Key × V)} {kvs : List (Key × Val)}, Paired (DR G W) gs kvs → Paired (DR G W) (mergeK gs ms) (mergeKV kvs more)
  | _, _, .nil, _, _, r => r
  | _, _, .cons (a := p) (b := q) (l₁ := ms) (l₂ := more) h t, gs, kvs, r => by
    have z := putKV_rel r p.1 h.2
    rw [h.1] at z
    show Paired (DR G W) (mergeK (putK gs p.1 p.2) ms) (mergeKV (putKV kvs q.1 q.2) more)
    rw [h.1]
    exact mergeKV_rel t z
def rIxK : R2 := fun x y H Q => ∃ a v, x = .ref a ∧ DGet H a y (some v) ∧ Q v H
theorem ix_dict {X : Cx} (hu : X.A.units + 1 < cLine) : IxR X rIxK := by
  intro value slice pins s σ H x y v u Q I rx ry h hs
  obtain ⟨a, w, ex, g, q⟩ := h
  subst ex
  cases rx
  exact tail_any (dict_typeIs I g) PySem.F.slot_dict_getitem.lookup (d_getItem hu I g ry fun w' s' I' r' => ⟨w, H, I', r', q⟩) hs
theorem sub_dct {X : Cx} {Q : VK} (hu : X.A.units + 1 < cLine) {ad : Addr} {gs : List (Key × V)} {kvs : List (Key × Val)} {k : Key} (h : PostV G Wx σ W (ofO (lookK kvs k) S) Q) (s : Sim G W S H) (hH : H ad = some (.dK gs)) (r : Paired (DR G W) gs kvs) :
    ∃ r : R2, IxR X r ∧ r (.ref ad) (kV k) H Q := by
  cases e : lookK kvs k with
  | none => rw [e] at h; exact (show False from h).elim
  | some v =>
    rw [e] at h
    obtain ⟨x, e1, r1⟩ := lookK_rel r e
    exact ⟨rIxK, ix_dict hu, ad, x, rfl, by rw [← e1]; exact DGet.k hH, Post.ok h s r1⟩
theorem sub_dctT {X : Cx} {Q : VK} (hu : X.A.units + 1 < cLine) {ad : Addr} {gs : List (Key × V)} {kvs : List (Key × T)} {k : Key} (h : PostV G Wx σ W (ofT (lookK kvs k) S) Q) (s : Sim G W S H) (hF : W.F ad = some (.dK gs)) (r : RepD G W.F gs kvs) :
    ∃ r : R2, IxR X r ∧ r (.ref ad) (kV k) H Q := by
  cases e : lookK kvs k with
  | none => rw [e] at h; exact (show False from h).elim
  | some v =>
    rw [e] at h
    obtain ⟨x, e1, r1⟩ := lookK_repD r e
    exact ⟨rIxK, ix_dict hu, ad, x, rfl, by rw [← e1]; exact DGet.k (s.fz _ _ hF), Post.ok h s (show RepV G W x (.t v) from r1)⟩
theorem sub_any (hK : X.K = G.K) (hu : X.A.units + 1 < cLine) (h : PostV G Wx σ W (subV a b S) Q) (s : Sim G W S H) (rx : RepV G W x a) (ry : RepV G W y b) : ∃ r : R2, IxR X r ∧ r x y H Q := by
  have no : ∀ {P : Prop}, PostV G Wx σ W .bad Q → P := fun z => (show False from z).elim
  cases b with
  | r n =>
    cases a with
    | r m => exact no h
    | t t => cases t <;> exact no h
  | t u =>
    cases u with
    | int i =>
      cases ry
      cases a with
      | r n =>
        obtain ⟨hn, ex⟩ := rx
        subst ex
        have h : PostV G Wx σ W (match S[n]? with
          | some (.lst vs) => ofO (atL vs i) S
          | some (.dct kvs) => ofO (lookK kvs (.inl i)) S
          | _ => .bad) Q := h
        cases q : S[n]? with
        | none => rw [q] at h; exact no h
        | some c =>
          rw [q] at h
          cases c with
          | lst ws =>
            have h : PostV G Wx σ W (ofO (atL ws i) S) Q := h
            obtain ⟨_, _, o, ho, ok⟩ := s.live n _ q (by intro z; cases z)
            cases ok with
            | @lst vs _ hp =>
              cases e : atL ws i with
              | none => rw [e] at h; exact no h
              | some w =>
                rw [e] at h
                obtain ⟨j, h1, h2⟩ := atL_ex e
                obtain ⟨v, h3, h4⟩ := Paired.get hp h2
                refine ⟨_, ix_list, _, vs, i, v, rfl, rfl, SqL.of ho, ?_, Post.ok h s h4⟩
                unfold atI
                rw [ix_eq, Paired.length hp, h1]
                exact h3
          | dead => exact no h
          | ins _ _ => exact no h
          | dct kvs =>
            obtain ⟨_, _, o, ho, ok⟩ := s.live n _ q (by intro z; cases z)
            cases ok with
            | dct hp => exact sub_dct hu h s ho hp
      | t t =>
        cases t with
        | lst xs =>
          cases rx with
          | lst hF r =>
            have h : PostV G Wx σ W (ofT (atL xs i) S) Q := h
            cases e : atL xs i with
            | none => rw [e] at h; exact no h
            | some t =>
              rw [e] at h
              obtain ⟨v, h1, h2⟩ := atL_rep r e
              exact ⟨_, ix_list, _, _, i, v, rfl, rfl, SqL.of (s.fz _ _ hF), h1, post_t h s h2⟩
        | tup xs =>
          cases rx with
          | tup hF r =>
            have h : PostV G Wx σ W (ofT (atL xs i) S) Q := h
            cases e : atL xs i with
            | none => rw [e] at h; exact no h
            | some t =>
              rw [e] at h
              obtain ⟨v, h1, h2⟩ := atL_rep r e
              exact ⟨_, ix_tup, _, _, i, v, rfl, rfl, by rw [hK]; exact sameT s.fz hF, h1, post_t h s h2⟩
        | scr ns =>
          cases rx with
          | scr hF =>
            have h : PostV G Wx σ W (ofT ((atL ns i).map .int) S) Q := h
            cases e : atL ns i with
            | none => rw [e] at h; exact no h
            | some m =>
              rw [e] at h
              obtain ⟨j, h1, h2⟩ := atL_ex e
              refine ⟨_, ix_list, _, _, i, .int m, rfl, rfl, by rw [hK]; exact s.fz.seq hF, ?_, post_t h s (.int m)⟩
              unfold atI
              rw [ix_eq, List.length_map, h1]
              show (ns.map V.int)[j]? = _
              rw [List.getElem?_map, h2]
              rfl
        | dct kvs =>
          cases rx with
          | dct hF r => exact sub_dctT hu h s hF r
        | str z =>
          cases rx
          have h : PostV G Wx σ W (if z.length ≤ szLine then ofT ((atL z.cps.toList i).map fun c => .str ⟨#[c]⟩) S else .bad) Q := h
          by_cases cz : z.length ≤ szLine
          · rw [if_pos cz] at h
            cases e : atL z.cps.toList i with
            | none => rw [e] at h; exact no h
            | some c =>
              rw [e] at h
              exact ⟨_, ix_str, z, i, c, rfl, rfl, cz, e, post_t h s (.str _)⟩
          · rw [if_neg cz] at h
            exact no h
        | _ => exact no h
    | str z =>
      cases ry
      cases a with
      | r n =>
        obtain ⟨hn, ex⟩ := rx
        subst ex
        have h : PostV G Wx σ W (match S[n]? with
          | some (.dct kvs) => ofO (lookK kvs (.inr z)) S
          | _ => .bad) Q := h
        cases q : S[n]? with
        | none => rw [q] at h; exact no h
        | some c =>
          rw [q] at h
          cases c with
          | dct kvs =>
            obtain ⟨_, _, o, ho, ok⟩ := s.live n _ q (by intro z; cases z)
            cases ok with
            | dct hp => exact sub_dct hu h s ho hp
          | _ => exact no h
      | t t =>
        cases t with
        | dct kvs =>
          cases rx with
          | dct hF r => exact sub_dctT hu h s hF r
        | _ => exact no h
    | _ =>
      cases a with
      | r m => exact no h
      | t t => cases t <;> exact no h
end
end Rw

namespace Rw
open PySem PySem.Spec PyProof.Rows L2
section
variable {G : Gd} {C : Ck} {X : Cx} {Wx : WX} {k : Nat} {call : Call} {W : Wd} {S : Store} {H : Hp} {σ : L2.St} {env : Env} {x y : V} {a b : Val} {Q : VK}
abbrev tE (G : Gd) (Wx : WX) (call : Call) (e : IE) : TE := Den G (RepV G) Wx (dE G.tab call e)
abbrev tEs (G : Gd) (Wx : WX) (call : Call) (es : IEs) : TA := Den G (fun W => Paired (RepV G W)) Wx (dEs G.tab call es)
abbrev tB (G : Gd) (Wx : WX) (call : Call) (c : IC) : TT := Den G (fun _ (b k : Bool) => b = k) Wx (dB G.tab call c)
abbrev tAndC (G : Gd) (Wx : WX) (call : Call) (cs : ICs) : TT := Den G (fun _ (b k : Bool) => b = k) Wx (dAnd G.tab call cs)
abbrev tOrC (G : Gd) (Wx : WX) (call : Call) (cs : ICs) : TT := Den G (fun _ (b k : Bool) => b = k) Wx (dOr G.tab call cs)
theorem one_arg {a : Val} {vs : List V} (r : Paired (RepV G W) vs [a]) : ∃ v, vs = [v] ∧ RepV G W v a := by
  cases r with
  | cons r rr => cases rr; exact ⟨_, rfl, r⟩
theorem two_args {a b : Val} {vs : List V} (r : Paired (RepV G W) vs [a, b]) : ∃ v w, vs = [v, w] ∧ RepV G W v a ∧ RepV G W w b := by
  cases r with
  | cons r rr =>
    cases rr with
    | cons r2 rr => cases rr; exact ⟨_, _, rfl, r, r2⟩
theorem XOk.kindOf (ok : XOk G C X Wx k call) {x : Str} (h : glB C.sc x = true) : Gl X x := by
  show X.env.scope.names.lookup x = _
  rw [ok.sc]
  exact glB_ok h
theorem XOk.vis (ok : XOk G C X Wx k call) {x : Str} (h : visB C.sc x = true) : Vis X.env.scope x := by
  rw [ok.sc]
  exact visB_ok h
def bltTy : Blt → Option String
  | .int => some "int" | .str => some "str" | .list => some "list" | .tuple => some "tuple" | .bool => some "bool"
  | _ => none
def bltId : Blt → String
  | .len => "len" | .min2 => "min" | .max2 => "max" | .abs => "abs" | .all => "all" | .any => "any" | .sum => "sum" | .minl => "min" | .maxl => "max" | .divmod => "divmod" | .sorted => "sorted"
  | _ => ""
def bltF (b : Blt) : Value := match bltTy b with
  | some t => .type t
  | none => .builtin (bltId b)
theorem blt_boot (b : Blt) : bootBuiltins (bltN b) = some (bltF b) := by
  cases b <;> decide +kernel
theorem blt_free (ok : XOk G C X Wx k call) (b : Blt) : X.mg (bltN b) = none := by
  rw [ok.mg]
  refine ok.free _ ?_
  cases b <;> decide +kernel
/-- a call of a builtin -/
theorem pe_blt (ok : XOk G C X Wx k call) {b : Blt} {e : Expr} {es : List Expr} {p pos : Pos} {t : TA} {r : List V → Hp → VK → Prop} (hr : CallR X (bltF b) r) (hg : Gl X (bltN b)) (ha : PA X (e :: es) t) (hs : noStar (e :: es) = true)
    (n1 : bltN b ≠ "__name__") (n2 : (bltN b == ("__debug__" : Str)) = false) : PE X (.Call (.Name (bltN b) p) (e :: es) [] pos) (fun σ H Q => t σ H fun vs H1 => r vs H1 Q) := by
  have hb := blt_boot b
  have h1 := star_cons (es := es) X.env (nb (ba hs).1)
  have h2 := star_any (env := X.env) (pos := pos) (ba hs).2
  cases q : bltTy b with
  | none =>
    have ef : bltF b = .builtin (bltId b) := by unfold bltF; rw [q]
    rw [ef] at hr hb
    exact pe_callB hr hg (blt_free ok b) hb ha n1 n2 h1 h2
  | some T =>
    have ef : bltF b = .type T := by unfold bltF; rw [q]
    rw [ef] at hr hb
    exact pe_callTy hr hg (blt_free ok b) hb ha n1 n2 h1 h2
theorem vals_ints : ∀ ns : List Int, Paired (RepV G W) (ns.map V.int) (ns.map fun n => Val.t (.int n))
  | [] => .nil
  | n :: ns => .cons (show Rep G W.F (.int n) (.int n) from .int n) (vals_ints ns)
theorem listV_rep {ws : List Val} (s : Sim G W S H) (r : RepV G W x a) (e : listV S a = some ws) : ∃ p vs, x = .ref p ∧ SqL G.K H p vs ∧ Paired (RepV G W) vs ws := by
  cases a with
  | t u =>
    cases u with
    | lst xs =>
      cases e
      cases r with
      | lst hF r => exact ⟨_, _, rfl, SqL.of (s.fz _ _ hF), vals_repL (vs := []) r⟩
    | scr ns =>
      cases e
      cases r with
      | scr hF => exact ⟨_, _, rfl, s.fz.seq hF, vals_ints ns⟩
    | _ => cases e
  | r n =>
    obtain ⟨hn, ex⟩ := r
    subst ex
    have e1 : (match S[n]? with
      | some (.lst vs) => some vs
      | _ => none) = some ws := e
    cases q : S[n]? with
    | none => rw [q] at e1; cases e1
    | some c =>
      rw [q] at e1
      cases c with
      | lst us =>
        cases e1
        obtain ⟨_, _, o, ho, ok⟩ := s.live n _ q (by intro z; cases z)
        cases ok with
        | lst hp => exact ⟨_, _, rfl, SqL.of ho, hp⟩
      | dead => cases e1
      | ins _ _ => cases e1
      | dct _ => cases e1
theorem allB_rep : ∀ {ws : List Val} {bs : List Bool} {vs : List V}, Paired (RepV G W) vs ws → allB ws = some bs → vs = bs.map V.bl
  | [], _, _, r, e => by cases r; cases e; rfl
  | .t (.bl b) :: ws, _, _, r, e => by
    cases r with
    | cons r rr =>
      obtain ⟨cs, e2, e3⟩ := Option.map_eq_some_iff.mp (show (allB ws).map (b :: ·) = some _ from e)
      subst e3
      cases r
      rw [allB_rep rr e2]
      rfl
  | .r n :: ws, _, _, _, e => by cases e
  | .t .non :: _, _, _, _, e => by cases e
  | .t (.int _) :: _, _, _, _, e => by cases e
  | .t (.str _) :: _, _, _, _, e => by cases e
  | .t (.tup _) :: _, _, _, _, e => by cases e
  | .t (.lst _) :: _, _, _, _, e => by cases e
  | .t (.ins _ _) :: _, _, _, _, e => by cases e
  | .t (.dct _) :: _, _, _, _, e => by cases e
  | .t (.fn _) :: _, _, _, _, e => by cases e
  | .t (.scr _) :: _, _, _, _, e => by cases e
theorem allI_rep : ∀ {ws : List Val} {bs : List Int} {vs : List V}, Paired (RepV G W) vs ws → allI ws = some bs → vs = bs.map V.int
  | [], _, _, r, e => by cases r; cases e; rfl
  | .t (.int b) :: ws, _, _, r, e => by
    cases r with
    | cons r rr =>
      obtain ⟨cs, e2, e3⟩ := Option.map_eq_some_iff.mp (show (allI ws).map (b :: ·) = some _ from e)
      subst e3
      cases r
      rw [allI_rep rr e2]
      rfl
  | .r n :: ws, _, _, _, e => by cases e
  | .t .non :: _, _, _, _, e => by cases e
  | .t (.bl _) :: _, _, _, _, e => by cases e
  | .t (.str _) :: _, _, _, _, e => by cases e
  | .t (.tup _) :: _, _, _, _, e => by cases e
  | .t (.lst _) :: _, _, _, _, e => by cases e
  | .t (.ins _ _) :: _, _, _, _, e => by cases e
  | .t (.dct _) :: _, _, _, _, e => by cases e
  | .t (.fn _) :: _, _, _, _, e => by cases e
  | .t (.scr _) :: _, _, _, _, e => by cases e
/-- what builtins do, by their values -/
theorem blt_any (ok : XOk G C X Wx k call) {b : Blt} (hc : needCalm b = true → X.calm = true) {m : Bool} {ws : List Val} {vs : List V} (h : PostV G Wx σ W (bltV b m ws S) Q) (s : Sim G W S H) (r : Paired (RepV G W) vs ws) :
    ∃ q : List V → Hp → VK → Prop, CallR X (bltF b) q ∧ q vs H Q := by
  have no : ∀ {P : Prop}, PostV G Wx σ W .bad Q → P := fun z => (show False from z).elim
  unfold bltV at h
  split at h
  · rename_i a
    obtain ⟨v, rfl, rv⟩ := one_arg r
    unfold lenV at h
    split at h
    · cases rv with
      | lst hF rl =>
        refine ⟨_, call_len_seq, _, _, rfl, .inl (SqL.of (s.fz _ _ hF)), ?_⟩
        rw [rl.length]
        exact post_t h s (.int _)
    · cases rv with
      | tup hF rl =>
        refine ⟨_, call_len_seq, _, _, rfl, .inr (by rw [ok.K]; exact sameT s.fz hF), ?_⟩
        rw [rl.length]
        exact post_t h s (.int _)
    · rename_i ns
      cases rv with
      | scr hF =>
        refine ⟨_, call_len_seq, _, _, rfl, .inl (by rw [ok.K]; exact s.fz.seq hF), ?_⟩
        rw [List.length_map]
        exact post_t h s (.int _)
    · cases rv
      split at h
      · rename_i c
        exact ⟨_, call_len_str, _, rfl, c, post_t h s (.int _)⟩
      · exact no h
    · rename_i n
      obtain ⟨hn, ex⟩ := rv
      subst ex
      split at h
      · rename_i vs q
        obtain ⟨_, _, o, ho, ok2⟩ := s.live n _ q (by intro z; cases z)
        cases ok2 with
        | lst hp =>
          refine ⟨_, call_len_seq, _, _, rfl, .inl (SqL.of ho), ?_⟩
          rw [Paired.length hp]
          exact post_t h s (.int _)
      · exact no h
    · exact no h
  · obtain ⟨v, rfl, rv⟩ := one_arg r
    cases rv
    exact ⟨_, call_int1, .inl ⟨_, rfl, post_t h s (.int _)⟩⟩
  · obtain ⟨v, rfl, rv⟩ := one_arg r
    cases rv
    exact ⟨_, call_int1, .inr ⟨_, rfl, post_t h s (.int _)⟩⟩
  · obtain ⟨v, rfl, rv⟩ := one_arg r
    cases rv
    split at h
    · rename_i c
      exact ⟨_, call_str_int, _, rfl, c, post_t h s (.str _)⟩
    · exact no h
  · obtain ⟨v, w, rfl, rv, rw⟩ := two_args r
    cases rv
    cases rw
    exact ⟨_, call_min2 (hc rfl), _, _, rfl, post_t h s (.int _)⟩
  · obtain ⟨v, w, rfl, rv, rw⟩ := two_args r
    cases rv
    cases rw
    exact ⟨_, call_max2 (hc rfl), _, _, rfl, post_t h s (.int _)⟩
  · obtain ⟨v, rfl, rv⟩ := one_arg r
    cases rv
    exact ⟨_, call_abs, _, rfl, post_t h s (.int _)⟩
  · obtain ⟨v, rfl, rv⟩ := one_arg r
    split at h
    · cases rv with
      | tup hF rl =>
        obtain ⟨h1, h2⟩ := alloc_post h s (vals_repL (vs := []) rl)
        exact ⟨_, call_list_of, _, _, rfl, .inr (by rw [ok.K]; exact sameT s.fz hF), h2⟩
    · rename_i q
      obtain ⟨p, us, rfl, hs, rp⟩ := listV_rep s rv q
      obtain ⟨h1, h2⟩ := alloc_post h s rp
      exact ⟨_, call_list_of, _, _, rfl, .inl (by rw [ok.K]; exact hs), h2⟩
    · exact no h
  · obtain ⟨v, rfl, rv⟩ := one_arg r
    split at h
    · cases rv with
      | tup hF rl =>
        exact ⟨_, call_tuple_of, _, _, rfl, .inr ⟨by rw [ok.K]; exact sameT s.fz hF, post_t h s (.tup hF rl)⟩⟩
    · rename_i q
      obtain ⟨p, us, rfl, hs, rp⟩ := listV_rep s rv q
      obtain ⟨h1, h2⟩ := tup_post h s rp
      exact ⟨_, call_tuple_of, _, _, rfl, .inl ⟨by rw [ok.K]; exact hs, h2⟩⟩
    · exact no h
  · rename_i a
    obtain ⟨v, rfl, rv⟩ := one_arg r
    cases q : listV S a with
    | none => rw [q] at h; exact no h
    | some us =>
      rw [q] at h
      obtain ⟨p, zs, rfl, hs, rp⟩ := listV_rep s rv q
      cases q2 : allB us with
      | none => have h : PostV G Wx σ W (ofT ((allB us).map fun bs => .bl (bs.all id)) S) Q := h; rw [q2] at h; exact no h
      | some bs =>
        have h : PostV G Wx σ W (ofT ((allB us).map fun bs => .bl (bs.all id)) S) Q := h
        rw [q2] at h
        have e := allB_rep rp q2
        subst e
        exact ⟨_, cr_all (hc rfl), _, bs, rfl, by rw [ok.K]; exact hs, post_t h s (.bl _)⟩
  · rename_i a
    obtain ⟨v, rfl, rv⟩ := one_arg r
    cases q : listV S a with
    | none => rw [q] at h; exact no h
    | some us =>
      rw [q] at h
      obtain ⟨p, zs, rfl, hs, rp⟩ := listV_rep s rv q
      cases q2 : allB us with
      | none => have h : PostV G Wx σ W (ofT ((allB us).map fun bs => .bl (bs.any id)) S) Q := h; rw [q2] at h; exact no h
      | some bs =>
        have h : PostV G Wx σ W (ofT ((allB us).map fun bs => .bl (bs.any id)) S) Q := h
        rw [q2] at h
        have e := allB_rep rp q2
        subst e
        exact ⟨_, cr_any (hc rfl), _, bs, rfl, by rw [ok.K]; exact hs, post_t h s (.bl _)⟩
  · rename_i a
    obtain ⟨v, rfl, rv⟩ := one_arg r
    cases q : listV S a with
    | none => rw [q] at h; exact no h
    | some us =>
      rw [q] at h
      obtain ⟨p, zs, rfl, hs, rp⟩ := listV_rep s rv q
      cases q2 : allI us with
      | none => have h : PostV G Wx σ W (ofT ((allI us).map fun bs => .int bs.sum) S) Q := h; rw [q2] at h; exact no h
      | some bs =>
        have h : PostV G Wx σ W (ofT ((allI us).map fun bs => .int bs.sum) S) Q := h
        rw [q2] at h
        have e := allI_rep rp q2
        subst e
        exact ⟨_, cr_sum (hc rfl), _, bs, rfl, by rw [ok.K]; exact hs, post_t h s (.int _)⟩
  · rename_i a
    obtain ⟨v, rfl, rv⟩ := one_arg r
    cases q : listV S a with
    | none => rw [q] at h; exact no h
    | some us =>
      rw [q] at h
      obtain ⟨p, zs, rfl, hs, rp⟩ := listV_rep s rv q
      cases q2 : allI us with
      | none =>
        have h : PostV G Wx σ W (match allI us with
          | some ns => if ns.length < 64 then alloc m ((ns.mergeSort (fun i j => decide (i ≤ j))).map fun i => .t (.int i)) S else .bad
          | none => .bad) Q := h
        rw [q2] at h
        exact no h
      | some ns =>
        have h : PostV G Wx σ W (match allI us with
          | some ns => if ns.length < 64 then alloc m ((ns.mergeSort (fun i j => decide (i ≤ j))).map fun i => .t (.int i)) S else .bad
          | none => .bad) Q := h
        rw [q2] at h
        have h : PostV G Wx σ W (if ns.length < 64 then alloc m ((ns.mergeSort (fun i j => decide (i ≤ j))).map fun i => .t (.int i)) S else .bad) Q := h
        split at h
        · rename_i c
          have e := allI_rep rp q2
          subst e
          refine ⟨_, cr_sorted, _, ns, rfl, by rw [ok.K]; exact hs, c, fun ns' p2 hp hw hn => ?_⟩
          have pm := List.mergeSort_perm ns (fun i j => decide (i ≤ j))
          have pw := List.pairwise_mergeSort (le := fun (i j : Int) => decide (i ≤ j)) (fun a b c h1 h2 => decide_eq_true (Int.le_trans (of_decide_eq_true h1) (of_decide_eq_true h2))) (fun a b => by
            rcases Int.le_total a b with z | z
            · rw [decide_eq_true z]; rfl
            · rw [decide_eq_true z, Bool.or_true]) ns
          have e : ns' = ns.mergeSort (fun i j => decide (i ≤ j)) := List.Perm.eq_of_pairwise (fun x y _ _ h1 h2 => Int.le_antisymm h1 h2) hw (pw.imp of_decide_eq_true) (hp.trans pm.symm)
          subst e
          exact (alloc_post h s (vals_ints _)).2 p2 hn
        · exact no h
  · obtain ⟨v, w, rfl, rv, rw⟩ := two_args r
    cases rv
    cases rw
    split at h
    · rename_i c
      exact ⟨_, call_divmod, _, _, rfl, ⟨c.1, by omega⟩, new_tup h s (.cons (.int _) (.cons (.int _) .nil))⟩
    · exact no h
  · obtain ⟨v, rfl, rv⟩ := one_arg r
    cases rv
    exact ⟨_, call_bool1, .inl ⟨_, rfl, post_t h s (.bl _)⟩⟩
  · obtain ⟨v, rfl, rv⟩ := one_arg r
    cases rv
    exact ⟨_, call_bool1, .inr ⟨_, rfl, post_t h s (.bl _)⟩⟩
  · exact no h

/-! ### slices -/
theorem SlR.any (X : Cx) : SlR X (fun x lo hi H Q => ∃ r : V → Option Int → Option Int → Hp → VK → Prop, SlR X r ∧ r x lo hi H Q) := fun pins s σ H x v vl vu lo hi sl Q I rx hs pl pu ⟨_, h, q⟩ => h pins s σ H x v vl vu lo hi sl Q I rx hs pl pu q
theorem Paired.drop' {α β : Type} {P : α → β → Prop} : ∀ {xs : List α} {ys : List β} (n : Nat), Paired P xs ys → Paired P (xs.drop n) (ys.drop n)
  | _, _, 0, h => h
  | _, _, n + 1, .nil => .nil
  | _, _, n + 1, .cons _ t => Paired.drop' n t
theorem Paired.take' {α β : Type} {P : α → β → Prop} : ∀ {xs : List α} {ys : List β} (n : Nat), Paired P xs ys → Paired P (xs.take n) (ys.take n)
  | _, _, 0, h => by
    rw [List.take_zero, List.take_zero]
    exact .nil
  | _, _, n + 1, .nil => .nil
  | _, _, n + 1, .cons r t => .cons r (Paired.take' n t)
theorem Paired.app' {α β : Type} {P : α → β → Prop} {us : List α} {ws : List β} (q : Paired P us ws) : ∀ {xs : List α} {ys : List β}, Paired P xs ys → Paired P (xs ++ us) (ys ++ ws)
  | _, _, .nil => q
  | _, _, .cons r t => .cons r (Paired.app' q t)
theorem Paired.rev' {α β : Type} {P : α → β → Prop} : ∀ {xs : List α} {ys : List β}, Paired P xs ys → Paired P xs.reverse ys.reverse
  | _, _, .nil => .nil
  | _, _, .cons r t => by
    rw [List.reverse_cons, List.reverse_cons]
    exact Paired.app' (.cons r .nil) (Paired.rev' t)
theorem RepL.drop' {F : Hp} : ∀ {xs : List T} {vs : List V} (n : Nat), RepL G F vs xs → RepL G F (vs.drop n) (xs.drop n)
  | _, _, 0, h => h
  | [], _, n + 1, h => by cases h; exact .nil
  | x :: xs, _, n + 1, h => by
    cases h with
    | cons _ t => exact RepL.drop' n t
theorem RepL.take' {F : Hp} : ∀ {xs : List T} {vs : List V} (n : Nat), RepL G F vs xs → RepL G F (vs.take n) (xs.take n)
  | _, _, 0, h => by
    rw [List.take_zero, List.take_zero]
    exact .nil
  | [], _, n + 1, h => by cases h; exact .nil
  | x :: xs, _, n + 1, h => by
    cases h with
    | cons r t => exact .cons r (RepL.take' n t)
theorem cut_pair {vs : List V} {ws : List Val} (r : Paired (RepV G W) vs ws) (lo hi : Option Int) : Paired (RepV G W) (cutV vs lo hi) (cutL ws lo hi) := by
  unfold cutV cutL
  rw [Paired.length r]
  exact Paired.take' _ (Paired.drop' _ r)
theorem cut_repL {F : Hp} {vs : List V} {ws : List T} (r : RepL G F vs ws) (lo hi : Option Int) : RepL G F (cutV vs lo hi) (cutL ws lo hi) := by
  unfold cutV cutL
  rw [r.length]
  exact RepL.take' _ (RepL.drop' _ r)
theorem slc_any (ok : XOk G C X Wx k call) {m : Bool} {lo hi : Option Int} (h : PostV G Wx σ W (slcV m a lo hi S) Q) (s : Sim G W S H) (rx : RepV G W x a) : ∃ r : V → Option Int → Option Int → Hp → VK → Prop, SlR X r ∧ r x lo hi H Q := by
  have no : ∀ {P : Prop}, PostV G Wx σ W .bad Q → P := fun z => (show False from z).elim
  unfold slcV at h
  split at h
  · cases rx with
    | @tup ad vs xs hF rl =>
      refine ⟨_, sl_tupA, _, vs, rfl, by rw [ok.K]; exact sameT s.fz hF, fun z => ?_, fun _ => new_tup h s (cut_repL rl lo hi)⟩
      have e : ∀ xs : List T, vs.length = xs.length → cutL xs lo hi = xs := fun xs hl => by
        unfold cutL
        rw [← hl, z.1, z.2, List.drop_zero, Nat.sub_zero, hl, List.take_length]
      rw [e _ rl.length] at h
      exact post_t h s (.tup hF rl)
  · rename_i q
    obtain ⟨p, us, rfl, hs, rp⟩ := listV_rep s rx q
    obtain ⟨h1, h2⟩ := alloc_post h s (cut_pair rp lo hi)
    exact ⟨_, sl_list, p, us, rfl, by rw [ok.K]; exact hs, h2⟩
  · exact no h
theorem rev_post (ok : XOk G C X Wx k call) {m : Bool} (h : PostV G Wx σ W (revV m a S) Q) (s : Sim G W S H) (rx : RepV G W x a) : ∃ a xs, x = .ref a ∧ SqL X.K H a xs ∧ ∀ p, H p = none → Q (.ref p) (upd H p (.lst xs.reverse)) := by
  unfold revV at h
  split at h
  · rename_i q
    obtain ⟨p, us, rfl, hs, rp⟩ := listV_rep s rx q
    obtain ⟨h1, h2⟩ := alloc_post h s (Paired.rev' rp)
    exact ⟨p, us, rfl, by rw [ok.K]; exact hs, h2⟩
  · exact (show False from h).elim
/-! ### a list's methods -/
theorem MtR.any (X : Cx) (id : String) : MtR X id (fun x vs H Q => ∃ r : V → List V → Hp → VK → Prop, MtR X id r ∧ r x vs H Q) := fun pins s σ H x xs v us Q I rx rs ⟨_, h, q⟩ => h pins s σ H x xs v us Q I rx rs q
def bmId : BM → String
  | .append => "list.append" | .pop => "list.pop" | .popi => "list.pop" | .insert => "list.insert" | .extend => "list.extend" | .index => "list.index" | .count => "list.count"
theorem ix_seq_eq {n : Nat} {i : Int} {j : Nat} (h : ix n i = some j) : -(n : Int) ≤ i ∧ i < n ∧ seqIndex? i n = some j := by
  obtain ⟨h1, h2, h3, h4⟩ := ixN_seq (n := n) (i := i) (j := j) h
  exact ⟨by omega, by omega, h1⟩
theorem cell_lst {n : Nat} {ws : List Val} (s : Sim G W S H) (q : S[n]? = some (.lst ws)) : ∃ vs, H (W.at_ n) = some (.lst vs) ∧ Paired (RepV G W) vs ws := by
  obtain ⟨_, _, o, ho, ok⟩ := s.live n _ q (by intro z; cases z)
  cases ok with
  | lst hp => exact ⟨_, ho, hp⟩
theorem Paired.dropLast' {α β : Type} {P : α → β → Prop} {xs : List α} {ys : List β} (h : Paired P xs ys) : Paired P xs.dropLast ys.dropLast := by
  rw [List.dropLast_eq_take, List.dropLast_eq_take, Paired.length h]
  exact Paired.take' _ h
theorem Paired.erase' {α β : Type} {P : α → β → Prop} : ∀ {xs : List α} {ys : List β} (n : Nat), Paired P xs ys → Paired P (xs.eraseIdx n) (ys.eraseIdx n)
  | _, _, _, .nil => .nil
  | _, _, 0, .cons _ t => t
  | _, _, n + 1, .cons r t => .cons r (Paired.erase' n t)
theorem Paired.set' {α β : Type} {P : α → β → Prop} {x : α} {y : β} (q : P x y) : ∀ {xs : List α} {ys : List β} (n : Nat), Paired P xs ys → Paired P (xs.set n x) (ys.set n y)
  | _, _, _, .nil => .nil
  | _, _, 0, .cons _ t => .cons q t
  | _, _, n + 1, .cons r t => .cons r (Paired.set' q n t)
theorem len_line (s : Sim G W S H) {pins : List (Addr × Obj)} {σ : L2.St} {st : Shared} (I : Inv X pins σ H st) {p : Addr} {vs : List V} (h : H p = some (.lst vs)) : vs.length ≤ sizeLine := (I.lstM h).1
theorem fl_rep {F : Hp} {v w : V} {t u : T} (ht : flatU t = true) (hu : flatU u = true) (rv : Rep G F v t) (rw' : Rep G F w u) : flatV v = true ∧ flatV w = true ∧ eqV v w = flU t u := by
  cases rv <;> first | exact absurd ht Bool.false_ne_true | skip
  all_goals
    cases rw' <;> first | exact absurd hu Bool.false_ne_true | exact ⟨rfl, rfl, rfl⟩
theorem flats_rep {F : Hp} {xs : List T} {vs : List V} (h : ∀ t ∈ xs, flatU t = true) (r : RepL G F vs xs) : vs.all flatV = true := by
  rw [List.all_eq_true]
  intro v hv
  obtain ⟨i, hi, rfl⟩ := List.mem_iff_getElem.mp hv
  have hl : vs.length = xs.length := r.length
  obtain ⟨v', e1, e2⟩ := r.get (List.getElem?_eq_getElem (show i < xs.length by omega))
  rw [List.getElem?_eq_getElem hi] at e1
  have e1 := Option.some.inj e1
  rw [e1]
  exact (fl_rep (h _ (List.getElem_mem (show i < xs.length by omega))) (h _ (List.getElem_mem (show i < xs.length by omega))) e2 e2).1
theorem idx_rep {F : Hp} {xs : List T} {y : T} {vs : List V} {w : V} {j : Nat} (h : idxT xs y = some j) (r : RepL G F vs xs) (ry : Rep G F w y) : flatV w = true ∧ vs.all flatV = true ∧ ∃ z, vs[j]? = some z ∧ eqV z w = true ∧ ∀ (m : Nat) (z' : V), m < j → vs[m]? = some z' → eqV z' w = false := by
  unfold idxT at h
  split at h
  · rename_i c
    obtain ⟨c1, c2⟩ := ba c
    obtain ⟨hj, h1, h2⟩ := List.findIdx?_eq_some_iff_getElem.mp h
    have flat : ∀ t ∈ xs, flatU t = true := fun t ht => List.all_eq_true.mp c1 t ht
    have hz := r.get (List.getElem?_eq_getElem hj)
    obtain ⟨z, hz1, hz2⟩ := hz
    obtain ⟨f1, f2, f3⟩ := fl_rep (flat _ (List.getElem_mem hj)) c2 hz2 ry
    refine ⟨f2, flats_rep flat r, z, hz1, by rw [f3]; exact h1, fun m z' hm hz' => ?_⟩
    have hm2 : m < xs.length := by omega
    obtain ⟨v', e1, e2⟩ := r.get (List.getElem?_eq_getElem hm2)
    rw [hz'] at e1
    cases Option.some.inj e1
    rw [(fl_rep (flat _ (List.getElem_mem hm2)) c2 e2 ry).2.2]
    have := h2 m hm
    simpa using this
  · cases h
theorem cnt_reps {F : Hp} {y : T} {w : V} (hy : flatU y = true) (ry : Rep G F w y) : ∀ {xs : List T} {vs : List V}, (∀ t ∈ xs, flatU t = true) → RepL G F vs xs → vs.countP (fun v => eqV v w) = xs.countP fun x => flU x y
  | [], [], _, _ => rfl
  | x :: xs, v :: vs, h, .cons r rr => by
    rw [List.countP_cons, List.countP_cons, cnt_reps hy ry (fun t ht => h t (List.mem_cons_of_mem _ ht)) rr, (fl_rep (h x List.mem_cons_self) hy r ry).2.2]
/-- xs.count(y), flat items -/
def rCntF (K : PySem.W.Frag) : V → List V → Hp → VK → Prop := fun x xs H Q => ∃ (a : Addr) (ys : List V) (y : V), x = V.ref a ∧ xs = [y] ∧ SqL K H a ys ∧ flatV y = true ∧ ys.all flatV = true ∧ Q (.int (ys.countP fun v => eqV v y : Nat)) H
theorem cnt_eqU {y : V} : ∀ {ys : List V} {us : List Value}, Vals ys us → ys.all flatV = true → us.countP (eqU y) = ys.countP fun v => eqV v y
  | [], _, .nil, _ => rfl
  | v :: ys, _, .cons r rr, h => by
    rw [List.all_cons, Bool.and_eq_true] at h
    rw [List.countP_cons, List.countP_cons, cnt_eqU rr h.2, eqU_of r h.1]
theorem mt_countF {X : Cx} : MtR X "list.count" (rCntF X.K) := by
  intro pins s σ H x xs v us Q I rx rxs h
  obtain ⟨a, ys, y, rfl, rfl, hs, fy, fys, q⟩ := h
  cases rx
  cases rxs with
  | cons ry rt =>
    rename_i uy ut
    cases rt
    obtain ⟨its, rv, ⟨⟨cls, dd, data, sl⟩, n, ho, hc, hdn, hd⟩, hlen⟩ := I.list hs
    simp only at hc hd
    subst hc hd
    refine call_meets PySem.F.slot_list_count ⟨_, ho, rfl⟩ PySem.F.entry_list_count (PySem.F.args_list_count_2 _ _)
      (SeqAt.list_countAt a its.toArray n dd sl uy (eqU y)) ⟨ho, fun u' hu' => mem_eqAt ry fy rv fys u' (by simpa using hu'), ?_⟩
    have ec : its.toArray.toList.countP (eqU y) = ys.countP fun v => eqV v y := cnt_eqU rv fys
    refine ⟨.int (ys.countP fun v => eqV v y : Nat), H, I.tok _, ⟨s.toks, ?_⟩, q⟩
    show Value.int ((its.toArray.toList.countP (eqU y) : Nat) : Int) s.toks = Value.int ((ys.countP fun v => eqV v y : Nat) : Int) s.toks
    rw [ec]
theorem bm_any {b : BM} {ws : List Val} {vs : List V} (h : PostV G Wx σ W (bmV b a ws S) Q) (s : Sim G W S H) (rx : RepV G W x a) (r : Paired (RepV G W) vs ws) : ∃ q : V → List V → Hp → VK → Prop, MtR X (bmId b) q ∧ q x vs H Q := by
  have no : ∀ {P : Prop}, PostV G Wx σ W .bad Q → P := fun z => (show False from z).elim
  unfold bmV at h
  split at h
  · rename_i n
    obtain ⟨hn, ex⟩ := rx
    subst ex
    split at h
    · rename_i us hc
      obtain ⟨zs, ho, hp⟩ := cell_lst s hc
      have hd : Cell.lst us ≠ Cell.dead := fun z => nomatch z
      split at h
      · rename_i v
        obtain ⟨y, rfl, ry⟩ := one_arg r
        split at h
        · rename_i c
          refine ⟨_, mt_append, _, zs, y, rfl, rfl, ho, by rw [Paired.length hp]; exact c, ?_⟩
          exact h W .non _ (.refl W) (s.setC hc hd (.lst (Paired.app' (.cons ry .nil) hp))) .non
        · exact no h
      · rename_i i v
        obtain ⟨x1, y, rfl, r1, ry⟩ := two_args r
        cases r1
        split at h
        · rename_i c
          obtain ⟨c1, c2, c3⟩ := c
          refine ⟨_, mt_insert, _, zs, i, y, rfl, rfl, ho, by rw [Paired.length hp]; exact c1, c2, by omega, ?_⟩
          exact h W .non _ (.refl W) (s.setC hc hd (.lst (Paired.app' (Paired.drop' i.toNat hp) (Paired.app' (.cons ry .nil) (Paired.take' i.toNat hp))))) .non
        · exact no h
      · cases r
        split at h
        · rename_i v hv
          obtain ⟨y, h1, h2⟩ := Paired.get hp hv
          refine ⟨_, mt_pop, _, zs, y, rfl, rfl, ho, by rw [Paired.length hp]; exact h1, ?_⟩
          exact h W y _ (.refl W) (s.setC hc hd (.lst (Paired.dropLast' hp))) h2
        · exact no h
      · rename_i i
        obtain ⟨y, rfl, ry⟩ := one_arg r
        cases ry
        split at h
        · rename_i big
          split at h
          · rename_i k hk
            split at h
            · rename_i v hv
              obtain ⟨y, h1, h2⟩ := Paired.get hp hv
              obtain ⟨b1, b2, b3⟩ := ix_seq_eq hk
              have e : szLine = 16777216 := rfl
              refine ⟨_, mt_popAt, _, zs, i, k, y, rfl, rfl, ho, by omega, by omega, by rw [Paired.length hp]; exact b3, h1, ?_⟩
              exact h W y _ (.refl W) (s.setC hc hd (.lst (Paired.erase' k hp))) h2
            · exact no h
          · exact no h
        · exact no h
      · exact no h
    · exact no h
  · split at h
    · rename_i y
      obtain ⟨w, rfl, rw'⟩ := one_arg r
      split at h
      · rename_i j hj
        cases rx with
        | lst hF rl =>
          obtain ⟨g1, g2, z, g3, g4, g5⟩ := idx_rep hj rl rw'
          exact ⟨_, mt_index, _, _, w, j, z, rfl, rfl, SqL.of (s.fz _ _ hF), g1, g2, g3, g4, g5, h W (.int (j : Nat)) _ (.refl W) s (.int _)⟩
      · exact no h
    · rename_i y
      obtain ⟨w, rfl, rw'⟩ := one_arg r
      split at h
      · rename_i j hj
        cases rx with
        | lst hF rl =>
          unfold cntT at hj
          split at hj
          · rename_i c
            obtain ⟨c1, c2⟩ := ba c
            cases hj
            have flat : ∀ t ∈ _, flatU t = true := fun t ht => List.all_eq_true.mp c1 t ht
            refine ⟨_, mt_countF, _, _, w, rfl, rfl, SqL.of (s.fz _ _ hF), (fl_rep c2 c2 rw' rw').1, flats_rep flat rl, ?_⟩
            rw [cnt_reps c2 rw' flat rl]
            exact h W (.int _) _ (.refl W) s (.int _)
          · cases hj
      · exact no h
    · exact no h
  · exact no h
theorem bm_rule (b : BM) : ∃ slot : Slot "list" (bmN b) (bmId b), typeOf (.builtin (bmId b)) = pure (.type "method_descriptor") := by
  cases b with
  | append => exact ⟨PySem.F.slot_list_append, PySem.F.type_list_append⟩
  | pop => exact ⟨PySem.F.slot_list_pop, PySem.F.type_list_pop⟩
  | popi => exact ⟨PySem.F.slot_list_pop, PySem.F.type_list_pop⟩
  | insert => exact ⟨PySem.F.slot_list_insert, PySem.F.type_list_insert⟩
  | extend => exact ⟨PySem.F.slot_list_extend, PySem.F.type_list_extend⟩
  | index => exact ⟨PySem.F.slot_list_index, PySem.F.type_list_index⟩
  | count => exact ⟨PySem.F.slot_list_count, PySem.F.type_list_count⟩
theorem bm_ty {b : BM} {ws : List Val} (hK : X.K = G.K) (h : PostV G Wx σ W (bmV b a ws S) Q) (s : Sim G W S H) (rx : RepV G W x a) : tyV X.K "list" x H := by
  have no : ∀ {P : Prop}, PostV G Wx σ W .bad Q → P := fun z => (show False from z).elim
  unfold bmV at h
  split at h
  · rename_i n
    obtain ⟨hn, ex⟩ := rx
    subst ex
    split at h
    · rename_i us hc
      obtain ⟨zs, ho, hp⟩ := cell_lst s hc
      exact .inl ⟨rfl, zs, SqL.of ho⟩
    · exact no h
  · cases rx with
    | lst hF rl => exact .inl ⟨rfl, _, SqL.of (s.fz _ _ hF)⟩
  · exact no h
theorem few_ok {env : PySem.Env} {es : List Expr} {cp : Pos} (hs : noStar es = true) (hl : es.length < 30) : ((backTo cp (starEach es env)).all (fun x => !x.1) && (backToKw cp (keywordEach [] env)).all (fun x => x.1.isSome)
      && decide (es.length + ([] : List Keyword).length + (if ([] : List Keyword).isEmpty then 0 else 1) < 30)) = true := by
  have h1 := star_any (env := env) (pos := cp) hs
  have h2 : (backTo cp (starEach es env)).all (fun x => !x.1) = true := by
    rw [List.all_eq_true]
    intro y hy
    have := List.any_eq_false.mp h1 y hy
    cases q : y.1 with
    | false => rfl
    | true => exact absurd q this
  rw [h2]
  show (true && true && decide (es.length + 0 + 0 < 30)) = true
  rw [decide_eq_true (by omega)]
  rfl
theorem abase {o : Expr} {m : Str} {env : PySem.Env} {wh : Sem Value} (h : isSup o = false) : attributeBase o m env wh = wh := by
  cases o with
  | Call f as kw p =>
    cases f with
    | Name x q =>
      cases as with
      | nil =>
        cases kw with
        | nil =>
          have h : decide (x = ("super" : Str)) = false := h
          refine abase_call ?_
          rw [bne, Bool.not_eq_true']
          exact beq_eq_false_iff_ne.mpr (of_decide_eq_false h)
        | cons _ _ => rfl
      | cons _ _ => rfl
    | _ => rfl
  | _ => rfl
/-! ### fields -/
abbrev FR (G : Gd) (W : Wd) : (Str × V) → (Nat × Val) → Prop := fun p q => q.1 < G.nAt ∧ p.1 = G.nm.atN q.1 ∧ RepV G W p.2 q.2
theorem repF_pair : ∀ {gs : List (Str × V)} {fs : List (Nat × T)}, RepF G W.F gs fs → Paired (FR G W) gs (fs.map fun p => (p.1, Val.t p.2))
  | _, [], r => by cases r; exact .nil
  | _, (f, x) :: fs, r => by
    cases r with
    | cons hf h r => exact .cons ⟨hf, rfl, h⟩ (repF_pair r)
theorem look_map (f : Nat) : ∀ fs : List (Nat × T), (fs.map fun (p : Nat × T) => (p.1, Val.t p.2)).lookup f = (fs.lookup f).map .t
  | [] => rfl
  | (g, x) :: fs => by
    show (match f == g with
      | true => some (Val.t x)
      | false => (fs.map fun (p : Nat × T) => (p.1, Val.t p.2)).lookup f) = (match f == g with
      | true => some x
      | false => fs.lookup f).map .t
    cases f == g with
    | true => rfl
    | false => exact look_map f fs
theorem look_rep (okf : ∀ f g, f < G.nAt → g < G.nAt → G.nm.atN f = G.nm.atN g → f = g) {f : Nat} (hf : f < G.nAt) : ∀ {gs : List (Str × V)} {fs : List (Nat × Val)}, Paired (FR G W) gs fs →
    (∀ w, fs.lookup f = some w → ∃ x, gs.lookup (G.nm.atN f) = some x ∧ RepV G W x w) ∧ (fs.lookup f = none → gs.lookup (G.nm.atN f) = none)
  | _, _, .nil => ⟨fun w e => (nomatch e), fun _ => rfl⟩
  | (y, x) :: gs, (g, w) :: fs, .cons ⟨h1, h2, h3⟩ t => by
    have h2 : y = G.nm.atN g := h2
    subst h2
    by_cases z : f = g
    · subst z
      have e1 : ((f, w) :: fs).lookup f = some w := by simp [List.lookup]
      have e2 : ((G.nm.atN f, x) :: gs).lookup (G.nm.atN f) = some x := by simp [List.lookup]
      refine ⟨fun u e => ⟨x, e2, ?_⟩, fun e => ?_⟩
      · rw [e1] at e
        cases e
        exact h3
      · rw [e1] at e
        cases e
    · have e1 : ((g, w) :: fs).lookup f = fs.lookup f := by
        have : (f == g) = false := beq_eq_false_iff_ne.mpr z
        simp [List.lookup, this]
      have e2 : ((G.nm.atN g, x) :: gs).lookup (G.nm.atN f) = gs.lookup (G.nm.atN f) := by
        have : (G.nm.atN f == G.nm.atN g) = false := beq_eq_false_iff_ne.mpr fun q => z (okf f g hf h1 q)
        simp only [List.lookup, this]
      rw [e1, e2]
      exact look_rep okf hf t
theorem put_rep (okf : ∀ f g, f < G.nAt → g < G.nAt → G.nm.atN f = G.nm.atN g → f = g) {f : Nat} (hf : f < G.nAt) {y : V} {v : Val} (r : RepV G W y v) : ∀ {gs : List (Str × V)} {fs : List (Nat × Val)}, Paired (FR G W) gs fs → Paired (FR G W) (putF (G.nm.atN f) y gs) (putN f v fs)
  | _, _, .nil => .cons ⟨hf, rfl, r⟩ .nil
  | (n, x) :: gs, (g, w) :: fs, .cons ⟨h1, h2, h3⟩ t => by
    have h2 : n = G.nm.atN g := h2
    subst h2
    show Paired (FR G W) (if G.nm.atN g = G.nm.atN f then (G.nm.atN g, y) :: gs else (G.nm.atN g, x) :: putF (G.nm.atN f) y gs) (if g = f then (g, v) :: fs else (g, w) :: putN f v fs)
    by_cases z : g = f
    · subst z
      rw [if_pos rfl, if_pos rfl]
      exact .cons ⟨h1, rfl, r⟩ t
    · rw [if_neg z, if_neg fun q => z (okf g f h1 hf q)]
      exact .cons ⟨h1, rfl, h3⟩ (put_rep okf hf r t)
theorem fld_in {tab : Tab} {c f : Nat} (h : fldB tab c f = true) : ∃ cl, tab.cl c = some cl ∧ f ∈ cl.flds := by
  unfold fldB at h
  cases q : tab.cl c with
  | none => rw [q] at h; cases h
  | some cl => rw [q] at h; exact ⟨cl, rfl, by simpa using h⟩
/-- an instance, tree or cell -/
theorem ins_at {c : Nat} {fs : List (Nat × Val)} (s : Sim G W S H) (rx : RepV G W x a) (h : (∃ ts, a = .t (.ins c ts) ∧ fs = ts.map fun (p : Nat × T) => (p.1, Val.t p.2)) ∨ ∃ n, a = .r n ∧ S[n]? = some (.ins c fs)) :
    ∃ ad dx gs, x = .ref ad ∧ H ad = some (.ins (G.cA c) dx gs) ∧ Paired (FR G W) gs fs := by
  rcases h with ⟨ts, rfl, rfl⟩ | ⟨n, rfl, q⟩
  · cases rx with
    | ins hF r => exact ⟨_, _, _, rfl, s.fz _ _ hF, repF_pair r⟩
  · obtain ⟨hn, ex⟩ := rx
    subst ex
    obtain ⟨_, _, o, ho, ok⟩ := s.live n _ q (by intro z; cases z)
    cases ok with
    | ins hp => exact ⟨_, _, _, rfl, ho, hp⟩
theorem fldV_some {tab : Tab} {f : Nat} {S2 : Store} {v : Val} (h : fldV tab a f S = .ok v S2) : S2 = S ∧ ∃ c fs, ((∃ ts, a = .t (.ins c ts) ∧ fs = ts.map fun (p : Nat × T) => (p.1, Val.t p.2)) ∨ ∃ n, a = .r n ∧ S[n]? = some (.ins c fs)) ∧ fldB tab c f = true ∧ fs.lookup f = some v := by
  unfold fldV at h
  split at h
  · rename_i c ts
    split at h
    · rename_i b
      cases q : ts.lookup f with
      | none => rw [q] at h; cases h
      | some t =>
        rw [q] at h
        cases h
        exact ⟨rfl, c, _, .inl ⟨ts, rfl, rfl⟩, b, by rw [look_map, q]; rfl⟩
    · cases h
  · rename_i n
    split at h
    · rename_i c fs hc
      split at h
      · rename_i b
        cases q : fs.lookup f with
        | none => rw [q] at h; cases h
        | some t =>
          rw [q] at h
          cases h
          exact ⟨rfl, c, fs, .inr ⟨n, rfl, hc⟩, b, q⟩
      · cases h
    · cases h
  · cases h
theorem fldV_no {tab : Tab} {f : Nat} : (∃ v, fldV tab a f S = .ok v S) ∨ fldV tab a f S = .bad := by
  unfold fldV
  split
  · rename_i c ts
    split
    · cases ts.lookup f with
      | none => exact .inr rfl
      | some t => exact .inl ⟨_, rfl⟩
    · exact .inr rfl
  · split
    · rename_i c fs hc
      split
      · cases fs.lookup f with
        | none => exact .inr rfl
        | some t => exact .inl ⟨_, rfl⟩
      · exact .inr rfl
    · exact .inr rfl
  · exact .inr rfl
theorem fld_any (ok : XOk G C X Wx k call) {f : Nat} {v : Val} (h : fldV G.tab a f S = .ok v S) (s : Sim G W S H) (rx : RepV G W x a) :
    ∃ ad c dx gs y, x = .ref ad ∧ H ad = some (.ins (G.cA c) dx gs) ∧ Cls X.K (G.cA c) ∧ NoAttr X.K (G.cA c) (G.nm.atN f) ∧ gs.lookup (G.nm.atN f) = some y ∧ RepV G W y v ∧ insC a S = some c := by
  obtain ⟨_, c, fs, h1, h2, h3⟩ := fldV_some h
  obtain ⟨ad, dx, gs, e1, e2, e3⟩ := ins_at s rx h1
  obtain ⟨cl, e4, e5⟩ := fld_in h2
  have F := ok.cls c cl e4
  obtain ⟨n1, n2⟩ := F.na f e5
  obtain ⟨y, e6, e7⟩ := (look_rep ok.okf n1 e3).1 v h3
  refine ⟨ad, c, dx, gs, y, e1, e2, by rw [ok.K]; exact F.cls, by rw [ok.K]; exact n2, e6, e7, ?_⟩
  rcases h1 with ⟨ts, rfl, rfl⟩ | ⟨n, rfl, q⟩
  · rfl
  · unfold insC
    simp only [q]
theorem setFV_some {tab : Tab} {f : Nat} {S2 : Store} {v : Val} (h : setFV tab a f v S = some S2) : ∃ n c fs, a = .r n ∧ S[n]? = some (.ins c fs) ∧ fldB tab c f = true ∧ fs.length < 1000 ∧ S2 = S.set n (.ins c (putN f v fs)) := by
  unfold setFV at h
  split at h
  · rename_i n
    split at h
    · rename_i c fs hc
      split at h
      · rename_i b
        cases h
        exact ⟨n, c, fs, rfl, hc, (ba b).1, of_decide_eq_true (ba b).2, rfl⟩
      · cases h
    · cases h
  · cases h
theorem setF_any (ok : XOk G C X Wx k call) {f : Nat} {v : Val} {y : V} {S2 : Store} (h : setFV G.tab a f v S = some S2) (s : Sim G W S H) (rx : RepV G W x a) (ry : RepV G W y v) :
    ∃ ad c dx gs, x = .ref ad ∧ H ad = some (.ins (G.cA c) dx gs) ∧ Cls X.K (G.cA c) ∧ NoAttr X.K (G.cA c) (G.nm.atN f) ∧ gs.length < 1000 ∧ Sim G W S2 (upd H ad (.ins (G.cA c) dx (putF (G.nm.atN f) y gs))) ∧ insC a S = some c := by
  obtain ⟨n, c, fs, rfl, h1, h2, h3, rfl⟩ := setFV_some h
  obtain ⟨hn, ex⟩ := rx
  subst ex
  obtain ⟨_, _, o, ho, okc⟩ := s.live n _ h1 (by intro z; cases z)
  cases okc with
  | @ins dx _ gs _ hp =>
    obtain ⟨cl, e4, e5⟩ := fld_in h2
    have F := ok.cls c cl e4
    obtain ⟨n1, n2⟩ := F.na f e5
    refine ⟨_, c, dx, gs, rfl, ho, by rw [ok.K]; exact F.cls, by rw [ok.K]; exact n2, by rw [Paired.length hp]; exact h3, s.setC h1 (by intro z; cases z) (.ins (put_rep ok.okf n1 ry hp)), ?_⟩
    unfold insC
    simp only [h1]
theorem cell_dct {n : Nat} {kvs : List (Key × Val)} (s : Sim G W S H) (hc : S[n]? = some (.dct kvs)) : ∃ gs, H (W.at_ n) = some (.dK gs) ∧ Paired (DR G W) gs kvs := by
  obtain ⟨_, _, o, ho, ok⟩ := s.live n _ hc (by intro z; cases z)
  cases ok with
  | dct hp => exact ⟨_, ho, hp⟩
theorem line1000 : (1000 : Nat) < sizeLine := by rw [sizeLine_eq]; decide
theorem put_dct {n : Nat} {kvs : List (Key × Val)} {k : Key} {v : Val} {z : V} (s : Sim G W S H) (hc : S[n]? = some (.dct kvs)) (rz : RepV G W z v) (hl : kvs.length < 1000) :
    ∃ H2, DPut H (W.at_ n) (kV k) z H2 ∧ Sim G W (S.set n (.dct (putKV kvs k v))) H2 := by
  obtain ⟨gs, ho, hp⟩ := cell_dct s hc
  exact ⟨_, DPut.k ho (by rw [Paired.length hp]; exact Nat.lt_trans hl line1000), s.setC hc (by intro z; cases z) (.dct (putKV_rel hp k rz))⟩
theorem setS_any {b v : Val} {y z : V} {S2 : Store} (h : setSV a b v S = some S2) (s : Sim G W S H) (rx : RepV G W x a) (ry : RepV G W y b) (rz : RepV G W z v) (Q : Hp → Prop) (hq : ∀ H2, Sim G W S2 H2 → Q H2) :
    rSetL x y z H Q ∨ rSetD x y z H Q := by
  unfold setSV at h
  split at h
  · rename_i n k
    cases ry
    obtain ⟨hn, ex⟩ := rx
    subst ex
    split at h
    · rename_i ws hc
      obtain ⟨zs, ho, hp⟩ := cell_lst s hc
      obtain ⟨j, e1, e2⟩ := Option.map_eq_some_iff.mp h
      subst e2
      exact .inl ⟨_, zs, k, j, rfl, rfl, ho, by rw [Paired.length hp]; exact e1, hq _ (s.setC hc (by intro z; cases z) (.lst (Paired.set' rz j hp)))⟩
    · rename_i kvs hc
      split at h
      · rename_i c
        injection h with e
        subst e
        obtain ⟨H2, g1, g2⟩ := put_dct (k := .inl k) s hc rz c
        exact .inr ⟨_, H2, rfl, g1, hq _ g2⟩
      · cases h
    · cases h
  · rename_i n k
    cases ry
    obtain ⟨hn, ex⟩ := rx
    subst ex
    split at h
    · rename_i kvs hc
      split at h
      · rename_i c
        injection h with e
        subst e
        obtain ⟨H2, g1, g2⟩ := put_dct (k := .inr k) s hc rz c
        exact .inr ⟨_, H2, rfl, g1, hq _ g2⟩
      · cases h
    · cases h
  · cases h
theorem set_both {X : Cx} (hu : X.A.units + 1 < cLine) : PSet X (fun o i v H Q => rSetL o i v H Q ∨ rSetD o i v H Q) := by
  intro pins s σ H o i v ov iv u Q I ro ri rv h
  rcases h with h | h
  · exact set_list pins s σ H o i v ov iv u Q I ro ri rv h
  · exact set_dict hu pins s σ H o i v ov iv u Q I ro ri rv h
/-! ### what is buried -/
theorem allF_rep : ∀ {ws : List (Nat × Val)} {xs : List (Nat × T)} {vs : List (Str × V)}, Paired (FR G W) vs ws → allF ws = some xs → RepF G W.F vs xs
  | [], _, _, r, e => by
    cases r
    cases e
    exact .nil
  | (f, .t x) :: ws, _, _, r, e => by
    cases r with
    | @cons p q _ _ r rr =>
      have e1 : (allF ws).map ((f, x) :: ·) = some _ := e
      obtain ⟨ys, e2, e3⟩ := Option.map_eq_some_iff.mp e1
      subst e3
      obtain ⟨h1, h2, h3⟩ := r
      obtain ⟨n, v⟩ := p
      have h2 : n = G.nm.atN f := h2
      subst h2
      exact .cons h1 h3 (allF_rep rr e2)
  | (_, .r n) :: ws, _, _, _, e => by cases e
theorem toT_bury {n : Nat} {t : T} {S1 : Store} (s : Sim G W S H) (h : toT S (.r n) = some (t, S1)) : ∃ o, H (W.at_ n) = some o ∧ W.le (W.addF (W.at_ n) o) ∧ Sim G (W.addF (W.at_ n) o) S1 H ∧ Rep G (upd W.F (W.at_ n) o) (.ref (W.at_ n)) t ∧ W.B (W.at_ n) = none := by
  have h : (match S[n]? with
    | some (.lst vs) => (allT vs).map fun xs => (T.lst xs, S.set n .dead)
    | some (.ins c fs) => (allF fs).map fun xs => (T.ins c xs, S.set n .dead)
    | _ => none) = some (t, S1) := h
  cases q : S[n]? with
  | none => rw [q] at h; cases h
  | some c =>
    rw [q] at h
    cases c with
    | dead => cases h
    | dct _ => cases h
    | lst ws =>
      obtain ⟨l1, l2, o, ho, okc⟩ := s.live n _ q (by intro z; cases z)
      obtain ⟨b1, b2⟩ := s.bury q (by intro z; cases z)
      obtain ⟨xs, e1, e2⟩ := Option.map_eq_some_iff.mp h
      cases e2
      cases okc with
      | @lst vs _ hp =>
        refine ⟨_, ho, le_seizeF l1 l2 _, b1.seizeF b2 ho, .lst upd_same (RepL.mono (same_upd l1) xs vs (allT_rep hp e1)), l2⟩
    | ins c ws =>
      obtain ⟨l1, l2, o, ho, okc⟩ := s.live n _ q (by intro z; cases z)
      obtain ⟨b1, b2⟩ := s.bury q (by intro z; cases z)
      obtain ⟨xs, e1, e2⟩ := Option.map_eq_some_iff.mp h
      cases e2
      cases okc with
      | @ins dx _ gs _ hp =>
        refine ⟨_, ho, le_seizeF l1 l2 _, b1.seizeF b2 ho, .ins upd_same (RepF.mono (same_upd l1) xs gs (allF_rep hp e1)), l2⟩
theorem bury_rep : ∀ {ws : List Val} {vs : List V} {W : Wd} {S S1 : Store} {xs : List T}, Sim G W S H → Paired (RepV G W) vs ws → buryS ws S = some (xs, S1) → ∃ W1, W.le W1 ∧ Sim G W1 S1 H ∧ RepL G W1.F vs xs
  | [], _, W, S, S1, xs, s, .nil, e => by
    cases e
    exact ⟨W, Wd.le.refl W, s, .nil⟩
  | a :: ws, _, W, S, S1, xs, s, .cons r rr, e => by
    have e : (match toT S a with
      | some (x, S1) => (match buryS ws S1 with
        | some (xs, S2) => some (x :: xs, S2)
        | none => none)
      | none => none) = some (xs, S1) := e
    cases q : toT S a with
    | none => rw [q] at e; cases e
    | some p =>
      obtain ⟨x, S2⟩ := p
      rw [q] at e
      have e : (match buryS ws S2 with
        | some (xs, S2) => some (x :: xs, S2)
        | none => none) = some (xs, S1) := e
      cases q2 : buryS ws S2 with
      | none => rw [q2] at e; cases e
      | some p2 =>
        obtain ⟨ys, S3⟩ := p2
        rw [q2] at e
        cases e
        cases a with
        | t y =>
          cases q
          obtain ⟨W1, l1, s1, r1⟩ := bury_rep s rr q2
          exact ⟨W1, l1, s1, .cons (Rep.mono l1.f _ _ r) r1⟩
        | r n =>
          obtain ⟨o, ho, l, s1, rt, _⟩ := toT_bury s q
          obtain ⟨W1, l1, s2, r1⟩ := bury_rep s1 (RepVs.mono l rr) q2
          obtain ⟨_, rfl⟩ := r
          exact ⟨W1, l.trans l1, s2, .cons (Rep.mono l1.f _ _ rt) r1⟩
theorem tupV_post {ws : List Val} {vs : List V} (h : PostV G Wx σ W (if ws.length ≤ szLine then tupV ws S else .bad) Q) (s : Sim G W S H) (r : Paired (RepV G W) vs ws) : vs.length ≤ sizeLine ∧ ∀ p, H p = none → Q (.ref p) (upd H p (.tup vs)) := by
  unfold tupV at h
  cases q : (allT ws).isSome with
  | true =>
    rw [q, if_pos rfl] at h
    exact tup_post h s r
  | false =>
    rw [q, if_neg Bool.false_ne_true] at h
    by_cases c : ws.length ≤ szLine
    · rw [if_pos c] at h
      refine ⟨by rw [r.length]; exact c, fun p hp => ?_⟩
      cases e : buryS ws S with
      | none => rw [e] at h; exact (show False from h).elim
      | some p2 =>
        obtain ⟨xs, S1⟩ := p2
        rw [e] at h
        have h : PostV G Wx σ W (.ok (.t (.tup xs)) S1) Q := h
        obtain ⟨W1, l1, s1, r1⟩ := bury_rep s r e
        refine h (W1.addF p (.tup vs)) (.ref p) _ (l1.trans (Wd.le_addF s1 hp _)) (s1.addF hp _) ?_
        exact .tup (.inl (.inl upd_same)) (RepL.mono (Wd.le_addF s1 hp _).f xs vs r1)
    · rw [if_neg c] at h
      exact (show False from h).elim
theorem dispL_post {m : Bool} {ws : List Val} {vs : List V} (h : PostV G Wx σ W (dispL m ws S) Q) (s : Sim G W S H) (r : Paired (RepV G W) vs ws) : vs.length ≤ sizeLine ∧ ∀ p, H p = none → Q (.ref p) (upd H p (.lst vs)) := by
  unfold dispL at h
  cases q : (m || (allT ws).isSome) with
  | true =>
    rw [q, if_pos rfl] at h
    exact alloc_post h s r
  | false =>
    rw [q, if_neg Bool.false_ne_true] at h
    by_cases c : ws.length ≤ szLine
    · rw [if_pos c] at h
      refine ⟨by rw [r.length]; exact c, fun p hp => ?_⟩
      cases e : buryS ws S with
      | none => rw [e] at h; exact (show False from h).elim
      | some p2 =>
        obtain ⟨xs, S1⟩ := p2
        rw [e] at h
        have h : PostV G Wx σ W (.ok (.t (.lst xs)) S1) Q := h
        obtain ⟨W1, l1, s1, r1⟩ := bury_rep s r e
        refine h (W1.addF p (.lst vs)) (.ref p) _ (l1.trans (Wd.le_addF s1 hp _)) (s1.addF hp _) ?_
        exact .lst upd_same (RepL.mono (Wd.le_addF s1 hp _).f xs vs r1)
    · rw [if_neg c] at h
      exact (show False from h).elim
theorem fin_post {fr : Bool} {n : Nat} (h : PostV G Wx σ W (finV fr n S) Q) (s : Sim G W S H) (hn : n < W.n) : Q (.ref (W.at_ n)) H := by
  unfold finV at h
  cases fr with
  | false => exact Post.ok h s (show RepV G W _ (.r n) from ⟨hn, rfl⟩)
  | true =>
    have h : PostV G Wx σ W (match toT S (.r n) with
      | some (x, S1) => .ok (.t x) S1
      | none => .bad) Q := h
    cases q : toT S (.r n) with
    | none => rw [q] at h; exact (show False from h).elim
    | some p =>
      obtain ⟨t, S1⟩ := p
      rw [q] at h
      obtain ⟨o, ho, l, s1, r, _⟩ := toT_bury s q
      exact h _ _ H l s1 r
/-! ### isinstance -/
theorem ty_cls (G : Gd) (t : Ty) : ClsV (tyW G t) (tyC G t) := by
  cases t <;> first | exact .ty _ | exact .own _
theorem ty_rel (G : Gd) (t : Ty) : RelV (tyW G t) (tyC G t) := by
  cases t <;> rfl
theorem ty_free {t : Ty} (h : ∀ c, t ≠ .cls c) (nm : Nm) : tyN nm t ∈ ["len", "int", "str", "min", "max", "abs", "list", "tuple", "all", "any", "sum", "divmod", "sorted", "bool", "isinstance", "range", "enumerate", "zip", "dict", "set", "ValueError"].map Str.ofString := by
  cases t with
  | cls c => exact absurd rfl (h c)
  | int => show Str.ofString "int" ∈ _; decide +kernel
  | bool => show Str.ofString "bool" ∈ _; decide +kernel
  | str => show Str.ofString "str" ∈ _; decide +kernel
  | list => show Str.ofString "list" ∈ _; decide +kernel
  | tuple => show Str.ofString "tuple" ∈ _; decide +kernel
  | dict => show Str.ofString "dict" ∈ _; decide +kernel
/-- a class's name -/
theorem pe_ty (ok : XOk G C X Wx k call) {t : Ty} {pos : Pos} (hg : Gl X (tyN G.nm t)) (hc : isCl G.tab t = true) (n1 : tyN G.nm t ≠ "__name__") (n2 : (tyN G.nm t == ("__debug__" : Str)) = false) : PE X (.Name (tyN G.nm t) pos) (tC (tyW G t)) := by
  have bi : (∀ c, t ≠ .cls c) → bootBuiltins (tyN G.nm t) = some (tyC G t) → PE X (.Name (tyN G.nm t) pos) (tC (tyW G t)) := fun h hb =>
    pe_bltn hg (by rw [ok.mg]; exact ok.free _ (ty_free h G.nm)) hb (ty_rel G t) n1 n2
  cases t with
  | cls c =>
    cases q : G.tab.cl c with
    | none =>
      have z : (G.tab.cl c).isSome = true := hc
      rw [q] at z
      cases z
    | some cl => exact pe_glob hg (by rw [ok.mg]; exact (ok.cls c cl q).mg) rfl n2
  | int => exact bi (fun c z => nomatch z) (by show bootBuiltins (Str.ofString "int") = some (.type "int"); decide +kernel)
  | bool => exact bi (fun c z => nomatch z) (by show bootBuiltins (Str.ofString "bool") = some (.type "bool"); decide +kernel)
  | str => exact bi (fun c z => nomatch z) (by show bootBuiltins (Str.ofString "str") = some (.type "str"); decide +kernel)
  | list => exact bi (fun c z => nomatch z) (by show bootBuiltins (Str.ofString "list") = some (.type "list"); decide +kernel)
  | tuple => exact bi (fun c z => nomatch z) (by show bootBuiltins (Str.ofString "tuple") = some (.type "tuple"); decide +kernel)
  | dict => exact bi (fun c z => nomatch z) (by show bootBuiltins (Str.ofString "dict") = some (.type "dict"); decide +kernel)
/-- a value's type, by its outermost form -/
def tyO (G : Gd) : T → Value
  | .non => .type "NoneType" | .bl _ => .type "bool" | .int _ => .type "int" | .str _ => .type "str" | .tup _ => .type "tuple" | .lst _ => .type "list" | .scr _ => .type "list" | .dct _ => .type "dict"
  | .ins c _ => .ref (G.cA c) | .fn _ => .none | .exn _ _ => .none
theorem isi_one (ok : XOk G C X Wx k call) {t : Ty} {u : T} {b : Bool} (h : tyT G.tab t u = some b) : PySem.W.kitOne G.K (tyO G u) (tyC G t) = some b := by
  cases t with
  | cls d =>
    have h : (match G.tab.cl d with
      | none => none
      | some _ => clT G.tab d u) = some b := h
    cases q : G.tab.cl d with
    | none => rw [q] at h; cases h
    | some cd =>
      rw [q] at h
      have D := (ok.cls d cd q).isD
      cases u with
      | ins c fs =>
        have h : (G.tab.cl c).map (fun k => k.sup.contains d) = some b := h
        obtain ⟨cl, q2, e⟩ := Option.map_eq_some_iff.mp h
        rw [← e]
        exact (ok.cls c cl q2).isC d cd q
      | fn g => cases h
      | exn _ _ => cases h
      | non => cases h; exact D _ (by simp)
      | bl _ => cases h; exact D _ (by simp)
      | int _ => cases h; exact D _ (by simp)
      | str _ => cases h; exact D _ (by simp)
      | tup _ => cases h; exact D _ (by simp)
      | lst _ => cases h; exact D _ (by simp)
      | scr _ => cases h; exact D _ (by simp)
      | dct _ => cases h; exact D _ (by simp)
  | _ =>
    cases u with
    | ins c fs =>
      have h : (G.tab.cl c).map (fun _ => false) = some b := h
      obtain ⟨cl, q2, e⟩ := Option.map_eq_some_iff.mp h
      rw [← e]
      exact (ok.cls c cl q2).isB _ (by simp)
    | fn g => cases h
    | exn _ _ => cases h
    | _ => cases h; exact kit_ty (by decide +kernel)
theorem isi_many (ok : XOk G C X Wx k call) {u : T} : ∀ {ts : List Ty} {b : Bool}, anyTy G.tab u ts = some b → PySem.W.kitAny G.K (tyO G u) (ts.map (tyC G)) = some b
  | [], b, h => by cases h; rfl
  | t :: ts, b, h => by
    have h : (match tyT G.tab t u with
      | some true => some true
      | some false => anyTy G.tab u ts
      | none => none) = some b := h
    cases q : tyT G.tab t u with
    | none => rw [q] at h; cases h
    | some c =>
      rw [q] at h
      refine kitAny_cons (isi_one ok q) (fun z => ?_) (fun z => ?_)
      · subst z
        exact isi_many ok h
      · subst z
        cases h
        rfl
theorem paired_map {α γ δ : Type} {P : γ → δ → Prop} {f : α → γ} {g : α → δ} (h : ∀ a, P (f a) (g a)) : ∀ l : List α, Paired P (l.map f) (l.map g)
  | [] => .nil
  | a :: l => .cons (h a) (paired_map h l)
/-- what isinstance asks of a value -/
theorem tyx_of (ok : XOk G C X Wx k call) {u : T} {b : Bool} {ts : List Ty} (s : Sim G W S H) (rx : RepV G W x a) (h : shell S a = some u) (hne : ts ≠ []) (hb : anyTy G.tab u ts = some b) : TyX G.K H x (tyO G u) := by
  have insK : ∀ (c : Nat) (fs : List (Nat × T)), u = .ins c fs → ∃ cl, G.tab.cl c = some cl := fun c fs e => by
    subst e
    cases ts with
    | nil => exact absurd rfl hne
    | cons t ts =>
      have hb : (match tyT G.tab t (.ins c fs) with
        | some true => some true
        | some false => anyTy G.tab (.ins c fs) ts
        | none => none) = some b := hb
      cases q : G.tab.cl c with
      | some cl => exact ⟨cl, rfl⟩
      | none =>
        have z : tyT G.tab t (.ins c fs) = none := by
          cases t with
          | cls d =>
            show (match G.tab.cl d with
              | none => none
              | some _ => (G.tab.cl c).map fun k => k.sup.contains d) = none
            rw [q]
            cases G.tab.cl d <;> rfl
          | _ =>
            show (G.tab.cl c).map (fun _ => false) = none
            rw [q]
            rfl
        rw [z] at hb
        cases hb
  have insT : ∀ (c : Nat) (ad dx : Addr) (gs : List (Str × V)) (fs : List (Nat × T)), u = .ins c fs → H ad = some (.ins (G.cA c) dx gs) → TyX G.K H (.ref ad) (tyO G u) := fun c ad dx gs fs e hH => by
    obtain ⟨cl, q⟩ := insK c fs e
    have F := ok.cls c cl q
    subst e
    exact .base (.ins hH F.cls F.ha F.hn F.htk F.hm)
  cases a with
  | t t =>
    cases h
    cases u with
    | exn _ _ => cases rx
    | non => cases rx; exact .base .non
    | bl _ => cases rx; exact .base (.bl _)
    | int _ => cases rx; exact .base (.int _)
    | str _ => cases rx; exact .base (.str _)
    | tup xs =>
      cases rx with
      | tup hF r =>
        rcases hF with (hF | ⟨o, hF⟩) | ⟨o, its, n, h1, h2, _⟩
        · exact .base (.tup (s.fz _ _ hF))
        · exact .fTuple (s.fz _ _ hF)
        · exact .kTuple h1 h2
    | lst xs =>
      cases rx with
      | lst hF r => exact .base (.lst (s.fz _ _ hF))
    | scr ns =>
      cases rx with
      | scr hF =>
        rcases hF with (hF | ⟨o, hF⟩) | ⟨o, its, n, h1, h2, _⟩
        · exact .base (.lst (s.fz _ _ hF))
        · exact .base (.frz (s.fz _ _ hF))
        · exact .kList h1 h2
    | dct fs =>
      cases rx with
      | dct hF r => exact .base (.dK (s.fz _ _ hF))
    | ins c fs =>
      cases rx with
      | ins hF r => exact insT c _ _ _ fs rfl (s.fz _ _ hF)
    | fn g =>
      cases ts with
      | nil => exact absurd rfl hne
      | cons t ts =>
        have hb : (match tyT G.tab t (.fn g) with
          | some true => some true
          | some false => anyTy G.tab (.fn g) ts
          | none => none) = some b := hb
        have z : tyT G.tab t (.fn g) = none := by
          cases t with
          | cls d =>
            show (match G.tab.cl d with
              | none => none
              | some _ => none) = none
            cases G.tab.cl d <;> rfl
          | _ => rfl
        rw [z] at hb
        cases hb
  | r n =>
    obtain ⟨hn, ex⟩ := rx
    subst ex
    have h : (match S[n]? with
      | some (.lst _) => some (.lst [])
      | some (.ins c _) => some (.ins c [])
      | some (.dct _) => some (.dct [])
      | _ => none) = some u := h
    cases q : S[n]? with
    | none => rw [q] at h; cases h
    | some c =>
      rw [q] at h
      cases c with
      | dead => cases h
      | lst ws =>
        cases h
        obtain ⟨_, _, o, ho, ok2⟩ := s.live n _ q (by intro z; cases z)
        cases ok2
        exact .base (.lst ho)
      | ins c fs =>
        cases h
        obtain ⟨_, _, o, ho, ok2⟩ := s.live n _ q (by intro z; cases z)
        cases ok2
        exact insT c _ _ _ [] rfl ho
      | dct fs =>
        cases h
        obtain ⟨_, _, o, ho, ok2⟩ := s.live n _ q (by intro z; cases z)
        cases ok2
        exact .base (.dK ho)
/-- isinstance(x, T) -/
theorem isi_1 (ok : XOk G C X Wx k call) {t : Ty} (h : PostV G Wx σ W (isiV G.tab [t] a S) Q) (s : Sim G W S H) (rx : RepV G W x a) : rIsi G.K [x, tyW G t] H Q := by
  unfold isiV at h
  cases q : shell S a with
  | none => rw [q] at h; exact (show False from h).elim
  | some u =>
    rw [q] at h
    have h : PostV G Wx σ W (ofT ((anyTy G.tab u [t]).map .bl) S) Q := h
    cases q2 : anyTy G.tab u [t] with
    | none => rw [q2] at h; exact (show False from h).elim
    | some b =>
      rw [q2] at h
      have q3 : tyT G.tab t u = some b := by
        have q2 : (match tyT G.tab t u with
          | some true => some true
          | some false => some false
          | none => none) = some b := q2
        cases z : tyT G.tab t u with
        | none => rw [z] at q2; cases q2
        | some c => rw [z] at q2; cases c <;> exact q2
      exact ⟨x, _, _, _, b, rfl, ty_cls G t, tyx_of ok s rx q (by simp) q2, isi_one ok q3, post_t h s (.bl b)⟩
theorem isi_t (ok : XOk G C X Wx k call) {ts : List Ty} {p : Addr} (hne : ts ≠ []) (h : PostV G Wx σ W (isiV G.tab ts a S) Q) (s : Sim G W S H) (rx : RepV G W x a) (hp : H p = some (.tup (ts.map (tyW G)))) : rIsiT G.K [x, .ref p] H Q := by
  unfold isiV at h
  cases q : shell S a with
  | none => rw [q] at h; exact (show False from h).elim
  | some u =>
    rw [q] at h
    have h : PostV G Wx σ W (ofT ((anyTy G.tab u ts).map .bl) S) Q := h
    cases q2 : anyTy G.tab u ts with
    | none => rw [q2] at h; exact (show False from h).elim
    | some b =>
      rw [q2] at h
      exact ⟨x, p, _, _, ts.map (tyC G), b, rfl, hp, paired_map (ty_cls G) ts, tyx_of ok s rx q hne q2, isi_many ok q2, post_t h s (.bl b)⟩
theorem dEs_len {tab : Tab} {call : Call} : ∀ {es : IEs} {env : Env} {S S1 : Store} {vs : List Val}, dEs tab call es env S = .ok vs S1 → vs.length = es.len
  | .nil, _, _, _, _, h => by cases h; rfl
  | .cons e es, env, S, S1, vs, h => by
    have h : ((dE tab call e env S).bind fun v S => (dEs tab call es env S).bind fun vs S => .ok (v :: vs) S) = .ok vs S1 := h
    cases q : dE tab call e env S with
    | ok v S2 =>
      rw [q] at h
      have h : ((dEs tab call es env S2).bind fun vs S => .ok (v :: vs) S) = .ok vs S1 := h
      cases q2 : dEs tab call es env S2 with
      | ok ws S3 =>
        rw [q2] at h
        cases h
        exact congrArg Nat.succ (dEs_len q2)
      | ex x S3 => rw [q2] at h; cases h
      | bad => rw [q2] at h; cases h
    | ex x S2 => rw [q] at h; cases h
    | bad => rw [q] at h; cases h
theorem chkEs_len {C : Ck} : ∀ {es : IEs} {xs : List Expr}, chkEs C es xs = true → xs.length = es.len
  | .nil, [], _ => rfl
  | .cons e es, x :: xs, h => congrArg Nat.succ (chkEs_len (ba h).2)
  | .nil, _ :: _, h => by cases h
  | .cons _ _, [], h => by cases h
theorem post_E {r : R Val} (h : PostV G Wx σ W r Q) : PostV G (fun c o _ H => WE Wx σ c o H) [] W r Q := by
  cases r with
  | ok v S => exact h
  | ex x S => exact h
  | bad => exact h
/-- a def's call -/
theorem pe_def (ok : XOk G C X Wx k call) (hc : C.calm = true) {f : Nat} {e : Expr} {es : List Expr} {p pos : Pos} {ies : IEs} (hg : Gl X (G.nm.fnN f)) (hgl : C.glF f = true) (har : arity C.tab f (e :: es).length = true) (ha : PA X (e :: es) (tEs G Wx call ies)) (hs : noStar (e :: es) = true)
    (hl : chkEs C ies (e :: es) = true) (n2 : (G.nm.fnN f == ("__debug__" : Str)) = false) :
    PE X (.Call (.Name (G.nm.fnN f) p) (e :: es) [] pos) (tE G Wx call (.call f ies)) := by
  refine ⟨fun pins s σ H Q I ⟨W, env, S, sm, er, h⟩ => ?_⟩
  have h : PostV G Wx σ W ((dEs G.tab call ies env S).bind fun vs S => call f vs S) Q := h
  unfold arity at har
  rw [ok.tab] at har
  cases hd : G.tab.fn f with
  | none => rw [hd] at har; cases har
  | some d =>
    rw [hd] at har
    obtain ⟨har, a0⟩ := ba har
    obtain ⟨a1, a2⟩ := ba har
    obtain ⟨run, hcall, ⟨fd, ps, F, B⟩⟩ := ok.fns hc f d hd (nb a0)
    obtain ⟨ds, dvs, hb, hv, hr⟩ := B _ (of_decide_eq_true a1) (of_decide_eq_true a2)
    obtain ⟨g1, g2⟩ := ok.gl f hgl
    have F' : FnOk X.prog X.w X.K X.mg X.base (L2.CX X.prog X.w) k (G.fA f) fd ps (spR G d.np run) := by
      rw [ok.prog, ok.w, ok.K, ok.mg]
      exact F
    refine (pe_callSD F' ((ok.room hc).mono (Nat.le_succ k)) hg (by rw [ok.mg]; exact g1) (by rw [ok.K]; exact g2) (by rw [ok.K]; exact hb) hv (E := WE Wx) (fun σ => passAt ok.tk σ) ha n2 (star_cons X.env (nb (ba hs).1)) (star_any (ba hs).2)).run pins s σ H Q I ?_
    refine Den.step h sm er fun vs S1 W1 xs H1 e1 l1 s1 n1 r1 p1 => ?_
    rw [hcall] at p1
    have hlen : vs.length = (e :: es).length := (dEs_len e1).trans (chkEs_len hl).symm
    rw [hlen] at p1
    have rr : Paired (RepV G W1) (xs ++ dvs) (vs ++ dflV d (e :: es).length) := by
      have app : ∀ {as : List V} {bs : List Val}, Paired (RepV G W1) as bs → Paired (RepV G W1) (as ++ dvs) (bs ++ dflV d (e :: es).length) := fun {as bs} h => by
        induction h with
        | nil => exact hr W1
        | cons r _ ih => exact .cons r ih
      exact app r1
    refine ⟨W1, S1, _, s1, rr, ?_, post_E p1⟩
    unfold dflV
    rw [List.length_append, hlen, List.length_map, List.length_drop]
    have := of_decide_eq_true a1
    have := of_decide_eq_true a2
    omega
/-- a def, called with values, by its promise -/
theorem call_run (ok : XOk G C X Wx k call) (hc : C.calm = true) {f : Nat} {d : Fn} {ws : List Val} {vs : List V} {pins : List (Addr × Obj)} {st : Shared} {us : List Value} (hd : G.tab.fn f = some d) (har : arity G.tab f ws.length = true) (h : PostV G Wx σ W (call f ws S) Q) (s : Sim G W S H) (r : Paired (RepV G W) vs ws) (I : Inv X pins σ H st) (rv : Vals vs us) :
    wpAny (PySem.model X.prog X.w) X.A (PySem.call (.ref (G.fA f)) us) (EP X pins σ Q) X.xe st := by
  unfold arity at har
  rw [hd] at har
  obtain ⟨har, a0⟩ := ba har
  obtain ⟨a1, a2⟩ := ba har
  have a1 := of_decide_eq_true a1
  have a2 := of_decide_eq_true a2
  obtain ⟨run, hcall, ⟨fd, ps, F, B⟩⟩ := ok.fns hc f d hd (nb a0)
  obtain ⟨ds, dvs, hb, hv, hr⟩ := B _ a1 a2
  have F' : FnOk X.prog X.w X.K X.mg X.base (L2.CX X.prog X.w) k (G.fA f) fd ps (spR G d.np run) := by
    rw [ok.prog, ok.w, ok.K, ok.mg]
    exact F
  refine run_fnSD (E := WE Wx) F' ((ok.room hc).mono (Nat.le_succ k)) (by rw [ok.K]; exact hb) hv (passAt ok.tk σ) I rv ?_
  refine ⟨W, S, ws ++ dflV d ws.length, s, Paired.app' (hr W) r, ?_, ?_⟩
  · unfold dflV
    rw [List.length_append, List.length_map, List.length_drop]
    omega
  · rw [← hcall]
    exact post_E h
/-- .. without arguments -/
theorem pe_def0 (ok : XOk G C X Wx k call) (hc : C.calm = true) {f : Nat} {p pos : Pos} {ies : IEs} (hg : Gl X (G.nm.fnN f)) (hgl : C.glF f = true) (har : arity C.tab f 0 = true) (hl : chkEs C ies [] = true) (n2 : (G.nm.fnN f == ("__debug__" : Str)) = false) :
    PE X (.Call (.Name (G.nm.fnN f) p) [] [] pos) (tE G Wx call (.call f ies)) := by
  refine ⟨fun pins s σ H Q I ⟨W, env, S, sm, er, h⟩ => ?_⟩
  cases ies with
  | cons _ _ => cases hl
  | nil =>
    have h : PostV G Wx σ W (call f [] S) Q := h
    obtain ⟨g1, g2⟩ := ok.gl f hgl
    unfold arity at har
    rw [ok.tab] at har
    cases hd : G.tab.fn f with
    | none => rw [hd] at har; cases har
    | some d =>
      have har : arity G.tab f ([] : List Val).length = true := by
        unfold arity
        rw [hd] at har ⊢
        exact har
      refine wpAny_Call_Name_kw (ld_glob I hg (by rw [ok.mg]; exact g1) ?_ n2)
      exact PySem.W.callWith_K0 I.kIn (by rw [ok.K]; exact g2) (call_run (ws := []) (vs := []) (us := []) ok hc hd har h sm .nil I .nil)
/-! ### new instances -/
theorem run_makeSD {Cc f : Addr} {fd : FuncData} {ps : List Str} {sp : Sp} {dvs : List V} {ds : List Value} {E : XK} {kk : Nat} {pins : List (Addr × Obj)} {st : Shared} {us : List Value} {vs : List V} (M : Mk X.K Cc f) (F : FnOk X.prog X.w X.K X.mg X.base (L2.CX X.prog X.w) kk f fd ps sp) (hr : Room (kk + 1) X.A) (hb : Binds X.K fd ps ds) (hd : Vals dvs ds)
    (hx : PassesAt (L2.CX X.prog X.w) X σ E) (I : Inv X pins σ H st) (r : Vals vs us)
    (h : ∀ x dx, H x = none → H dx = none → dx ≠ x → sp (.ref x :: (vs ++ dvs)) (upd (upd H dx (.own x)) x (.ins Cc dx [])) (fun v H2 => v = .non ∧ Q (.ref x) H2) E) :
    wpAny (PySem.model X.prog X.w) X.A (PySem.call (.ref Cc) us) (EP X pins σ Q) X.xe st := by
  have hq := h (st.heap.objs.size + 1) st.heap.objs.size (I.hok.fresh (Nat.le_succ _)) (I.hok.fresh (Nat.le_refl _)) (Nat.ne_of_lt (Nat.lt_succ_self _))
  have I2 := Inv.made (C := Cc) I
  have r2 : Vals (V.ref (st.heap.objs.size + 1) :: (vs ++ dvs)) (Value.ref (st.heap.objs.size + 1) :: (us ++ ds)) := .cons rfl (r.append hd)
  have hl : (Value.ref (st.heap.objs.size + 1) :: us ++ ds).length = ps.length := by
    have e := r2.length
    rw [F.len _ _ _ _ hq] at e
    exact e.symm
  refine wpAny_call (make_map (f := f) I.kIn M.makes M.init (beq_iff_eq.mp M.fn) (codeAny_mono (F.run _ X.stack _ _ ⟨Value.ref (st.heap.objs.size + 1) :: us, []⟩ (Value.ref (st.heap.objs.size + 1) :: (us ++ ds)) _ _ E (hr.make Cc us [])
    (I2.env0.make Cc us []) (hb _ (Value.ref (st.heap.objs.size + 1) :: us) I2.kIn hl) r2 hq) fun r s' hq' => ?_))
  cases r with
  | error e => exact hx pins _ _ e s' I2 hq'
  | ok fl =>
    cases fl with
    | ret u =>
      obtain ⟨v, H', I3, rv, ev, q3⟩ := I2.after hq'
      subst ev
      exact ⟨rv, ⟨V.ref (st.heap.objs.size + 1), H', I3, rfl, q3⟩⟩
    | next => exact False.elim hq'
    | brk => exact False.elim hq'
    | cont => exact False.elim hq'
/-- what a new instance's making promises, by the small language -/
theorem new_run (ok : XOk G C X Wx k call) (hc0 : C.calm = true) {c : Nat} {cl : Cl} {f : Nat} {ws : List Val} {vs : List V} {pins : List (Addr × Obj)} {st : Shared} {us : List Value} (hc : G.tab.cl c = some cl) (hf : cl.init = some f) (har : arity G.tab f (ws.length + 1) = true)
    (h : PostV G Wx σ W (newV G.tab call c ws S) Q) (s : Sim G W S H) (r : Paired (RepV G W) vs ws) (I : Inv X pins σ H st) (rv : Vals vs us) :
    wpAny (PySem.model X.prog X.w) X.A (PySem.call (.ref (G.cA c)) us) (EP X pins σ Q) X.xe st := by
  have D := ok.cls c cl hc
  have M := D.mkf
  rw [hf] at M
  have M : Mk G.K (G.cA c) (G.fA f) := M
  unfold newV at h
  rw [hc] at h
  have h : PostV G Wx σ W (match cl.init with
    | none => if ws.isEmpty then finV cl.frozen S.length (S ++ [.ins c []]) else .bad
    | some f => (call f (.r S.length :: ws) (S ++ [.ins c []])).bind fun v S1 => (match v with
      | .t .non => finV cl.frozen S.length S1
      | _ => .bad)) Q := h
  rw [hf] at h
  have h : PostV G Wx σ W ((call f (.r S.length :: ws) (S ++ [.ins c []])).bind fun v S1 => (match v with
      | .t .non => finV cl.frozen S.length S1
      | _ => .bad)) Q := h
  unfold arity at har
  cases hd : G.tab.fn f with
  | none => rw [hd] at har; cases har
  | some d =>
    rw [hd] at har
    obtain ⟨har, a0⟩ := ba har
    obtain ⟨a1, a2⟩ := ba har
    have a1 := of_decide_eq_true a1
    have a2 := of_decide_eq_true a2
    obtain ⟨run, hcall, ⟨fd, ps, F, B⟩⟩ := ok.fns hc0 f d hd (nb a0)
    obtain ⟨ds, dvs, hb, hv, hr⟩ := B _ a1 a2
    have F' : FnOk X.prog X.w X.K X.mg X.base (L2.CX X.prog X.w) k (G.fA f) fd ps (spR G d.np run) := by
      rw [ok.prog, ok.w, ok.K, ok.mg]
      exact F
    refine run_makeSD (E := WE Wx σ) (by rw [ok.K]; exact M) F' (ok.room hc0) (by rw [ok.K]; exact hb) hv (passAt ok.tk σ) I rv fun x dx hx hdx hne => ?_
    have s0 : Sim G W S (upd H dx (.own x)) := s.upd_new hdx _
    have hx0 : (upd H dx (.own x)) x = none := by rw [upd_ne (Ne.symm hne)]; exact hx
    have s1 : Sim G (W.addC x) (S ++ [.ins c []]) (upd (upd H dx (.own x)) x (.ins (G.cA c) dx [])) := s0.addC hx0 (.ins .nil)
    have l1 : W.le (W.addC x) := Wd.le_addC W x
    have e1 : (W.addC x).at_ S.length = x := if_pos s.len
    refine ⟨W.addC x, _, .r S.length :: (ws ++ dflV d (ws.length + 1)), s1, .cons ⟨?_, by rw [e1]⟩ ?_, ?_, ?_⟩
    · show S.length < W.n + 1
      rw [s.len]
      exact Nat.lt_succ_self _
    · exact Paired.app' (hr _) (RepVs.mono l1 r)
    · unfold dflV
      rw [List.length_cons, List.length_append, List.length_map, List.length_drop]
      omega
    · have e2 : call f (.r S.length :: ws) (S ++ [.ins c []]) = run (.r S.length :: (ws ++ dflV d (ws.length + 1))) (S ++ [.ins c []]) := hcall _ _
      rw [e2] at h
      refine post_E (Post.step (rep' := RepV G) (h.mono l1) fun v S2 W2 y H2 _ l2 s2 r2 p2 => ?_)
      cases v with
      | r n => exact (show False from p2).elim
      | t t =>
        cases t with
        | non =>
          cases r2
          have hlt : S.length < W2.n := Nat.lt_of_lt_of_le (by show S.length < W.n + 1; rw [s.len]; exact Nat.lt_succ_self _) l2.n
          have p3 := fin_post p2 s2 hlt
          rw [l2.at_ S.length (by show S.length < W.n + 1; rw [s.len]; exact Nat.lt_succ_self _), e1] at p3
          exact ⟨rfl, p3⟩
        | _ => exact (show False from p2).elim
theorem run_make0 {Cc : Addr} {pins : List (Addr × Obj)} {st : Shared} (M : Mk0 X.K Cc) (I : Inv X pins σ H st) (h : ∀ x dx, H x = none → H dx = none → dx ≠ x → Q (.ref x) (upd (upd H dx (.own x)) x (.ins Cc dx []))) :
    wpAny (PySem.model X.prog X.w) X.A (PySem.call (.ref Cc) []) (EP X pins σ Q) X.xe st := by
  have hq := h (st.heap.objs.size + 1) st.heap.objs.size (I.hok.fresh (Nat.le_succ _)) (I.hok.fresh (Nat.le_refl _)) (Nat.ne_of_lt (Nat.lt_succ_self _))
  have I2 := Inv.made (C := Cc) I
  refine wpAny_call (make_map0 I.kIn M.makes M.init (fun self => PySem.W.Looks.of_pure (PySem.W.oi_bind self)) ?_)
  have hx : ((st.heap.push PySem.W.emptyDict).push (PySem.W.instObj Cc st.heap.objs.size)).get? (st.heap.objs.size + 1) = some (PySem.W.instObj Cc st.heap.objs.size) := by
    have := Heap.get?_push_size (st.heap.push PySem.W.emptyDict) (o := PySem.W.instObj Cc st.heap.objs.size) rfl
    rwa [Heap.size_push] at this
  have Y := PySem.W.makes_of (M := PySem.model X.prog X.w) I2.kIn M.makes
  have t1 : PySem.W.Looks (PySem.model X.prog X.w) ((st.heap.push PySem.W.emptyDict).push (PySem.W.instObj Cc st.heap.objs.size)) (typeOf (.ref (st.heap.objs.size + 1))) (.ref Cc) := (PySem.W.Looks.ld hx).andThen .now
  have t2 : PySem.W.Looks (PySem.model X.prog X.w) ((st.heap.push PySem.W.emptyDict).push (PySem.W.instObj Cc st.heap.objs.size)) (isInstance (.ref (st.heap.objs.size + 1)) (.type "object")) true := t1.andThen Y.top
  refine codeAny_call_builtin PySem.W.oi_plain PySem.W.entry_oi (@PySem.W.check_slot (PySem.model X.prog X.w) _ _ _ "object.__init__" "object" "__init__" (.ref (st.heap.objs.size + 1)) [] [] _ PySem.W.oi_kind PySem.W.oi_split t2 (PySem.W.oi_args (.ref (st.heap.objs.size + 1))) ?_)
  rw [PySem.W.oi_run]
  exact wpAny_pure (And.intro rfl ⟨V.ref (st.heap.objs.size + 1), _, I2, rfl, hq⟩)
theorem new_run0 (ok : XOk G C X Wx k call) {c : Nat} {cl : Cl} {pins : List (Addr × Obj)} {st : Shared} (hc : G.tab.cl c = some cl) (hf : cl.init = none)
    (h : PostV G Wx σ W (newV G.tab call c [] S) Q) (s : Sim G W S H) (I : Inv X pins σ H st) :
    wpAny (PySem.model X.prog X.w) X.A (PySem.call (.ref (G.cA c)) []) (EP X pins σ Q) X.xe st := by
  have D := ok.cls c cl hc
  have M := D.mkf
  rw [hf] at M
  have M : Mk0 G.K (G.cA c) := M
  unfold newV at h
  rw [hc] at h
  have h : PostV G Wx σ W (match cl.init with
    | none => finV cl.frozen S.length (S ++ [.ins c []])
    | some f => (call f [.r S.length] (S ++ [.ins c []])).bind fun v S1 => (match v with
      | .t .non => finV cl.frozen S.length S1
      | _ => .bad)) Q := h
  rw [hf] at h
  have h : PostV G Wx σ W (finV cl.frozen S.length (S ++ [.ins c []])) Q := h
  refine run_make0 (by rw [ok.K]; exact M) I fun x dx hx hdx hne => ?_
  have s0 : Sim G W S (upd H dx (.own x)) := s.upd_new hdx _
  have hx0 : (upd H dx (.own x)) x = none := by rw [upd_ne (Ne.symm hne)]; exact hx
  have s1 : Sim G (W.addC x) (S ++ [.ins c []]) (upd (upd H dx (.own x)) x (.ins (G.cA c) dx [])) := s0.addC hx0 (.ins .nil)
  have e1 : (W.addC x).at_ S.length = x := if_pos s.len
  have p3 := fin_post (h.mono (Wd.le_addC W x)) s1 (show S.length < W.n + 1 by rw [s.len]; exact Nat.lt_succ_self _)
  rw [e1] at p3
  exact p3
/-- a new instance: C(..) -/
theorem pe_newR (ok : XOk G C X Wx k call) (hcm : C.calm = true) {c : Nat} {es : List Expr} {p pos : Pos} {ies : IEs} (hg : Gl X (G.nm.clN c)) (hnew : newB C.tab c es.length = true) (ha : PA X es (tEs G Wx call ies)) (hs : noStar es = true) (hl : chkEs C ies es = true)
    (n2 : (G.nm.clN c == ("__debug__" : Str)) = false) : PE X (.Call (.Name (G.nm.clN c) p) es [] pos) (tE G Wx call (.new c ies)) := by
  unfold newB at hnew
  rw [ok.tab] at hnew
  cases hc : G.tab.cl c with
  | none => rw [hc] at hnew; cases hnew
  | some cl =>
    rw [hc] at hnew
    have hnew : (match cl.init with
      | some f => arity G.tab f (es.length + 1)
      | none => decide (es.length = 0)) = true := hnew
    cases hf : cl.init with
    | none =>
      rw [hf] at hnew
      have hnew : es.length = 0 := of_decide_eq_true hnew
      have D := ok.cls c cl hc
      have M := D.mkf
      rw [hf] at M
      have M : Mk0 G.K (G.cA c) := M
      have hm : X.mg (G.nm.clN c) = some (.ref (G.cA c)) := by rw [ok.mg]; exact D.mg
      have kp : PySem.W.keepIn X.K (.ref (G.cA c)) = true := by rw [ok.K]; exact M.kp
      cases es with
      | cons _ _ => cases hnew
      | nil =>
        refine ⟨fun pins s σ H Q I ⟨W, env, S, sm, er, h⟩ => ?_⟩
        refine wpAny_Call_Name_kw (ld_glob I hg hm ?_ n2)
        have h : PostV G Wx σ W ((dEs G.tab call ies env S).bind fun vs S => newV G.tab call c vs S) Q := h
        cases ies with
        | cons _ _ => cases hl
        | nil => exact PySem.W.callWith_K0 I.kIn kp (new_run0 ok hc hf h sm I)
    | some f =>
      rw [hf] at hnew
      have D := ok.cls c cl hc
      have M := D.mkf
      rw [hf] at M
      have M : Mk G.K (G.cA c) (G.fA f) := M
      have hm : X.mg (G.nm.clN c) = some (.ref (G.cA c)) := by rw [ok.mg]; exact D.mg
      have kp : PySem.W.keepIn X.K (.ref (G.cA c)) = true := by rw [ok.K]; exact M.kp
      have fin : ∀ (pins : List (Addr × Obj)) (st : Shared) (σ : L2.St) (H : Hp) (Q : VK) (vs : List V) (us : List Value) (ws : List Val) (S : Store) (W : Wd), ws.length = es.length → PostV G Wx σ W (newV G.tab call c ws S) Q → Sim G W S H → Paired (RepV G W) vs ws → Inv X pins σ H st → Vals vs us →
          wpAny (PySem.model X.prog X.w) X.A (PySem.call (.ref (G.cA c)) us) (EP X pins σ Q) X.xe st := fun pins st σ H Q vs us ws S W hw h s r I rv => new_run ok hcm hc hf (by rw [hw]; exact hnew) h s r I rv
      cases es with
      | nil =>
        refine ⟨fun pins s σ H Q I ⟨W, env, S, sm, er, h⟩ => ?_⟩
        refine wpAny_Call_Name_kw (ld_glob I hg hm ?_ n2)
        have h : PostV G Wx σ W ((dEs G.tab call ies env S).bind fun vs S => newV G.tab call c vs S) Q := h
        cases ies with
        | cons _ _ => cases hl
        | nil => exact PySem.W.callWith_K0 I.kIn kp (fin pins s σ H Q [] [] [] S W rfl h sm .nil I .nil)
      | cons e es =>
        refine ⟨fun pins s σ H Q I ⟨W, env, S, sm, er, h⟩ => ?_⟩
        have h : PostV G Wx σ W ((dEs G.tab call ies env S).bind fun vs S => newV G.tab call c vs S) Q := h
        refine wpAny_Call_Name_kw (ld_glob I hg hm ?_ n2)
        refine PySem.W.callWith_K (h₀ := X.base) I.ok.mod.kin kp (thn (ha.run pos pins s σ H (fun vs H1 => ∃ (ws : List Val) (S1 : Store) (W1 : Wd), ws.length = (e :: es).length ∧ PostV G Wx σ W1 (newV G.tab call c ws S1) Q ∧ Sim G W1 S1 H1 ∧ Paired (RepV G W1) vs ws) I ?_) fun us s1 ⟨vs, H1, I1, r, ws, S1, W1, h1, h2, h3, h4⟩ => ⟨I1.kIn, ?_⟩) (star_cons X.env (nb (ba hs).1)) (star_any (ba hs).2)
        · refine Den.step h sm er fun vs S1 W1 xs H1 e1 l1 s1 n1 r1 p1 => ⟨vs, S1, W1, (dEs_len e1).trans (chkEs_len hl).symm, p1, s1, r1⟩
        · exact fin pins s1 σ H1 Q vs us ws S1 W1 h1 h2 h3 h4 I1 r
/-! ### methods of one's own -/
theorem meth_ht {o : Expr} {m : Str} {apos pos : Pos} {es : List Expr} {env : PySem.Env} (h : isSup o = false) (hs : noStar es = true) (hl : es.length < 30) (hline : (apos.endLine == pos.line) = true) : eval (.Call (.Attribute o m apos) es [] pos) env = (do
      let ov ← eval o env
      standAt apos.atName
      let (f, first) ← holding [ov] (getMethod ov m (do return (← importBound o env).getD true))
      callWith pos f first (backTo pos (starEach es env)) (backToKw pos (keywordEach [] env))) := by
  refine mcall_of (abase h) (fun ov => ?_)
  have few : methodCallForm (es.length + ([] : List Keyword).length) (backTo pos (starEach es env)) (backToKw pos (keywordEach [] env)) = true := by
    have z := few_ok (env := env) (cp := pos) hs hl
    have e : (backToKw pos (keywordEach [] env)).isEmpty = true := rfl
    unfold methodCallForm
    rw [e]
    exact z
  unfold methodCall
  rw [few]
  unfold methodCallPos calleeOf
  simp only [hline, Bool.not_true, Bool.false_or, if_true, pure_bind]
/-- the method that a value has, and its promise -/
theorem meth_run (ok : XOk G C X Wx k call) {f m g : Nat} {S2 : Store} (h : methV G.tab f m a S = .ok g S2) (s : Sim G W S H) (rx : RepV G W x a) :
    S2 = S ∧ ∃ ad Cc dx gs, x = .ref ad ∧ H ad = some (.ins Cc dx gs) ∧ Cls X.K Cc ∧ Meth X.K Cc (G.nm.atN f) (G.fA g) ∧ gs.lookup (G.nm.atN f) = none ∧ (G.tab.fn g).isSome = true ∧ arity G.tab g m = true := by
  have go : ∀ (c : Nat) (fs : List (Nat × Val)), ((∃ ts, a = .t (.ins c ts) ∧ fs = ts.map fun (p : Nat × T) => (p.1, Val.t p.2)) ∨ ∃ n, a = .r n ∧ S[n]? = some (.ins c fs)) → fs.lookup f = none → ((G.tab.cl c).bind fun k => k.meths.lookup f) = some g →
      ∃ ad Cc dx gs, x = .ref ad ∧ H ad = some (.ins Cc dx gs) ∧ Cls X.K Cc ∧ Meth X.K Cc (G.nm.atN f) (G.fA g) ∧ gs.lookup (G.nm.atN f) = none ∧ (G.tab.fn g).isSome = true := fun c fs h1 h2 h3 => by
    obtain ⟨ad, dx, gs, e1, e2, e3⟩ := ins_at s rx h1
    obtain ⟨cl, e4, e5⟩ := Option.bind_eq_some_iff.mp h3
    have F := ok.cls c cl e4
    obtain ⟨n1, n2, n3⟩ := F.mt f g e5
    exact ⟨ad, _, dx, gs, e1, e2, by rw [ok.K]; exact F.cls, by rw [ok.K]; exact n2, (look_rep ok.okf n1 e3).2 h2, n3⟩
  have ari : ∀ {g' : Nat}, ariV G.tab m (some g') S = .ok g S2 → g' = g ∧ arity G.tab g m = true := fun {g'} z => by
    have z : (if arity G.tab g' m then R.ok g' S else .bad) = .ok g S2 := z
    split at z
    · rename_i b
      cases z
      exact ⟨rfl, b⟩
    · cases z
  have ari2 : ∀ {g' : Nat}, ariV G.tab m (some g') S = .ok g S2 → S2 = S ∧ True := fun {g'} z => by
    have z : (if arity G.tab g' m then R.ok g' S else .bad) = .ok g S2 := z
    split at z
    · cases z
      exact ⟨rfl, trivial⟩
    · cases z
  unfold methV at h
  split at h
  · rename_i c ts
    split at h
    · rename_i b
      cases q : (G.tab.cl c).bind fun k => k.meths.lookup f with
      | none => rw [q] at h; cases h
      | some g' =>
        rw [q] at h
        obtain ⟨e, ar⟩ := ari h
        cases e
        obtain ⟨ad, Cc, dx, gs, w1, w2, w3, w4, w5, w6⟩ := go c _ (.inl ⟨ts, rfl, rfl⟩) (by rw [look_map, Option.isNone_iff_eq_none.mp b]; rfl) q
        exact ⟨(ari2 h).1, ad, Cc, dx, gs, w1, w2, w3, w4, w5, w6, ar⟩
    · cases h
  · rename_i n
    split at h
    · rename_i c fs hc
      split at h
      · rename_i b
        cases q : (G.tab.cl c).bind fun k => k.meths.lookup f with
        | none => rw [q] at h; cases h
        | some g' =>
          rw [q] at h
          obtain ⟨e, ar⟩ := ari h
          cases e
          obtain ⟨ad, Cc, dx, gs, w1, w2, w3, w4, w5, w6⟩ := go c fs (.inr ⟨n, rfl, hc⟩) (Option.isNone_iff_eq_none.mp b) q
          exact ⟨(ari2 h).1, ad, Cc, dx, gs, w1, w2, w3, w4, w5, w6, ar⟩
      · cases h
    · cases h
  · cases h
theorem methV_ex {tab : Tab} {f m : Nat} {x : Exn} {S2 : Store} (q : methV tab f m a S = .ex x S2) : False := by
  have no : ∀ o, ariV tab m o S ≠ .ex x S2 := fun o z => by
    cases o with
    | none => cases z
    | some g =>
      have z : (if arity tab g m then R.ok g S else .bad) = .ex x S2 := z
      split at z <;> cases z
  unfold methV at q
  split at q
  · split at q
    · exact no _ q
    · cases q
  · split at q
    · split at q
      · exact no _ q
      · cases q
    · cases q
  · cases q
/-- o.m(..) -/
theorem pe_methR (ok : XOk G C X Wx k call) (hcm : C.calm = true) {f : Nat} {o : Expr} {io : IE} {es : List Expr} {ap pos : Pos} {ies : IEs} (ho : PE X o (tE G Wx call io)) (ha : PA X es (tEs G Wx call ies)) (hsup : isSup o = false) (hs : noStar es = true) (hl : chkEs C ies es = true) (hfew : es.length < 30) (hline : (ap.endLine == pos.line) = true) :
    PE X (.Call (.Attribute o (G.nm.atN f) ap) es [] pos) (tE G Wx call (.meth io f ies)) := by
  refine ⟨fun pins s σ H Q I ⟨W, env, S, sm, er, h⟩ => ?_⟩
  have h : PostV G Wx σ W ((dE G.tab call io env S).bind fun x S => (methV G.tab f (ies.len + 1) x S).bind fun g S => (dEs G.tab call ies env S).bind fun vs S => call g (x :: vs) S) Q := h
  refine PySem.W.methodCall_KW (thn (ho.run pins s σ H (fun x H1 => ∃ (v : Val) (S1 : Store) (W1 : Wd), Sim G W1 S1 H1 ∧ EnvRep G W1 σ env ∧ RepV G W1 x v ∧ PostV G Wx σ W1 ((methV G.tab f (ies.len + 1) v S1).bind fun g S => (dEs G.tab call ies env S).bind fun vs S => call g (v :: vs) S) Q) I ?_) fun u s1 ⟨x, H1, I1, rx, v, S1, W1, s2, n2, r2, p2⟩ => ?_) (meth_ht hsup hs hfew hline)
  · exact Den.step h sm er fun v S1 W1 x H1 e1 l1 s1 n1 r1 p1 => ⟨v, S1, W1, s1, n1, r1, p1⟩
  · cases q : methV G.tab f (ies.len + 1) v S1 with
    | bad => rw [q] at p2; exact (show False from p2).elim
    | ex x S => exact (methV_ex q).elim
    | ok g S2 =>
      obtain ⟨rfl, ad, Cc, dx, gs, rfl, e2, hc, hm, hno, hfn, har⟩ := meth_run ok q s2 r2
      rw [q] at p2
      have p2 : PostV G Wx σ W1 ((dEs G.tab call ies env S2).bind fun vs S => call g (v :: vs) S) Q := p2
      obtain rfl : u = Value.ref ad := rx
      refine getmeth_ok I1 e2 hc hm hno ?_
      cases hd : G.tab.fn g with
      | none => rw [hd] at hfn; cases hfn
      | some d =>
        cases es with
        | nil =>
          cases ies with
          | cons _ _ => cases hl
          | nil =>
            have p3 : PostV G Wx σ W1 (call g [v] S2) Q := p2
            exact PySem.W.callWith_K0 (first := [.ref ad]) I1.kIn hm.kp (call_run (ws := [v]) (vs := [.ref ad]) ok hcm hd har p3 s2 (.cons r2 .nil) I1 (.cons rfl .nil))
        | cons e es =>
          refine PySem.W.callWith_K (first := [.ref ad]) (h₀ := X.base) I.ok.mod.kin hm.kp (thn (ha.run pos pins s1 σ H1 (fun vs H3 => ∃ (ws : List Val) (S3 : Store) (W3 : Wd), ws.length = ies.len ∧ W1.le W3 ∧ PostV G Wx σ W3 (call g (v :: ws) S3) Q ∧ Sim G W3 S3 H3 ∧ Paired (RepV G W3) vs ws) I1 ?_) fun us s4 ⟨vs, H4, I4, r4, ws, S3, W3, hw, l3, p3, s3, rp⟩ => ⟨I4.kIn, ?_⟩) (star_cons X.env (nb (ba hs).1)) (star_any (ba hs).2)
          · exact Den.step p2 s2 n2 fun ws S3 W3 xs H3 e3 l3 s3 n3 r3 p3 => ⟨ws, S3, W3, dEs_len e3, l3, p3, s3, r3⟩
          · exact call_run (ws := v :: ws) (vs := .ref ad :: vs) ok hcm hd (by rw [List.length_cons, hw]; exact har) p3 s3 (.cons (r2.mono l3) rp) I4 (.cons rfl r4)
theorem cell_ty (hK : X.K = G.K) (h : cellB a S = true) (s : Sim G W S H) (rx : RepV G W x a) : tyV X.K "list" x H := by
  unfold cellB at h
  split at h
  · rename_i n
    obtain ⟨hn, ex⟩ := rx
    subst ex
    split at h
    · rename_i us hc
      obtain ⟨zs, ho, hp⟩ := cell_lst s hc
      exact .inl ⟨rfl, zs, SqL.of ho⟩
    · cases h
  · cases rx with
    | lst hF rl => exact .inl ⟨rfl, _, SqL.of (s.fz _ _ hF)⟩
  · cases h
end
end Rw

namespace Rw
open PySem PySem.Spec PyProof.Rows L2
/-! ### targets, walks, comprehensions -/
section
variable {G : Gd} {C : Ck} {X : Cx} {Wx : WX} {k : Nat} {call : Call} {W : Wd} {S : Store} {H : Hp} {σ : L2.St} {env : Env}
theorem wipe_set {x : Option V} {i : Nat} : ∀ {us : List Nat} {σ : L2.St}, i ∈ us → L2.wipe (σ.set i x) us = L2.wipe σ us
  | [], _, h => by cases h
  | u :: us, σ, h => by
    show (L2.wipe (σ.set i x) us).set u none = (L2.wipe σ us).set u none
    by_cases z : i ∈ us
    · rw [wipe_set z]
    · have e : i = u := by
        rcases List.mem_cons.mp h with h | h
        · exact h
        · exact absurd h z
      subst e
      have go : ∀ (us : List Nat) (σ : L2.St), i ∉ us → L2.wipe (σ.set i x) us = (L2.wipe σ us).set i x := fun us => by
        induction us with
        | nil => exact fun σ _ => rfl
        | cons v vs ih =>
          intro σ hn
          show (L2.wipe (σ.set i x) vs).set v none = ((L2.wipe σ vs).set v none).set i x
          rw [ih σ fun h => hn (List.mem_cons_of_mem _ h), List.set_comm _ _ fun z => hn (by rw [z]; exact List.mem_cons_self)]
      rw [go us σ z, List.set_set]
theorem wipe_sub {us : List Nat} : ∀ {vs : List Nat} {σ : L2.St}, (∀ i ∈ vs, i ∈ us) → L2.wipe (L2.wipe σ vs) us = L2.wipe σ us
  | [], _, _ => rfl
  | v :: vs, σ, h => by
    show L2.wipe ((L2.wipe σ vs).set v none) us = _
    rw [wipe_set (h v List.mem_cons_self)]
    exact wipe_sub fun i hi => h i (List.mem_cons_of_mem _ hi)
theorem wipe_wipe (σ : L2.St) (vs : List Nat) : L2.wipe (L2.wipe σ vs) vs = L2.wipe σ vs := wipe_sub fun _ h => h
/-- what a target does -/
def tTg (G : Gd) (many : Bool) (tg : List Nat) : TG := fun v σ H Q => ∃ (W : Wd) (S : Store) (env env2 : Env) (a : Val), Sim G W S H ∧ EnvRep G W σ env ∧ RepV G W v a ∧ target many tg a env S = some env2 ∧ ∀ σ2, EnvRep G W σ2 env2 → L2.wipe σ2 tg = L2.wipe σ tg → Q σ2 H
def tTgs (G : Gd) (tg : List Nat) : TGs := fun vs σ H Q => ∃ (W : Wd) (S : Store) (env env2 : Env) (ws : List Val), Sim G W S H ∧ EnvRep G W σ env ∧ Paired (RepV G W) vs ws ∧ setMany env tg ws = some env2 ∧ ∀ σ2, EnvRep G W σ2 env2 → (∀ us : List Nat, (∀ i ∈ tg, i ∈ us) → L2.wipe σ2 us = L2.wipe σ us) → Q σ2 H
theorem PG.imp {e : Expr} {t t' : TG} (h : PG X e t) (f : ∀ v σ H Q, t' v σ H Q → t v σ H Q) : PG X e t' := ⟨fun pins s σ H v u Q I r q => h.run pins s σ H v u Q I r (f v σ H Q q)⟩
theorem PGs.imp {es : List Expr} {t t' : TGs} (h : PGs X es t) (f : ∀ v σ H Q, t' v σ H Q → t v σ H Q) : PGs X es t' := ⟨fun pins s σ H v u Q I r q => h.run pins s σ H v u Q I r (f v σ H Q q)⟩
theorem asg_cons {e : Expr} {es : List Expr} (env : PySem.Env) (h : isStar e = false) : assignEach (e :: es) env = (false, assign e env) :: assignEach es env := by
  cases e <;> first | rfl | cases h
theorem sTgs (ok : XOk G C X Wx k call) : ∀ {tg : List Nat} {es : List Expr}, chkTg C tg es = true → PGs X es (tTgs G tg) ∧ (assignEach es X.env).length = tg.length ∧ (assignEach es X.env).findIdx? (·.1) = none
  | [], [], _ => ⟨PGs.imp pgs_nil (fun vs σ H Q ⟨W, S, env, env2, xs, sm, er, r, e, q⟩ => by
      cases xs with
      | nil =>
        cases r
        cases e
        exact ⟨rfl, q σ er fun _ _ => rfl⟩
      | cons _ _ => cases e), rfl, rfl⟩
  | i :: is, e :: es, h => by
    cases e with
    | Name x p =>
      obtain ⟨h1, h⟩ := ba h
      obtain ⟨h2, h3⟩ := ba h
      have h1 : X.N[i]? = some x := by rw [ok.N]; exact of_decide_eq_true h1
      obtain ⟨c1, c2⟩ := ok.can i x h1 h2
      obtain ⟨g, l, f⟩ := sTgs ok h3
      refine ⟨PGs.imp (pgs_cons (pg_name ok.nd h1 c1 c2) g rfl) ?_, congrArg Nat.succ l, ?_⟩
      · rintro vs σ H Q ⟨W, S, env, env2, xs, sm, er, r, e, q⟩
        cases xs with
        | nil => cases e
        | cons x xs =>
          cases r with
          | cons r rr => exact ⟨_, _, rfl, W, S, _, env2, xs, sm, er.set (v := x) r i, rr, e, fun σ2 e2 w2 => q σ2 e2 fun us hu => (w2 us fun j hj => hu j (List.mem_cons_of_mem _ hj)).trans (wipe_set (hu i List.mem_cons_self))⟩
      · show ((false, assign (.Name x p) X.env) :: assignEach es X.env).findIdx? (·.1) = none
        rw [List.findIdx?_cons, f]
        rfl
    | _ => cases h
  | [], _ :: _, h => by cases h
  | _ :: _, [], h => by cases h
theorem setMany_len : ∀ {tg : List Nat} {xs : List Val} {env env2 : Env}, setMany env tg xs = some env2 → xs.length = tg.length
  | [], [], _, _, _ => rfl
  | _ :: _, _ :: _, _, _, h => congrArg Nat.succ (setMany_len h)
  | [], _ :: _, _, _, h => by cases h
  | _ :: _, [], _, _, h => by cases h
theorem sTg (ok : XOk G C X Wx k call) {many : Bool} {tg : List Nat} {e : Expr} (h : chkT C many tg e = true) : PG X e (tTg G many tg) := by
  cases many with
  | false =>
    cases tg with
    | nil => cases e <;> cases h
    | cons i tg =>
      cases tg with
      | cons _ _ => cases e <;> cases h
      | nil =>
        cases e with
        | Name x p =>
          have h1 : X.N[i]? = some x := by rw [ok.N]; exact of_decide_eq_true (ba h).1
          obtain ⟨c1, c2⟩ := ok.can i x h1 (ba h).2
          refine PG.imp (pg_name ok.nd h1 c1 c2) fun v σ H Q ⟨W, S, env, env2, a, sm, er, r, e, q⟩ => ?_
          cases e
          exact q _ (er.set r i) (wipe_set List.mem_cons_self)
        | _ => cases h
  | true =>
    cases e with
    | Tuple es kk p =>
      obtain ⟨g, l, f⟩ := sTgs ok (ba h).1
      refine ⟨fun pins s σ H v u Q I ru ⟨W, S, env, env2, a, sm, er, r, e, q⟩ => ?_⟩
      cases a with
      | r n =>
        have e : (match S[n]? with
          | some (.lst ws) => setMany env tg ws
          | _ => none) = some env2 := e
        cases hc : S[n]? with
        | none => rw [hc] at e; cases e
        | some c =>
          cases c with
          | lst ws =>
            rw [hc] at e
            have e : setMany env tg ws = some env2 := e
            obtain ⟨zs, ho, hp⟩ := cell_lst sm hc
            obtain ⟨hn, ex⟩ := r
            subst ex
            exact (pg_lst (ok.calm (ba h).2) g l f).run pins s σ H _ u Q I ru ⟨_, _, rfl, SqL.of ho, by rw [Paired.length hp]; exact setMany_len e, W, S, env, env2, ws, sm, er, hp, e, fun σ2 e2 w2 => q σ2 e2 (w2 tg fun _ h => h)⟩
          | dead => rw [hc] at e; cases e
          | ins _ _ => rw [hc] at e; cases e
          | dct _ => rw [hc] at e; cases e
      | t t =>
        cases t with
        | tup xs =>
          cases r with
          | tup hF rl =>
            have e : setMany env tg (xs.map .t) = some env2 := e
            exact (pg_tup (ok.calm (ba h).2) g l f).run pins s σ H _ u Q I ru ⟨_, _, rfl, by rw [ok.K]; exact sameT sm.fz hF, by rw [rl.length, ← setMany_len e, List.length_map], W, S, env, env2, _, sm, er, vals_repL (vs := []) rl, e, fun σ2 e2 w2 => q σ2 e2 (w2 tg fun _ h => h)⟩
        | lst xs =>
          cases r with
          | lst hF rl =>
            have e : setMany env tg (xs.map .t) = some env2 := e
            exact (pg_lst (ok.calm (ba h).2) g l f).run pins s σ H _ u Q I ru ⟨_, _, rfl, SqL.of (sm.fz _ _ hF), by rw [rl.length, ← setMany_len e, List.length_map], W, S, env, env2, _, sm, er, vals_repL (vs := []) rl, e, fun σ2 e2 w2 => q σ2 e2 (w2 tg fun _ h => h)⟩
        | _ => cases e
    | _ => cases tg <;> cases h

end
/-- a world of which another one knows all cells and trees -/
structure Wd.sub (W W' : Wd) : Prop where
  f : Same W.F W'.F
  n : W.n ≤ W'.n
  at_ : ∀ k, k < W.n → W'.at_ k = W.at_ k
theorem Wd.le.sub {W W' : Wd} (l : W.le W') : W.sub W' := ⟨l.f, l.n, l.at_⟩
theorem Wd.sub.trans {W W1 W2 : Wd} (a : W.sub W1) (b : W1.sub W2) : W.sub W2 := ⟨a.f.trans b.f, Nat.le_trans a.n b.n, fun k hk => (b.at_ k (Nat.lt_of_lt_of_le hk a.n)).trans (a.at_ k hk)⟩
theorem RepV.monoS {G : Gd} {W W' : Wd} (l : W.sub W') {v : V} : ∀ {a : Val}, RepV G W v a → RepV G W' v a
  | .t x, h => Rep.mono l.f x v h
  | .r n, h => ⟨Nat.lt_of_lt_of_le h.1 l.n, by rw [l.at_ n h.1]; exact h.2⟩
/-- an iterator that gives these items -/
structure Wlk (G : Gd) (W : Wd) (J : It) (its : List Val × Wk) : Prop where
  go : ∀ (W' : Wd) (S' : Store) (H' : Hp) (i : Nat), i < its.1.length → W.sub W' → Sim G W' S' H' → okW its.2 S' → J.go i H'
  stop : ∀ (W' : Wd) (S' : Store) (H' : Hp), W.sub W' → Sim G W' S' H' → okW its.2 S' → J.stop its.1.length H'
  yld : ∀ (W' : Wd) (S' : Store) (H' : Hp) (i : Nat) (x : V) (H2 : Hp), i < its.1.length → W.sub W' → Sim G W' S' H' → okW its.2 S' → J.yld i H' x H2 → ∃ (W2 : Wd) (v : Val), W'.le W2 ∧ Sim G W2 S' H2 ∧ its.1[i]? = some v ∧ RepV G W2 x v
section
variable {G : Gd} {C : Ck} {X : Cx} {Wx : WX} {k : Nat} {call : Call} {W : Wd} {S : Store} {H : Hp} {σ : L2.St} {env : Env}
theorem wlk_list {a : Addr} {vs : List V} {its : List Val} (hs : ∀ (W' : Wd) (S' : Store) (H' : Hp), W.sub W' → Sim G W' S' H' → SqL G.K H' a vs) (r : Paired (RepV G W) vs its) : Wlk G W (Itl G.K a) (its, none) where
  go := fun W' S' H' i hi l s _ => walk_list.goes i H' (by rw [Paired.length r]; exact hi) (hs W' S' H' l s)
  stop := fun W' S' H' l s _ => by rw [← Paired.length r]; exact walk_list.stops H' (hs W' S' H' l s)
  yld := fun W' S' H' i x H2 hi l s _ y => by
    obtain ⟨e, hx⟩ := walk_list.yields i H' x H2 (by rw [Paired.length r]; exact hi) (hs W' S' H' l s) y
    have hi : i < its.length := hi
    obtain ⟨x', h1, h2⟩ := Paired.get (i := i) (y := its[i]) r (by simp [hi])
    rw [hx] at h1
    cases h1
    subst e
    exact ⟨W', its[i], .refl W', s, by simp [hi], h2.monoS l⟩
/-- a cell, walked -/
theorem wlk_cell {n : Nat} {ws : List Val} (hn : n < W.n) : Wlk G W (Itl G.K (W.at_ n)) (ws, some (n, ws)) := by
  have key : ∀ (W' : Wd) (S' : Store) (H' : Hp), W.sub W' → Sim G W' S' H' → okW (some (n, ws)) S' → ∃ vs, SqL G.K H' (W.at_ n) vs ∧ Paired (RepV G W') vs ws := fun W' S' H' l s w => by
    obtain ⟨_, _, o, ho, ok⟩ := s.live n _ w (by intro z; cases z)
    cases ok with
    | lst hp => exact ⟨_, SqL.of (by rw [← l.at_ n hn]; exact ho), hp⟩
  constructor
  · intro W' S' H' i hi l s w
    obtain ⟨vs, h1, h2⟩ := key W' S' H' l s w
    exact walk_list.goes i H' (by rw [Paired.length h2]; exact hi) h1
  · intro W' S' H' l s w
    obtain ⟨vs, h1, h2⟩ := key W' S' H' l s w
    show (Itl G.K (W.at_ n)).stop ws.length H'
    rw [← Paired.length h2]
    exact walk_list.stops H' h1
  · intro W' S' H' i x H2 hi l s w y
    obtain ⟨vs, h1, h2⟩ := key W' S' H' l s w
    have hi : i < ws.length := hi
    obtain ⟨e, hx⟩ := walk_list.yields i H' x H2 (by rw [Paired.length h2]; exact hi) h1 y
    obtain ⟨x', h3, h4⟩ := Paired.get (i := i) (y := ws[i]) h2 (by simp [hi])
    rw [hx] at h3
    cases h3
    subst e
    exact ⟨W', ws[i], .refl W', s, by simp [hi], h4⟩
theorem wlk_tup {a : Addr} {vs : List V} {its : List Val} (hs : ∀ (W' : Wd) (S' : Store) (H' : Hp), W.sub W' → Sim G W' S' H' → SqT G.K H' a vs) (r : Paired (RepV G W) vs its) : Wlk G W (Itt G.K a) (its, none) where
  go := fun W' S' H' i hi l s _ => walk_tup.goes i H' (by rw [Paired.length r]; exact hi) (hs W' S' H' l s)
  stop := fun W' S' H' l s _ => by rw [← Paired.length r]; exact walk_tup.stops H' (hs W' S' H' l s)
  yld := fun W' S' H' i x H2 hi l s _ y => by
    obtain ⟨e, hx⟩ := walk_tup.yields i H' x H2 (by rw [Paired.length r]; exact hi) (hs W' S' H' l s) y
    have hi : i < its.length := hi
    obtain ⟨x', h1, h2⟩ := Paired.get (i := i) (y := its[i]) r (by simp [hi])
    rw [hx] at h1
    cases h1
    subst e
    exact ⟨W', its[i], .refl W', s, by simp [hi], h2.monoS l⟩
theorem rngOk_ok {i : Int} (h : rngOk i = true) : -(2 ^ 62) ≤ i ∧ i < 2 ^ 62 := by
  unfold rngOk at h
  have := of_decide_eq_true h
  omega
theorem rng_get {lo hi : Int} {i : Nat} (h : i < (hi - lo).toNat) : (rng lo hi)[i]? = some (.t (.int (lo + (i : Int)))) := by
  unfold rng
  rw [List.getElem?_map, List.getElem?_range h]
  rfl
theorem rng_len (lo hi : Int) : (rng lo hi).length = (hi - lo).toNat := by
  unfold rng
  rw [List.length_map, List.length_range]
/-- a text and a tuple, side by side -/
theorem wlk_zip {x : Str} {b : Addr} {vs : List V} {ys : List T} (hs : ∀ (W' : Wd) (S' : Store) (H' : Hp), W.sub W' → Sim G W' S' H' → SqT G.K H' b vs) (r : Paired (RepV G W) vs (ys.map .t)) :
    Wlk G W (ItzS G.K x b) ((x.cps.toList.zip ys).map fun p => Val.t (.tup [.str ⟨#[p.1]⟩, p.2]), none) := by
  have lv : vs.length = ys.length := by rw [Paired.length r, List.length_map]
  have lx : x.cps.toList.length = x.cps.size := Array.length_toList
  have lz : ((x.cps.toList.zip ys).map fun p => Val.t (.tup [.str ⟨#[p.1]⟩, p.2])).length = min x.cps.size ys.length := by rw [List.length_map, List.length_zip, lx]
  have at_ : ∀ i, i < min x.cps.size ys.length → ∃ c t y, x.cps[i]? = some c ∧ ys[i]? = some t ∧ vs[i]? = some y ∧ RepV G W y (.t t) ∧ ((x.cps.toList.zip ys).map fun p => Val.t (.tup [.str ⟨#[p.1]⟩, p.2]))[i]? = some (.t (.tup [.str ⟨#[c]⟩, t])) := fun i hi => by
    have h1 : i < x.cps.size := by omega
    have h2 : i < ys.length := by omega
    have e1 : x.cps[i]? = some x.cps[i] := Array.getElem?_eq_getElem h1
    have e1' : x.cps.toList[i]? = some x.cps[i] := by rw [Array.getElem?_toList]; exact e1
    have e2 : ys[i]? = some ys[i] := List.getElem?_eq_getElem h2
    obtain ⟨y, h3, h4⟩ := Paired.get (i := i) (y := Val.t ys[i]) r (by rw [List.getElem?_map, e2]; rfl)
    refine ⟨_, _, y, e1, e2, h3, h4, ?_⟩
    have ez : (x.cps.toList.zip ys)[i]? = some (x.cps[i], ys[i]) := by
      rw [List.getElem?_zip_eq_some]
      exact ⟨e1', e2⟩
    rw [List.getElem?_map, ez]
    rfl
  constructor
  · intro W' S' H' i hi l s _
    rw [lz] at hi
    obtain ⟨c, t, y, h1, h2, h3, h4, h5⟩ := at_ i hi
    exact ⟨vs, y, c, hs W' S' H' l s, h1, h3⟩
  · intro W' S' H' l s _
    rw [lz]
    exact ⟨vs, hs W' S' H' l s, by omega, by omega, by omega⟩
  · intro W' S' H' i v H2 hi l s _ y
    rw [lz] at hi
    obtain ⟨c, t, z, h1, h2, h3, h4, h5⟩ := at_ i hi
    obtain ⟨p, z', c', rfl, hp, rfl, g1, g2⟩ := y
    rw [h1] at g1
    cases g1
    have g := g2 vs (hs W' S' H' l s)
    rw [h3] at g
    cases g
    refine ⟨W'.addF p (.tup [.str ⟨#[c]⟩, z]), _, Wd.le_addF s hp _, s.addF hp _, h5, ?_⟩
    have h4' : Rep G (W'.addF p (.tup [.str ⟨#[c]⟩, z])).F z t := (h4.monoS l).mono (Wd.le_addF s hp _)
    exact .tup (.inl (.inl upd_same)) (.cons (.str _) (.cons h4' .nil))
theorem wlk_rng {lo hi : Int} : Wlk G W (Itr lo (hi - lo).toNat) (rng lo hi, none) where
  go := fun W' S' H' i hi2 l s _ => walk_range.goes i H' (by rw [rng_len] at hi2; exact hi2) trivial
  stop := fun W' S' H' l s _ => by rw [rng_len]; exact walk_range.stops H' trivial
  yld := fun W' S' H' i x H2 hi2 l s _ y => by
    rw [rng_len] at hi2
    obtain ⟨e, hx⟩ := walk_range.yields i H' x H2 hi2 trivial y
    subst e hx
    exact ⟨W', _, .refl W', s, rng_get hi2, (show Rep G W'.F _ (.int _) from .int _)⟩
/-! comprehensions -/
theorem alloc_seize {m : Bool} {ws : List Val} {vs : List V} {D : Addr} {Q : VK} (h : PostV G Wx σ W (alloc m ws S) Q) (s : Sim G W S H) (o : Out W S D) (hD : H D = some (.lst vs)) (r : Paired (RepV G W) vs ws) : Q (.ref D) H := by
  unfold alloc at h
  split at h
  · cases m with
    | true =>
      have h : PostV G Wx σ W (.ok (.r S.length) (S ++ [.lst ws])) Q := h
      refine h (W.addC D) (.ref D) H (Wd.le_addC W D) (s.seizeC o hD (.lst r)) ⟨?_, ?_⟩
      · show S.length < W.n + 1
        rw [s.len]
        exact Nat.lt_succ_self _
      · show V.ref D = V.ref (if S.length = W.n then D else _)
        rw [if_pos s.len]
    | false =>
      have h : PostV G Wx σ W (match allT ws with
        | some xs => .ok (.t (.lst xs)) S
        | none => .bad) Q := h
      cases e : allT ws with
      | none => rw [e] at h; exact (show False from h).elim
      | some xs =>
        rw [e] at h
        exact h (W.addF D (.lst vs)) (.ref D) H (le_seizeF o.f o.b _) (s.seizeF o hD) (.lst upd_same (RepL.mono (same_upd o.f) xs vs (allT_rep r e)))
  · exact (show False from h).elim
abbrev noW : WX := fun _ _ _ _ => False
noncomputable abbrev compF (tab : Tab) (call : Call) (env : Env) (many : Bool) (tg : List Nat) (ifs : ICs) (elt : IE) : Val → Store → R (Option Val) := fun v S => match target many tg v (wipeE env tg) S with
  | some env2 => (dAnd tab call ifs env2 S).bind fun k S => if k then (dE tab call elt env2 S).bind fun y S => .ok (some y) S else .ok none S
  | none => .bad
/-- what stands at a comprehension's turn -/
def Turn (G : Gd) (Wx : WX) (call : Call) (σ : L2.St) (env : Env) (W0 : Wd) (m many : Bool) (tg : List Nat) (ifs : ICs) (elt : IE) (its : List Val × Wk) (D : Addr) (Q : VK) (i : Nat) : Hp → Prop := fun H =>
  ∃ (W : Wd) (S : Store) (acc : List Val) (vs : List V), W0.le W ∧ Sim G W S H ∧ Out W S D ∧ H D = some (.lst vs) ∧ Paired (RepV G W) vs acc ∧ EnvRep G W σ env ∧
    PostV G Wx σ W ((compL its.2 (compF G.tab call env many tg ifs elt) (its.1.drop i) acc S).bind fun ys S => alloc m ys S) Q
theorem turn_end {W0 : Wd} {m many : Bool} {tg : List Nat} {ifs : ICs} {elt : IE} {its : List Val × Wk} {D : Addr} {Q : VK} (h : Turn G Wx call σ env W0 m many tg ifs elt its D Q its.1.length H) : Q (.ref D) H := by
  obtain ⟨W, S, acc, vs, l, s, o, hD, r, er, h⟩ := h
  rw [List.drop_length] at h
  rcases Classical.em (okW its.2 S) with hw | hw
  · rw [compL_nil hw] at h
    exact alloc_seize h s o hD r
  · rw [compL_bad hw] at h
    exact (show False from h).elim
theorem turn_ok {W0 : Wd} {m many : Bool} {tg : List Nat} {ifs : ICs} {elt : IE} {its : List Val × Wk} {D : Addr} {Q : VK} {i : Nat} (h : Turn G Wx call σ env W0 m many tg ifs elt its D Q i H) : ∃ W' S', W0.sub W' ∧ Sim G W' S' H ∧ okW its.2 S' := by
  obtain ⟨W, S, acc, vs, l, s, o, hD, r, er, h⟩ := h
  refine ⟨W, S, l.sub, s, Classical.byContradiction fun hw => ?_⟩
  rw [compL_bad hw] at h
  exact (show False from h).elim
theorem turn_step {W0 W9 : Wd} {m many : Bool} {tg : List Nat} {ifs : ICs} {elt : IE} {its : List Val × Wk} {D : Addr} {Q : VK} {J : It} {i : Nat} {x : V} {H2 : Hp} (wl : Wlk G W0 J its) (hi : i < its.1.length) (h : Turn G Wx call σ env W0 m many tg ifs elt its D Q i H) (y : J.yld i H x H2) :
    tTg G many tg x (L2.wipe σ tg) H2 fun σ2 H2 => L2.wipe σ2 tg = L2.wipe σ tg ∧ Den G (fun _ (b k : Bool) => b = k) noW (dAnd G.tab call ifs) σ2 H2 fun b H3 =>
      if b = true then Den G (RepV G) noW (dE G.tab call elt) σ2 H3 fun y H4 => ∃ acc, H4 D = some (.lst acc) ∧ acc.length < sizeLine ∧ Turn G Wx call σ env W0 m many tg ifs elt its D Q (i + 1) (upd H4 D (.lst (acc ++ [y]))) else Turn G Wx call σ env W0 m many tg ifs elt its D Q (i + 1) H3 := by
  obtain ⟨W, S, acc, vs, l, s, o, hD, r, er, h⟩ := h
  have hw : okW its.2 S := Classical.byContradiction fun hw => by
    rw [compL_bad hw] at h
    exact (show False from h).elim
  obtain ⟨W2, v, l2, s2, hv, rv⟩ := wl.yld (W.pin D (.lst vs)) S H i x H2 hi ⟨l.f, l.n, l.at_⟩ (s.pin o hD) hw y
  have ev : its.1[i] = v := (List.getElem?_eq_some_iff.mp hv).2
  rw [List.drop_eq_getElem_cons hi, ev] at h
  rw [compL_cons hw] at h
  unfold compF at h
  cases e : target many tg v (wipeE env tg) S with
  | none => rw [e] at h; exact (show False from h).elim
  | some env2 =>
    rw [e] at h
    have wip : ∀ σ : L2.St, L2.wipe (L2.wipe σ tg) tg = L2.wipe σ tg := fun σ => wipe_wipe σ tg
    have er2 : EnvRep G W2 (L2.wipe σ tg) (wipeE env tg) := (EnvRep.mono l2 (er.pinned)).wipe tg
    refine ⟨W2, S, _, env2, v, s2, er2, rv, e, fun σ2 er3 w2 => ⟨w2.trans (wip σ), W2, env2, S, s2, er3, ?_⟩⟩
    have h : PostV G Wx σ W ((((dAnd G.tab call ifs env2 S).bind fun k S => if k then (dE G.tab call elt env2 S).bind fun y S => .ok (some y) S else .ok none S).nob fun o S1 => match o with
      | some y => if acc.length < szLine then compL its.2 (compF G.tab call env many tg ifs elt) (its.1.drop (i + 1)) (acc ++ [y]) S1 else .bad
      | none => compL its.2 (compF G.tab call env many tg ifs elt) (its.1.drop (i + 1)) acc S1).bind fun ys S => alloc m ys S) Q := h
    cases e2 : dAnd G.tab call ifs env2 S with
    | bad => rw [e2] at h; exact h
    | ex _ _ => rw [e2] at h; exact h.elim
    | ok b S2 =>
      rw [e2] at h
      intro W3 b' H3 l3 s3 eb
      have eb : b' = b := eb
      subst eb
      cases b' with
      | false =>
        have h : PostV G Wx σ W ((compL its.2 (compF G.tab call env many tg ifs elt) (its.1.drop (i + 1)) acc S2).bind fun ys S => alloc m ys S) Q := h
        have l23 := l2.trans l3
        obtain ⟨u1, u2, u3⟩ := unpin_sim o.f o.b l23 s3
        have ul := unpin_le o.f l23
        exact iteF ⟨_, S2, acc, vs, l.trans ul, u1, u2, u3, RepVs.mono ul r, er.mono ul, h.mono ul⟩
      | true =>
        refine iteT ⟨W3, env2, S2, s3, er3.mono l3, ?_⟩
        have h : PostV G Wx σ W ((((dE G.tab call elt env2 S2).bind fun y S => .ok (some y) S).nob fun o S1 => match o with
          | some y => if acc.length < szLine then compL its.2 (compF G.tab call env many tg ifs elt) (its.1.drop (i + 1)) (acc ++ [y]) S1 else .bad
          | none => compL its.2 (compF G.tab call env many tg ifs elt) (its.1.drop (i + 1)) acc S1).bind fun ys S => alloc m ys S) Q := h
        cases e3 : dE G.tab call elt env2 S2 with
        | bad => rw [e3] at h; exact h
        | ex _ _ => rw [e3] at h; exact h.elim
        | ok y3 S3 =>
          rw [e3] at h
          have h : PostV G Wx σ W ((if acc.length < szLine then compL its.2 (compF G.tab call env many tg ifs elt) (its.1.drop (i + 1)) (acc ++ [y3]) S3 else .bad).bind fun ys S => alloc m ys S) Q := h
          split at h
          · rename_i c
            intro W4 y' H4 l4 s4 r4
            have l24 := (l2.trans l3).trans l4
            obtain ⟨u1, u2, u3⟩ := unpin_sim o.f o.b l24 s4
            have ul := unpin_le o.f l24
            exact ⟨vs, u3, by rw [Paired.length r]; exact c, _, S3, acc ++ [y3], vs ++ [y'], l.trans ul, u1.upd_out u2 _, u2, upd_same, Paired.app' (.cons r4.unpinned .nil) (RepVs.mono ul r), er.mono ul, h.mono ul⟩
          · exact h.elim
/-- a comprehension's source: what it walks -/
abbrev iSrc (G : Gd) (Wx : WX) (call : Call) (kk : ItK) (src : IEs) : TI := Den G (fun W J its => Wlk G W J its) Wx (fun env S => (dEs G.tab call src env S).bind fun vs S => items kk vs S)
theorem lc_post {m many : Bool} {kk : ItK} {src : IEs} {tg : List Nat} {ifs : ICs} {elt : IE} {Q : VK} (h : Den G (RepV G) Wx (dE G.tab call (.comp m kk src many tg ifs elt)) σ H Q) :
    tLc (iSrc G Wx call kk src) (tTg G many tg) (Den G (fun _ (b k : Bool) => b = k) noW (dAnd G.tab call ifs)) (Den G (RepV G) noW (dE G.tab call elt)) tg σ H Q := by
  obtain ⟨W, env, S, sm, er, q⟩ := h
  have q : PostV G Wx σ W ((dEs G.tab call src env S).bind fun vs S => (items kk vs S).bind fun its S => (compL its.2 (compF G.tab call env many tg ifs elt) its.1 [] S).bind fun ys S => alloc m ys S) Q := q
  have as : ∀ {α β γ : Type} (m : R α) (f : α → Store → R β) (g : β → Store → R γ), (m.bind fun a S => (f a S).bind g) = (m.bind f).bind g := fun m f g => by cases m <;> rfl
  rw [as (dEs G.tab call src env S) (fun vs S => items kk vs S)] at q
  refine Den.step (f := fun env S => (dEs G.tab call src env S).bind fun vs S => items kk vs S) q sm er fun its S1 W1 J H1 e1 l1 s1 n1 wl p1 D hD => ?_
  refine lc_it (G := fun H' => ∃ W' S', W1.sub W' ∧ Sim G W' S' H' ∧ okW its.2 S') (Y := fun i H' x H2 => J.yld i H' x H2) ⟨fun i H' hi ⟨W', S', l, s, w⟩ => wl.go W' S' H' i hi l s w, fun H' ⟨W', S', l, s, w⟩ => wl.stop W' S' H' l s w, fun i H' x H2 hi _ y => y⟩
    (fun i => Turn G Wx call σ env W1 m many tg ifs elt its D Q i) ?_ (fun i H' hi t => turn_ok t) (fun i x H' H2 hi t y => turn_step (W9 := W1) wl hi t y) fun H' t => turn_end t
  exact ⟨W1, S1, [], [], .refl W1, s1.upd_new hD _, s1.out hD, upd_same, .nil, n1, p1⟩
end
/-! ### dicts -/
section
variable {G : Gd} {X : Cx} {Wx : WX} {call : Call} {W : Wd} {S : Store} {H : Hp} {σ : L2.St} {env : Env}
theorem nodupK_ok : ∀ {ks : List Key}, nodupK ks = true → ks.Nodup
  | [], _ => List.nodup_nil
  | k :: ks, h => by
    obtain ⟨h1, h2⟩ := ba (show (!ks.any (fun j => keyEq j k) && nodupK ks) = true from h)
    refine List.nodup_cons.mpr ⟨fun hm => ?_, nodupK_ok h2⟩
    have e : ks.any (fun j => keyEq j k) = true := List.any_eq_true.mpr ⟨k, hm, by rw [keyEq_eq]; exact decide_eq_true rfl⟩
    rw [e] at h1
    cases h1
theorem valV_none : ∀ {kvs : List (Key × V)} {k : Key}, (∀ p ∈ kvs, p.1 ≠ k) → valV kvs k = none
  | [], _, _ => rfl
  | p :: r, k, h => by
    rw [valV_neg (h p List.mem_cons_self)]
    exact valV_none fun q hq => h q (List.mem_cons_of_mem _ hq)
theorem mergeK_new : ∀ (kvs acc : List (Key × V)), (kvs.map (·.1)).Nodup → (∀ p ∈ kvs, ∀ q ∈ acc, q.1 ≠ p.1) → mergeK acc kvs = acc ++ kvs
  | [], acc, _, _ => by
    rw [List.append_nil]
    rfl
  | p :: r, acc, hn, hd => by
    rw [List.map_cons] at hn
    obtain ⟨n1, n2⟩ := List.nodup_cons.mp hn
    show mergeK (putK acc p.1 p.2) r = _
    rw [putK_new p.2 (valV_none (hd p List.mem_cons_self)), mergeK_new r (acc ++ [(p.1, p.2)]) n2 fun q hq u hu => ?_, List.append_assoc]
    · rfl
    · rcases List.mem_append.mp hu with h | h
      · exact hd q (List.mem_cons_of_mem _ hq) u h
      · rw [List.mem_singleton] at h
        subst h
        exact fun z => n1 (List.mem_map.mpr ⟨q, hq, z.symm⟩)
theorem mergeK_nil {kvs : List (Key × V)} (h : (kvs.map (·.1)).Nodup) : mergeK [] kvs = kvs := by
  rw [mergeK_new kvs [] h fun _ _ _ hq => absurd hq List.not_mem_nil]
  rfl
theorem zip_rel : ∀ {ks : List Key} {xs : List V} {vs : List Val}, Paired (RepV G W) xs vs → Paired (DR G W) (ks.zip xs) (ks.zip vs)
  | [], _, _, _ => .nil
  | _ :: _, _, _, .nil => .nil
  | _ :: _, _, _, .cons r t => .cons ⟨rfl, r⟩ (zip_rel t)
theorem zip_repD {F : Hp} : ∀ {ks : List Key} {xs : List V} {ts : List T}, RepL G F xs ts → RepD G F (ks.zip xs) (ks.zip ts)
  | [], _, _, _ => .nil
  | _ :: _, _, _, .nil => .nil
  | _ :: _, _, _, .cons r t => .cons r (zip_repD t)
theorem zip_keys : ∀ {ks : List Key} {xs : List V}, ks.length = xs.length → (ks.zip xs).map (·.1) = ks
  | [], [], _ => rfl
  | k :: ks, x :: xs, h => by
    rw [List.zip_cons_cons, List.map_cons, zip_keys (Nat.succ.inj h)]
  | [], _ :: _, h => by cases h
  | _ :: _, [], h => by cases h
/-- the rules of a display's pairs -/
noncomputable def trsOf (G : Gd) (Wx : WX) (call : Call) : List Key → IEs → List (TE × TE)
  | k :: ks, .cons e es => (tC (kV k), Den G (RepV G) Wx (dE G.tab call e)) :: trsOf G Wx call ks es
  | _, _ => []
theorem pairs_post : ∀ (ks : List Key) (es : IEs) {W : Wd} {S : Store} {H : Hp} {vs : List Val} {S' : Store} {K : List (V × V) → Hp → Prop}, ks.length = es.len → Sim G W S H → EnvRep G W σ env → dEs G.tab call es env S = .ok vs S' →
    (∀ (W' : Wd) (H' : Hp) (xs : List V), W.le W' → Sim G W' S' H' → Paired (RepV G W') xs vs → xs.length = ks.length → K ((ks.zip xs).map fun p => (kV p.1, p.2)) H') → tPairs (trsOf G Wx call ks es) σ H K
  | [], .nil, W, S, H, vs, S', K, _, sm, er, h, q => by
    cases h
    exact q W H [] (.refl W) sm .nil rfl
  | k :: ks, .cons e es, W, S, H, vs, S', K, hl, sm, er, h, q => by
    have h : (dE G.tab call e env S).bind (fun v S => (dEs G.tab call es env S).bind fun vs S => .ok (v :: vs) S) = .ok vs S' := h
    show Den G (RepV G) Wx (dE G.tab call e) σ H fun y H2 => tPairs (trsOf G Wx call ks es) σ H2 fun ps H3 => K ((kV k, y) :: ps) H3
    refine ⟨W, env, S, sm, er, ?_⟩
    cases e1 : dE G.tab call e env S with
    | bad => rw [e1] at h; cases h
    | ex _ _ => rw [e1] at h; cases h
    | ok v S1 =>
      rw [e1] at h
      have h : (dEs G.tab call es env S1).bind (fun vs S => .ok (v :: vs) S) = .ok vs S' := h
      cases e2 : dEs G.tab call es env S1 with
      | bad => rw [e2] at h; cases h
      | ex _ _ => rw [e2] at h; cases h
      | ok vs2 S2 =>
        rw [e2] at h
        cases h
        intro W1 y H1 l1 s1 r1
        refine pairs_post ks es (Nat.succ.inj hl) s1 (er.mono l1) e2 fun W2 H2 xs l2 s2 r2 hx => ?_
        exact q W2 H2 (y :: xs) (l1.trans l2) s2 (.cons (r1.mono l2) r2) (by rw [List.length_cons, List.length_cons, hx])
  | [], .cons _ _, _, _, _, _, _, _, hl, _, _, _, _ => by cases hl
  | _ :: _, .nil, _, _, _, _, _, _, hl, _, _, _, _ => by cases hl
theorem dct_seize {m : Bool} {ks : List Key} {ws : List Val} {xs : List V} {D : Addr} {Q : VK} (h : PostV G Wx σ W (dctV m ks ws S) Q) (s : Sim G W S H) (o : Out W S D) (hD : H D = some (.dK (ks.zip xs))) (r : Paired (RepV G W) xs ws) : Q (.ref D) H := by
  unfold dctV at h
  cases m with
  | true =>
    have h : PostV G Wx σ W (.ok (.r S.length) (S ++ [.dct (ks.zip ws)])) Q := h
    refine h (W.addC D) (.ref D) H (Wd.le_addC W D) (s.seizeC o hD (.dct (zip_rel r))) ⟨?_, ?_⟩
    · show S.length < W.n + 1
      rw [s.len]
      exact Nat.lt_succ_self _
    · show V.ref D = V.ref (if S.length = W.n then D else _)
      rw [if_pos s.len]
  | false =>
    have h : PostV G Wx σ W (match allT ws with
      | some xs => .ok (.t (.dct (ks.zip xs))) S
      | none => .bad) Q := h
    cases e : allT ws with
    | none => rw [e] at h; exact (show False from h).elim
    | some ts =>
      rw [e] at h
      exact h (W.addF D (.dK (ks.zip xs))) (.ref D) H (le_seizeF o.f o.b _) (s.seizeF o hD) (.dct upd_same (RepD.mono (same_upd o.f) _ _ (zip_repD (allT_rep r e))))
theorem disp_post {m : Bool} {ks : List Key} {es : IEs} {Q : VK} (hl : ks.length = es.len) (hn : nodupK ks = true) (h15 : ks.length ≤ 15) (h : Den G (RepV G) Wx (dE G.tab call (.dctD m ks es)) σ H Q) : tDisp (trsOf G Wx call ks es) σ H Q := by
  obtain ⟨W, env, S, sm, er, q⟩ := h
  have q : PostV G Wx σ W ((dEs G.tab call es env S).nob fun vs S => dctV m ks vs S) Q := q
  intro p hp
  cases e : dEs G.tab call es env S with
  | bad => rw [e] at q; exact (show False from q).elim
  | ex _ _ => rw [e] at q; exact (show False from q).elim
  | ok vs S1 =>
    rw [e] at q
    have q : PostV G Wx σ W (dctV m ks vs S1) Q := q
    have o := sm.out hp
    have s0 := (sm.upd_new hp (.dK [])).pin (o := .dK []) o upd_same
    refine pairs_post ks es hl s0 er.pinned e fun W' H' xs l s1 r hx => ?_
    obtain ⟨u1, u2, u3⟩ := unpin_sim o.f o.b l s1
    have ul := unpin_le o.f l
    have hk : mergeK [] (ks.zip xs) = ks.zip xs := mergeK_nil (by rw [zip_keys hx.symm]; exact nodupK_ok hn)
    refine ⟨u3, ks.zip xs, rfl, by rw [List.length_zip, hx, Nat.min_self]; exact h15, ?_⟩
    rw [hk]
    have r2 : Paired (RepV G (W'.unpin W.B)) xs vs := Paired.mono (fun _ _ r => r.unpinned) r
    exact dct_seize (q.mono ul) (u1.upd_out u2 _) u2 upd_same r2
theorem repD_rel : ∀ {gs : List (Key × V)} {fs : List (Key × T)}, RepD G W.F gs fs → Paired (DR G W) gs (fs.map fun p => (p.1, Val.t p.2))
  | _, _, .nil => .nil
  | _, _, .cons r t => .cons ⟨rfl, r⟩ (repD_rel t)
/-- d.update(e) -/
def rUpd : V → List V → Hp → VK → Prop := fun x ys H Q => ∃ a b kvs more, x = .ref a ∧ ys = [.ref b] ∧ a ≠ b ∧ H a = some (.dK kvs) ∧ H b = some (.dK more) ∧ kvs.length + more.length ≤ sizeLine ∧ Q .non (upd H a (.dK (mergeK kvs more)))
theorem mt_update {X : Cx} : MtR X "dict.update" rUpd := by
  intro pins s σ H x xs v us Q I rx rs h
  obtain ⟨a, b, kvs, more, rfl, rfl, hne, ha, hb, hz, q⟩ := h
  cases rx
  obtain ⟨u, rfl, ru⟩ := Vals.one rs
  cases ru
  obtain ⟨z1, d1, vs1, rel1, dd1⟩ := dk_of I.hok ha
  obtain ⟨z2, d2, vs2, rel2, dd2⟩ := dk_of I.hok hb
  refine PySem.call_meetsIn PySem.F.slot_dict_update dd1.typeIs PySem.F.entry_dict_update (PySem.F.args_dict_update_2 _ _) (PySem.meets_dict_update (mixKind X.prog X.w) a b hne d2) ⟨vs1, vs2, dd1, dd2, by rw [← rel1.length, ← rel2.length]; exact hz, fun h' dd' _ hs => ?_⟩
  have he : ∃ q, h'.get? a = some q := let ⟨q, _, _, hq, _⟩ := dd'; ⟨q, hq⟩
  have hl : (mergeK kvs more).length ≤ sizeLine := Nat.le_trans (length_mergeK more kvs) hz
  exact ⟨.non, _, d_write (t' := s.toks) I (by rw [ha]; exact True.intro) hs he (dk_new hl d1 (rel2.merge rel1) dd'), rfl, q⟩
theorem upd_any {n : Nat} {p : Addr} {b : Val} {z : V} {Q : VK} (h : PostV G Wx σ W (updV (.r n) b S) Q) (s : Sim G W S H) (rx : n < W.n ∧ V.ref p = .ref (W.at_ n)) (ry : RepV G W z b) : rUpd (.ref p) [z] H Q := by
  obtain ⟨hn, ex⟩ := rx
  cases ex
  have h : PostV G Wx σ W (match S[n]? with
    | some (.dct kvs) => if sameR (.r n) b then .bad else (match dctOf S b with
      | some more => if kvs.length + more.length < 1000 then .ok (.t .non) (S.set n (.dct (mergeKV kvs more))) else .bad
      | none => .bad)
    | _ => .bad) Q := h
  split at h
  · rename_i kvs hc
    obtain ⟨gs, ho, hp⟩ := cell_dct s hc
    split at h
    · exact (show False from h).elim
    · rename_i hsame
      split at h
      · rename_i more hm
        split at h
        · rename_i hl
          have fin : ∀ {ad : Addr} {ms : List (Key × V)}, z = .ref ad → W.at_ n ≠ ad → H ad = some (.dK ms) → Paired (DR G W) ms more → rUpd (.ref (W.at_ n)) [z] H Q := fun {ad ms} ez hne hb hp2 => by
            subst ez
            refine ⟨_, ad, gs, ms, rfl, rfl, hne, ho, hb, ?_, h W .non _ (.refl W) (s.setC hc (by intro z; cases z) (.dct (mergeKV_rel hp2 hp))) (show Rep G W.F .non .non from .non)⟩
            rw [Paired.length hp, Paired.length hp2]
            exact Nat.le_of_lt (Nat.lt_trans hl line1000)
          cases b with
          | r m =>
            obtain ⟨hm1, ez⟩ := ry
            have hm : (match S[m]? with
              | some (.dct kvs) => some kvs
              | _ => none) = some more := hm
            split at hm
            · rename_i kv2 hc2
              cases hm
              obtain ⟨ms, ho2, hp2⟩ := cell_dct s hc2
              refine fin ez (fun e => ?_) ho2 hp2
              have := s.inj n m _ _ hc hc2 (by intro z; cases z) (by intro z; cases z) e
              subst this
              exact hsame (show (n == n) = true from beq_self_eq_true n)
            · cases hm
          | t t =>
            cases t with
            | dct fs =>
              cases hm
              cases ry with
              | dct hF r =>
                refine fin rfl (fun e => ?_) (s.fz _ _ hF) (repD_rel r)
                obtain ⟨f0, _⟩ := s.live n _ hc (by intro z; cases z)
                rw [e, hF] at f0
                cases f0
            | _ => cases hm
        · exact (show False from h).elim
      · exact (show False from h).elim
  · exact (show False from h).elim
end
end Rw

namespace Rw
open PySem PySem.Spec PyProof.Rows L2
/-! ### what the check says, form by form -/
section
variable {C : Ck} {e : Expr}
theorem iv_var {i : Nat} (h : chkE C (.var i) e = true) : ∃ x p, e = .Name x p ∧ C.N[i]? = some x ∧ visB C.sc x = true ∧ okN x = true ∧ C.hs ≠ some i := by
  cases e with
  | Name x p => exact ⟨x, p, rfl, of_decide_eq_true (ba h).1, (ba (ba h).2).1, (ba (ba (ba h).2).2).1, of_decide_eq_true (ba (ba (ba h).2).2).2⟩
  | _ => cases h
theorem iv_exIs {i : Nat} {many : Bool} {ts : List (Option Nat)} (h : chkE C (.exIs i many ts) e = true) : ∃ x zs, exP e = some (x, many, zs) ∧ C.hs = some i ∧ C.N[i]? = some x ∧ visB C.sc x = true ∧ okN x = true ∧ glB C.sc ("isinstance" : Str) = true ∧ exsB C ts zs = true ∧ noStar zs = true ∧ ts.length ≤ 1000 := by
  have h : (match exP e with
    | some (x, m, zs) => decide (C.hs = some i) && (decide (C.N[i]? = some x) && (visB C.sc x && (okN x && (glB C.sc ("isinstance" : Str) && (m == many && (exsB C ts zs && (noStar zs && decide (ts.length ≤ 1000))))))))
    | none => false) = true := h
  cases q : exP e with
  | none => rw [q] at h; cases h
  | some y =>
    obtain ⟨x, m, zs⟩ := y
    rw [q] at h
    obtain ⟨h1, h⟩ := ba h
    obtain ⟨h2, h⟩ := ba h
    obtain ⟨h3, h⟩ := ba h
    obtain ⟨h4, h⟩ := ba h
    obtain ⟨h5, h⟩ := ba h
    obtain ⟨h6, h⟩ := ba h
    obtain ⟨h7, h⟩ := ba h
    obtain ⟨h8, h9⟩ := ba h
    have e1 := eq_of_beq h6
    subst e1
    exact ⟨x, zs, rfl, of_decide_eq_true h1, of_decide_eq_true h2, h3, h4, h5, h7, h8, of_decide_eq_true h9⟩
theorem iv_dctD {m : Bool} {ks : List Key} {es : IEs} (h : chkE C (.dctD m ks es) e = true) : ∃ keys values p, e = .Dict keys values p ∧ keysB ks keys = true ∧ chkEs C es values = true ∧ keys.length = values.length ∧ nodupK ks = true ∧ ks.length ≤ 15 ∧ ks.isEmpty = false := by
  cases e with
  | Dict keys values p =>
    obtain ⟨h1, h⟩ := ba (show (keysB ks keys && (chkEs C es values && (decide (keys.length = values.length) && (nodupK ks && (decide (ks.length ≤ 15) && !ks.isEmpty))))) = true from h)
    obtain ⟨h2, h⟩ := ba h
    obtain ⟨h3, h⟩ := ba h
    obtain ⟨h4, h⟩ := ba h
    obtain ⟨h5, h6⟩ := ba h
    exact ⟨keys, values, p, rfl, h1, h2, of_decide_eq_true h3, h4, of_decide_eq_true h5, nb h6⟩
  | _ => cases h
theorem iv_upd {o a : IE} (h : chkE C (.upd o a) e = true) : ∃ x ap y cp, e = .Call (.Attribute x "update" ap) [y] [] cp ∧ chkE C o x = true ∧ isSup x = false ∧ chkE C a y = true ∧ isStar y = false ∧ (ap.endLine == cp.line) = true := by
  cases e with
  | Call f ys ks cp =>
    cases f with
    | Attribute x nm ap =>
      cases ys with
      | nil => cases h
      | cons y ys =>
        cases ys with
        | cons _ _ => cases ks <;> cases h
        | nil =>
          cases ks with
          | cons _ _ => cases h
          | nil =>
            obtain ⟨h1, h⟩ := ba (show (chkE C o x && (!isSup x && (decide (nm = ("update" : Str)) && (chkE C a y && (!isStar y && (ap.endLine == cp.line)))))) = true from h)
            obtain ⟨h2, h⟩ := ba h
            obtain ⟨h3, h⟩ := ba h
            obtain ⟨h4, h⟩ := ba h
            obtain ⟨h5, h6⟩ := ba h
            have e3 : nm = ("update" : Str) := of_decide_eq_true h3
            subst e3
            exact ⟨x, ap, y, cp, rfl, h1, nb h2, h4, nb h5, h6⟩
    | _ => cases h
  | _ => cases h
theorem keysB_len : ∀ {ks : List Key} {es : List (Option Expr)}, keysB ks es = true → es.length = ks.length ∧ es.all (·.isSome) = true
  | [], [], _ => ⟨rfl, rfl⟩
  | .inl i :: ks, some e :: es, h => by
    cases e with
    | Constant c a b =>
      cases c with
      | int j =>
        obtain ⟨h1, h2⟩ := keysB_len (ba (show (decide (i = j) && keysB ks es) = true from h)).2
        exact ⟨congrArg Nat.succ h1, by rw [List.all_cons, h2]; rfl⟩
      | _ => cases h
    | _ => cases h
  | .inr x :: ks, some e :: es, h => by
    cases e with
    | Constant c a b =>
      cases c with
      | str y =>
        obtain ⟨h1, h2⟩ := keysB_len (ba (show (decide (x = y) && keysB ks es) = true from h)).2
        exact ⟨congrArg Nat.succ h1, by rw [List.all_cons, h2]; rfl⟩
      | _ => cases h
    | _ => cases h
  | .inl _ :: _, none :: _, h => by cases h
  | .inr _ :: _, none :: _, h => by cases h
  | [], _ :: _, h => by cases h
  | .inl _ :: _, [], h => by cases h
  | .inr _ :: _, [], h => by cases h
theorem keysB_cons {X : Cx} : ∀ {k : Key} {ks : List Key} {o : Option Expr} {es : List (Option Expr)}, keysB (k :: ks) (o :: es) = true → ∃ c, o = some c ∧ PE X c (tC (kV k)) ∧ keysB ks es = true
  | .inl i, ks, some e, es, h => by
    cases e with
    | Constant c a b =>
      cases c with
      | int j =>
        obtain ⟨h1, h2⟩ := ba (show (decide (i = j) && keysB ks es) = true from h)
        have e1 : i = j := of_decide_eq_true h1
        subst e1
        exact ⟨_, rfl, pe_int, h2⟩
      | _ => cases h
    | _ => cases h
  | .inr i, ks, some e, es, h => by
    cases e with
    | Constant c a b =>
      cases c with
      | str j =>
        obtain ⟨h1, h2⟩ := ba (show (decide (i = j) && keysB ks es) = true from h)
        have e1 : i = j := of_decide_eq_true h1
        subst e1
        exact ⟨_, rfl, pe_str, h2⟩
      | _ => cases h
    | _ => cases h
  | .inl _, _, none, _, h => by cases h
  | .inr _, _, none, _, h => by cases h
theorem chkEs_ln : ∀ {es : IEs} {xs : List Expr}, chkEs C es xs = true → es.len = xs.length
  | .nil, [], _ => rfl
  | .cons e es, x :: xs, h => congrArg Nat.succ (chkEs_ln (ba (show (chkE C e x && chkEs C es xs) = true from h)).2)
  | .nil, _ :: _, h => by cases h
  | .cons _ _, [], h => by cases h
theorem iv_con {t : T} (h : chkE C (.con t) e = true) : ∃ c j p, e = .Constant c j p ∧ conB t c = true := by
  cases e with
  | Constant c j p => exact ⟨c, j, p, rfl, h⟩
  | _ => cases h
theorem iv_bin {op : Operator} {a b : IE} (h : chkE C (.bin op a b) e = true) : ∃ l r p, e = .BinOp l op r p ∧ chkE C a l = true ∧ chkE C b r = true := by
  cases e with
  | BinOp l o r p =>
    have e1 : op = o := of_decide_eq_true (ba h).1
    subst e1
    exact ⟨l, r, p, rfl, (ba (ba h).2).1, (ba (ba h).2).2⟩
  | _ => cases h
theorem iv_binM {op : Operator} {a b : IE} (h : chkE C (.binM op a b) e = true) : ∃ l r p, e = .BinOp l op r p ∧ chkE C a l = true ∧ chkE C b r = true := by
  cases e with
  | BinOp l o r p =>
    have e1 : op = o := of_decide_eq_true (ba h).1
    subst e1
    exact ⟨l, r, p, rfl, (ba (ba h).2).1, (ba (ba h).2).2⟩
  | _ => cases h
theorem iv_neg {a : IE} (h : chkE C (.neg a) e = true) : ∃ x p, e = .UnaryOp .USub x p ∧ chkE C a x = true := by
  cases e with
  | UnaryOp o x p =>
    cases o with
    | USub => exact ⟨x, p, rfl, h⟩
    | _ => cases h
  | _ => cases h
theorem iv_not {a : IE} (h : chkE C (.not a) e = true) : ∃ x p, e = .UnaryOp .Not x p ∧ chkE C a x = true := by
  cases e with
  | UnaryOp o x p =>
    cases o with
    | Not => exact ⟨x, p, rfl, h⟩
    | _ => cases h
  | _ => cases h
theorem iv_cmp {op : CmpOp} {a b : IE} (h : chkE C (.cmp op a b) e = true) : ∃ l r p, e = .Compare l [op] [r] p ∧ chkE C a l = true ∧ chkE C b r = true ∧ isSet r = false := by
  cases e with
  | Compare l os rs p =>
    cases os with
    | nil => cases h
    | cons o os =>
      cases os with
      | cons _ _ => cases h
      | nil =>
        cases rs with
        | nil => cases h
        | cons r rs =>
          cases rs with
          | cons _ _ => cases h
          | nil =>
            have e1 : op = o := of_decide_eq_true (ba h).1
            subst e1
            exact ⟨l, r, p, rfl, (ba (ba h).2).1, (ba (ba (ba h).2).2).1, nb (ba (ba (ba h).2).2).2⟩
  | _ => cases h
theorem iv_cmp2 {o p : CmpOp} {a b c : IE} (h : chkE C (.cmp2 o p a b c) e = true) : ∃ l m r q, e = .Compare l [o, p] [m, r] q ∧ chkE C a l = true ∧ chkE C b m = true ∧ chkE C c r = true ∧ isSet m = false ∧ isSet r = false := by
  cases e with
  | Compare l os rs q =>
    cases os with
    | nil => cases h
    | cons o1 os =>
      cases os with
      | nil => cases h
      | cons o2 os =>
        cases os with
        | cons _ _ => cases h
        | nil =>
          cases rs with
          | nil => cases h
          | cons m rs =>
            cases rs with
            | nil => cases h
            | cons r rs =>
              cases rs with
              | cons _ _ => cases h
              | nil =>
                obtain ⟨h1, h⟩ := ba h
                obtain ⟨h2, h⟩ := ba h
                obtain ⟨h3, h⟩ := ba h
                obtain ⟨h4, h⟩ := ba h
                obtain ⟨h5, h⟩ := ba h
                obtain ⟨h6, h7⟩ := ba h
                have e1 : o = o1 := of_decide_eq_true h1
                have e2 : p = o2 := of_decide_eq_true h2
                subst e1 e2
                exact ⟨l, m, r, q, rfl, h3, h4, h5, nb h6, nb h7⟩
  | _ => cases h
theorem iv_ands {es : IEs} (h : chkE C (.ands es) e = true) : ∃ vs p, e = .BoolOp .And vs p ∧ chkEs C es vs = true := by
  cases e with
  | BoolOp o vs p =>
    cases o with
    | And => exact ⟨vs, p, rfl, h⟩
    | Or => cases h
  | _ => cases h
theorem iv_ors {es : IEs} (h : chkE C (.ors es) e = true) : ∃ vs p, e = .BoolOp .Or vs p ∧ chkEs C es vs = true := by
  cases e with
  | BoolOp o vs p =>
    cases o with
    | Or => exact ⟨vs, p, rfl, h⟩
    | And => cases h
  | _ => cases h
theorem iv_ife {t : IC} {a b : IE} (h : chkE C (.ife t a b) e = true) : ∃ c x y p, e = .IfExp c x y p ∧ chkC C t c = true ∧ chkE C a x = true ∧ chkE C b y = true := by
  cases e with
  | IfExp c x y p => exact ⟨c, x, y, p, rfl, (ba h).1, (ba (ba h).2).1, (ba (ba h).2).2⟩
  | _ => cases h
theorem iv_tup {es : IEs} (h : chkE C (.tup es) e = true) : ∃ xs k p, e = .Tuple xs k p ∧ chkEs C es xs = true ∧ noStar xs = true := by
  cases e with
  | Tuple xs k p => exact ⟨xs, k, p, rfl, (ba h).1, (ba h).2⟩
  | _ => cases h
theorem iv_lst {m : Bool} {es : IEs} (h : chkE C (.lst m es) e = true) : ∃ xs p, e = .List xs p ∧ chkEs C es xs = true ∧ noStar xs = true := by
  cases e with
  | List xs p => exact ⟨xs, p, rfl, (ba h).1, (ba h).2⟩
  | _ => cases h
theorem iv_sub {a i : IE} (h : chkE C (.sub a i) e = true) : ∃ x y p, e = .Subscript x y p ∧ chkE C a x = true ∧ chkE C i y = true ∧ isSlc y = false := by
  cases e with
  | Subscript x y p => exact ⟨x, y, p, rfl, (ba h).1, (ba (ba h).2).1, nb (ba (ba h).2).2⟩
  | _ => cases h
theorem iv_call {f : Nat} {es : IEs} (h : chkE C (.call f es) e = true) : ∃ p ys q, e = .Call (.Name (C.nm.fnN f) p) ys [] q ∧ glB C.sc (C.nm.fnN f) = true ∧ okN (C.nm.fnN f) = true ∧ chkEs C es ys = true ∧ noStar ys = true ∧ arity C.tab f ys.length = true ∧ C.glF f = true ∧ C.calm = true := by
  cases e with
  | Call g ys kw q =>
    cases g with
    | Name x p =>
      cases kw with
      | cons _ _ => cases h
      | nil =>
        obtain ⟨h1, h⟩ := ba h
        obtain ⟨h2, h⟩ := ba h
        obtain ⟨h3, h⟩ := ba h
        obtain ⟨h4, h⟩ := ba h
        obtain ⟨h5, h⟩ := ba h
        obtain ⟨h6, h7⟩ := ba h
        have e1 := of_decide_eq_true h3
        subst e1
        exact ⟨p, ys, q, rfl, h1, h2, h4, h5, h6, (ba h7).1, (ba h7).2⟩
    | _ => cases h
  | _ => cases h
theorem iv_new {c : Nat} {es : IEs} (h : chkE C (.new c es) e = true) : ∃ p ys q, e = .Call (.Name (C.nm.clN c) p) ys [] q ∧ glB C.sc (C.nm.clN c) = true ∧ okN (C.nm.clN c) = true ∧ chkEs C es ys = true ∧ noStar ys = true ∧ newB C.tab c ys.length = true ∧ C.calm = true := by
  cases e with
  | Call g ys kw q =>
    cases g with
    | Name x p =>
      cases kw with
      | cons _ _ => cases h
      | nil =>
        obtain ⟨h1, h⟩ := ba h
        obtain ⟨h2, h⟩ := ba h
        obtain ⟨h3, h⟩ := ba h
        obtain ⟨h4, h⟩ := ba h
        obtain ⟨h5, h6⟩ := ba h
        have e1 := of_decide_eq_true h3
        subst e1
        exact ⟨p, ys, q, rfl, h1, h2, h4, h5, (ba h6).1, (ba h6).2⟩
    | _ => cases h
  | _ => cases h
theorem iv_glob {g : Nat} (h : chkE C (.glob g) e = true) : ∃ p, e = .Name (C.nm.coN g) p ∧ glB C.sc (C.nm.coN g) = true ∧ okN (C.nm.coN g) = true := by
  cases e with
  | Name x p =>
    obtain ⟨h1, h⟩ := ba h
    obtain ⟨h2, h⟩ := ba h
    obtain ⟨h3, h4⟩ := ba h
    have e1 := of_decide_eq_true h3
    subst e1
    exact ⟨p, rfl, h1, h2⟩
  | _ => cases h
theorem iv_fld {o : IE} {f : Nat} (h : chkE C (.fld o f) e = true) : ∃ x p, e = .Attribute x (C.nm.atN f) p ∧ chkE C o x = true ∧ isSup x = false := by
  cases e with
  | Attribute x n p =>
    obtain ⟨h1, h⟩ := ba h
    obtain ⟨h2, h3⟩ := ba h
    have e1 := of_decide_eq_true h2
    subst e1
    exact ⟨x, p, rfl, h1, nb h3⟩
  | _ => cases h
theorem iv_meth {o : IE} {f : Nat} {es : IEs} (h : chkE C (.meth o f es) e = true) : ∃ x ap ys q, e = .Call (.Attribute x (C.nm.atN f) ap) ys [] q ∧ chkE C o x = true ∧ isSup x = false ∧ chkEs C es ys = true ∧ noStar ys = true ∧ ys.length < 20 ∧ (ap.endLine == q.line) = true ∧ C.calm = true := by
  cases e with
  | Call g ys kw q =>
    cases g with
    | Attribute x n ap =>
      cases kw with
      | cons _ _ => cases h
      | nil =>
        obtain ⟨h1, h⟩ := ba h
        obtain ⟨h2, h⟩ := ba h
        obtain ⟨h3, h⟩ := ba h
        obtain ⟨h4, h⟩ := ba h
        obtain ⟨h5, h⟩ := ba h
        obtain ⟨h6, h7⟩ := ba h
        have e1 := of_decide_eq_true h3
        subst e1
        exact ⟨x, ap, ys, q, rfl, h1, nb h2, h4, h5, of_decide_eq_true h6, (ba h7).1, (ba h7).2⟩
    | _ => cases h
  | _ => cases h
theorem iv_bm {b : BM} {m : Bool} {o : IE} {es : IEs} (h : chkE C (.bm b m o es) e = true) : ∃ x ap ys q, e = .Call (.Attribute x (bmN b) ap) ys [] q ∧ chkE C o x = true ∧ isSup x = false ∧ chkEs C es ys = true ∧ noStar ys = true ∧ bmA b ys.length = true ∧ (ap.endLine == q.line) = true := by
  cases e with
  | Call g ys kw q =>
    cases g with
    | Attribute x n ap =>
      cases kw with
      | cons _ _ => cases h
      | nil =>
        obtain ⟨h1, h⟩ := ba h
        obtain ⟨h2, h⟩ := ba h
        obtain ⟨h3, h⟩ := ba h
        obtain ⟨h4, h⟩ := ba h
        obtain ⟨h5, h⟩ := ba h
        obtain ⟨h6, h7⟩ := ba h
        have e1 := of_decide_eq_true h3
        subst e1
        exact ⟨x, ap, ys, q, rfl, h1, nb h2, h4, h5, h6, h7⟩
    | _ => cases h
  | _ => cases h
section
variable {G : Gd} {X : Cx} {Wx : WX} {W : Wd} {S : Store} {H : Hp} {σ : L2.St} {Q : VK}
/-- the texts that are joined -/
theorem strs_rep : ∀ {xs : List T} {ys : List Str} {vs : List V}, strsT xs = some ys → RepL G W.F vs xs → vs = ys.map V.str
  | [], _, _, e, r => by
    cases e
    cases r
    rfl
  | x :: xs, ys, vs, e, r => by
    cases x with
    | str z =>
      obtain ⟨zs, e1, e2⟩ := Option.map_eq_some_iff.mp (show (strsT xs).map (z :: ·) = some ys from e)
      subst e2
      cases r with
      | cons h r =>
        cases h
        rw [strs_rep e1 r]
        rfl
    | _ => cases e
theorem join_post (hK : X.K = G.K) {t : Str} {ws : List Val} {vs : List V} (h : PostV G Wx σ W (joinV (.t (.str t)) ws S) Q) (s : Sim G W S H) (r : Paired (RepV G W) vs ws) :
    ∃ a p, ∃ ys : List Str, V.str t = .str a ∧ vs = [.ref p] ∧ (SqL X.K H p (ys.map V.str) ∨ SqT X.K H p (ys.map V.str)) ∧ (ys.map (·.length)).sum + ys.length * a.length ≤ 16777216 ∧ Q (.str (Txt.join a ys)) H := by
  have no : ∀ {P : Prop}, PostV G Wx σ W .bad Q → P := fun z => (show False from z).elim
  cases ws with
  | nil => exact no h
  | cons w ws =>
    cases ws with
    | cons _ _ => exact no h
    | nil =>
      obtain ⟨v, rfl, rv⟩ := one_arg r
      have fin : ∀ {xs : List T} {p : Addr} {us : List V}, PostV G Wx σ W (match strsT xs with
          | some ys => if (ys.map (·.length)).sum + ys.length * t.length ≤ 16777216 then .ok (.t (.str (Txt.join t ys))) S else .bad
          | none => .bad) Q → (SqL X.K H p us ∨ SqT X.K H p us) → RepL G W.F us xs → ∃ a q, ∃ ys : List Str, V.str t = .str a ∧ [V.ref p] = [.ref q] ∧ (SqL X.K H q (ys.map V.str) ∨ SqT X.K H q (ys.map V.str)) ∧ (ys.map (·.length)).sum + ys.length * a.length ≤ 16777216 ∧ Q (.str (Txt.join a ys)) H := fun {xs p us} h hp rl => by
        cases e : strsT xs with
        | none => rw [e] at h; exact no h
        | some ys =>
          rw [e] at h
          have eu := strs_rep e rl
          subst eu
          have h : PostV G Wx σ W (if (ys.map (·.length)).sum + ys.length * t.length ≤ 16777216 then .ok (.t (.str (Txt.join t ys))) S else .bad) Q := h
          by_cases c : (ys.map (·.length)).sum + ys.length * t.length ≤ 16777216
          · rw [if_pos c] at h
            exact ⟨t, p, ys, rfl, rfl, hp, c, post_t h s (.str _)⟩
          · rw [if_neg c] at h
            exact no h
      cases w with
      | r n =>
        obtain ⟨hn, ex⟩ := rv
        subst ex
        cases q : S[n]? with
        | none =>
          have h2 : PostV G Wx σ W (match lstT S (.r n) with
            | some xs => (match strsT xs with
              | some ys => if (ys.map (·.length)).sum + ys.length * t.length ≤ 16777216 then .ok (.t (.str (Txt.join t ys))) S else .bad
              | none => .bad)
            | none => .bad) Q := h
          rw [show lstT S (.r n) = (match S[n]? with
            | some (.lst vs) => allT vs
            | _ => none) from rfl, q] at h2
          exact no h2
        | some c =>
          have h2 : PostV G Wx σ W (match lstT S (.r n) with
            | some xs => (match strsT xs with
              | some ys => if (ys.map (·.length)).sum + ys.length * t.length ≤ 16777216 then .ok (.t (.str (Txt.join t ys))) S else .bad
              | none => .bad)
            | none => .bad) Q := h
          rw [show lstT S (.r n) = (match S[n]? with
            | some (.lst vs) => allT vs
            | _ => none) from rfl, q] at h2
          cases c with
          | lst us =>
            have h2 : PostV G Wx σ W (match allT us with
              | some xs => (match strsT xs with
                | some ys => if (ys.map (·.length)).sum + ys.length * t.length ≤ 16777216 then .ok (.t (.str (Txt.join t ys))) S else .bad
                | none => .bad)
              | none => .bad) Q := h2
            cases ea : allT us with
            | none => rw [ea] at h2; exact no h2
            | some xs =>
              rw [ea] at h2
              obtain ⟨zs, ho, hp⟩ := cell_lst s q
              exact fin h2 (.inl (SqL.of ho)) (allT_rep hp ea)
          | _ => exact no h2
      | t tt =>
        cases tt with
        | tup xs =>
          cases rv with
          | tup hF rl => exact fin h (.inr (by rw [hK]; exact sameT s.fz hF)) rl
        | lst xs =>
          cases rv with
          | lst hF rl => exact fin h (.inl (SqL.of (s.fz _ _ hF))) rl
        | _ => exact no h
theorem flV_rep {t : Option T} {F : Hp} {v : V} (h : flV (t.getD .non) = some v) : Rep G F v (t.getD .non) := by
  cases e : t.getD .non with
  | non => rw [e] at h; cases h; exact .non
  | bl b => rw [e] at h; cases h; exact .bl b
  | int i => rw [e] at h; cases h; exact .int i
  | str x => rw [e] at h; cases h; exact .str x
  | _ => rw [e] at h; cases h
theorem star_one {e : Expr} {cpos : Pos} (env : PySem.Env) (h : isStar e = false) : backTo cpos (starEach [e] env) = [(false, eval e env)] := by
  rw [star_cons env h]
  rfl
/-- a written dict, asked -/
def tDGetK (kvs : List (Str × T)) (ty : TE) : TE := fun σ H Q => ty σ H fun y H2 => ∃ z, y = .str z ∧ ∀ v, flV ((kvs.lookup z).getD .non) = some v → Q v H2
theorem pe_dgetK {d : Addr} {es : Array DictEntry} {n : Nat} {kvs : List (Str × T)} {o e : Expr} {apos cpos : Pos} {ty : TE} (hu : X.A.units + 64 < cLine) (D : KDict X.K X.w d es n)
    (hl : ∀ z, ∃ r, PySem.W.nsIn X.K d z = some r ∧ (match kvs.lookup z with
      | none => r = none
      | some t => ∃ u v, r = some u ∧ RelV v u ∧ flV t = some v)) (ho : PE X o (tC (.ref d))) (he : PE X e ty) (m : M1 X o "get" apos e cpos) : PE X (.Call (.Attribute o "get" apos) [e] [] cpos) (tDGetK kvs ty) := by
  refine ⟨fun pins s σ H Q I h => ?_⟩
  refine wpAny_Call_method m.base m.few m.line PySem.F.plainAttrs_dict PySem.F.slot_dict_get PySem.F.type_dict_get (thn (ho.run pins s σ H (fun x H1 => x = V.ref d ∧ H = H1) I ⟨rfl, rfl⟩) fun u s1 ⟨x, H1, I1, rx, ex, eH⟩ => ?_)
  subst ex
  rw [← eH] at I1
  obtain rfl : u = Value.ref d := rx
  refine ⟨kd_type D I1, fun b q => ?_, ?_⟩
  · cases q
    exact ⟨_, I1.kIn _ _ D.at_, rfl⟩
  rw [m.trees]
  refine Calls.callWith_builtin rfl (Calls.evalArgs_plain (Calls.spliced_cons (thn (he.run pins s1 σ H _ I1 h) fun iv s2 ⟨y, H2, I2, ry, z, ey, q2⟩ => Calls.spliced_nil ?_)))
  subst ey
  obtain ⟨t, rfl⟩ := ry
  obtain ⟨r, e1, e2⟩ := hl z
  have M := PySem.W.mapOf_K (prog := X.prog) I2.kIn D.at_ D.lit
  refine call_meetsIn PySem.F.slot_dict_get (kd_type D I2) PySem.F.entry_dict_get (PySem.F.args_dict_get_2 _ _) (meets_dict_get (PySem.strKind X.prog X.w) d (PySem.strKind_is X.prog X.w z t) D.low) ⟨_, M, ?_⟩
  rw [PySem.W.find_K D.at_ e1]
  cases hk : kvs.lookup z with
  | none =>
    rw [hk] at e2 q2
    subst e2
    exact ⟨.non, H2, I2.tok _, rfl, q2 .non rfl⟩
  | some tt =>
    rw [hk] at e2 q2
    obtain ⟨u, v, rfl, rv, ev⟩ := e2
    exact ⟨v, H2, I2.tok _, rv, q2 v ev⟩
end
theorem iv_m1 {m : Str} {P : Expr → Expr → Bool} (h : (match m1P m e with
    | some (x, y) => P x y
    | none => false) = true) : ∃ x y ap cp, e = .Call (.Attribute x m ap) [y] [] cp ∧ (ap.endLine == cp.line) = true ∧ P x y = true := by
  cases q : m1P m e with
  | none => rw [q] at h; cases h
  | some p =>
    obtain ⟨x, y⟩ := p
    rw [q] at h
    obtain ⟨ap, cp, h1, h2⟩ := m1P_ok q
    exact ⟨x, y, ap, cp, h1, h2, h⟩
theorem iv_cix {g : Nat} {a : IE} (h : chkE C (.cix g a) e = true) : ∃ p ap y q, e = .Call (.Attribute (.Name (C.nm.coN g) p) "index" ap) [y] [] q ∧ glB C.sc (C.nm.coN g) = true ∧ okN (C.nm.coN g) = true ∧ chkE C a y = true ∧ isStar y = false ∧ (ap.endLine == q.line) = true ∧ isStrs (C.tab.con g) = true := by
  unfold chkE at h
  cases q : cixP e with
  | none => rw [q] at h; cases h
  | some z =>
    obtain ⟨x, y⟩ := z
    rw [q] at h
    obtain ⟨p, ap, cp, e1, e2⟩ := cixP_ok q
    obtain ⟨h1, h⟩ := ba h
    obtain ⟨h2, h⟩ := ba h
    obtain ⟨h3, h⟩ := ba h
    obtain ⟨h5, h⟩ := ba h
    obtain ⟨h6, h7⟩ := ba h
    have e3 := of_decide_eq_true h3
    subst e3
    exact ⟨p, ap, y, cp, e1, h1, h2, h5, nb h6, e2, h7⟩
theorem iv_lenSet {a : IE} (h : chkE C (.lenSet a) e = true) : ∃ p p2 y q q2, e = .Call (.Name "len" p) [.Call (.Name "set" p2) [y] [] q] [] q2 ∧ glB C.sc ("len" : Str) = true ∧ glB C.sc ("set" : Str) = true ∧ chkE C a y = true ∧ isStar y = false ∧ C.calm = true := by
  unfold chkE at h
  cases q : lsP e with
  | none => rw [q] at h; cases h
  | some y =>
    rw [q] at h
    obtain ⟨p, p2, q, q2, e1⟩ := lsP_ok q
    obtain ⟨h3, h⟩ := ba h
    obtain ⟨h4, h⟩ := ba h
    obtain ⟨h5, h⟩ := ba h
    obtain ⟨h6, h7⟩ := ba h
    exact ⟨p, p2, y, q, q2, e1, h3, h4, h5, nb h6, h7⟩
def chkO (C : Ck) (ie : IE) (o : Option Expr) : Bool := match o with
  | none => isNo ie
  | some x => !isNo ie && chkE C ie x
theorem iv_slc {m : Bool} {a lo hi : IE} (h : chkE C (.slc m a lo hi) e = true) : ∃ x l u p q, e = .Subscript x (.Slice l u none p) q ∧ chkE C a x = true ∧ chkO C lo l = true ∧ chkO C hi u = true := by
  cases e with
  | Subscript x sl q =>
    cases sl with
    | Slice l u st p =>
      cases st with
      | some _ => cases h
      | none =>
        obtain ⟨h1, h⟩ := ba h
        obtain ⟨h2, h3⟩ := ba h
        exact ⟨x, l, u, p, q, rfl, h1, h2, h3⟩
    | _ => cases h
  | _ => cases h
theorem iv_rev {m : Bool} {a : IE} (h : chkE C (.rev m a) e = true) : ∃ x k p1 p2 p3 q, e = .Subscript x (.Slice none none (some (.UnaryOp .USub (.Constant (.int 1) k p1) p2)) p3) q ∧ chkE C a x = true := by
  cases e with
  | Subscript x sl q =>
    cases sl with
    | Slice l u st p3 =>
      cases l with
      | some _ => cases h
      | none =>
        cases u with
        | some _ => cases h
        | none =>
          cases st with
          | none => cases h
          | some st =>
            cases st with
            | UnaryOp op c p2 =>
              cases op with
              | USub =>
                cases c with
                | Constant c k p1 =>
                  cases c with
                  | int i =>
                    obtain ⟨h1, h2⟩ := ba h
                    have e1 : i = 1 := of_decide_eq_true h1
                    subst e1
                    exact ⟨x, k, p1, p2, p3, q, rfl, h2⟩
                  | _ => cases h
                | _ => cases h
              | _ => cases h
            | _ => cases h
    | _ => cases h
  | _ => cases h
theorem iv_comp {m many : Bool} {k : ItK} {src : IEs} {tg : List Nat} {ifs : ICs} {elt : IE} (h : chkE C (.comp m k src many tg ifs elt) e = true) : ∃ x t it xs scope p, e = .ListComp x [⟨t, it, xs, 0⟩] scope p ∧ chkIt C t k src it = true ∧ L2.blkC C.N C.sc scope (ownOf C.N tg) = true ∧ chkT (C.blk scope) many tg t = true ∧ chkIfs (C.blk scope) ifs xs = true ∧ chkE (C.blk scope) elt x = true ∧ C.calm = true := by
  cases e with
  | ListComp x gs scope p =>
    cases gs with
    | nil => cases h
    | cons g gs =>
      obtain ⟨t, it, xs, n⟩ := g
      cases gs with
      | cons _ _ => cases h
      | nil =>
        obtain ⟨h1, h⟩ := ba h
        obtain ⟨h2, h⟩ := ba h
        obtain ⟨h3, h⟩ := ba h
        obtain ⟨h4, h⟩ := ba h
        obtain ⟨h5, h⟩ := ba h
        obtain ⟨h6, h7⟩ := ba h
        have e1 : n = 0 := of_decide_eq_true h1
        subst e1
        exact ⟨x, t, it, xs, scope, p, rfl, h2, h3, h4, h5, h6, h7⟩
  | _ => cases h
theorem iv_blt {b : Blt} {m : Bool} {es : IEs} (h : chkE C (.blt b m es) e = true) : ∃ p y ys q, e = .Call (.Name (bltN b) p) (y :: ys) [] q ∧ glB C.sc (bltN b) = true ∧ okN (bltN b) = true ∧ chkEs C es (y :: ys) = true ∧ noStar (y :: ys) = true ∧ (needCalm b = true → C.calm = true) := by
  cases e with
  | Call g as kw q =>
    cases g with
    | Name x p =>
      cases as with
      | nil => cases kw <;> cases h
      | cons y ys =>
        cases kw with
        | cons _ _ => cases h
        | nil =>
          obtain ⟨h1, h⟩ := ba h
          obtain ⟨h2, h⟩ := ba h
          obtain ⟨h3, h⟩ := ba h
          obtain ⟨h4, h⟩ := ba h
          obtain ⟨h5, h6⟩ := ba h
          have e1 := of_decide_eq_true h3
          subst e1
          exact ⟨p, y, ys, q, rfl, h1, h2, h4, h5, fun z => by rw [z] at h6; exact h6⟩
    | _ => cases h
  | _ => cases h
theorem iv_isi {a : IE} {many : Bool} {ts : List Ty} (h : chkE C (.isi a many ts) e = true) : (∃ t p y z q r, many = false ∧ ts = [t] ∧ e = .Call (.Name "isinstance" p) [y, .Name (tyN C.nm t) z] [] q ∧ r = tyN C.nm t ∧ glB C.sc ("isinstance" : Str) = true ∧ okN ("isinstance" : Str) = true ∧ chkE C a y = true ∧ isStar y = false ∧ glB C.sc r = true ∧ okN r = true ∧ isCl C.tab t = true) ∨
    (∃ p y zs k z q, many = true ∧ e = .Call (.Name "isinstance" p) [y, .Tuple zs k z] [] q ∧ glB C.sc ("isinstance" : Str) = true ∧ okN ("isinstance" : Str) = true ∧ chkE C a y = true ∧ isStar y = false ∧ tysB C ts zs = true ∧ noStar zs = true ∧ ts ≠ [] ∧ ts.length ≤ 1000) := by
  cases e with
  | Call g as kw q =>
    cases g with
    | Name x p =>
      cases as with
      | nil => cases many <;> (cases ts with | nil => cases h | cons _ ts => cases ts <;> cases h)
      | cons y ys =>
        cases ys with
        | nil => cases many <;> (cases ts with | nil => cases h | cons _ ts => cases ts <;> cases h)
        | cons ty ys =>
          cases ys with
          | cons _ _ => cases many <;> (cases ts with | nil => cases ty <;> cases h | cons _ ts => cases ts <;> cases ty <;> cases h)
          | nil =>
            cases kw with
            | cons _ _ => cases many <;> (cases ts with | nil => cases ty <;> cases h | cons _ ts => cases ts <;> cases ty <;> cases h)
            | nil =>
              cases many with
              | false =>
                cases ts with
                | nil => cases ty <;> cases h
                | cons t ts =>
                  cases ts with
                  | cons _ _ => cases ty <;> cases h
                  | nil =>
                    cases ty with
                    | Name z zp =>
                      obtain ⟨h1, h⟩ := ba h
                      obtain ⟨h2, h⟩ := ba h
                      obtain ⟨h3, h⟩ := ba h
                      obtain ⟨h4, h⟩ := ba h
                      obtain ⟨h5, h⟩ := ba h
                      obtain ⟨h6, h⟩ := ba h
                      obtain ⟨h7, h⟩ := ba h
                      obtain ⟨h8, h9⟩ := ba h
                      have e1 := of_decide_eq_true h3
                      have e2 := of_decide_eq_true h8
                      subst e1 e2
                      exact .inl ⟨t, p, y, zp, q, _, rfl, rfl, rfl, rfl, h1, h2, h4, nb h5, h6, h7, h9⟩
                    | _ => cases h
              | true =>
                cases ty with
                | Tuple zs k z =>
                  obtain ⟨h1, h⟩ := ba h
                  obtain ⟨h2, h⟩ := ba h
                  obtain ⟨h3, h⟩ := ba h
                  obtain ⟨h4, h⟩ := ba h
                  obtain ⟨h5, h⟩ := ba h
                  obtain ⟨h6, h⟩ := ba h
                  obtain ⟨h7, h⟩ := ba h
                  obtain ⟨h8, h9⟩ := ba h
                  have e1 := of_decide_eq_true h3
                  subst e1
                  exact .inr ⟨p, y, zs, k, z, q, rfl, rfl, h1, h2, h4, nb h5, h6, h7, (fun z => by subst z; cases h8), of_decide_eq_true h9⟩
                | _ => cases ts with | nil => cases h | cons _ ts => cases ts <;> cases h
    | _ => cases many <;> (cases ts with | nil => cases h | cons _ ts => cases ts <;> cases h)
  | _ => cases many <;> (cases ts with | nil => cases h | cons _ ts => cases ts <;> cases h)
end
section
variable {G : Gd} {C : Ck} {X : Cx} {Wx : WX} {k : Nat} {call : Call}
theorem nodupI_ok : ∀ {ns : List Int}, nodupI ns = true → ns.Nodup
  | [], _ => List.nodup_nil
  | i :: is, h => by
    obtain ⟨h1, h2⟩ := ba h
    refine List.nodup_cons.mpr ⟨fun hm => ?_, nodupI_ok h2⟩
    have z := nb h1
    rw [List.contains_iff_mem.mpr hm] at z
    cases z
theorem strsT_rep {F : Hp} : ∀ {ts : List T} {ys : List Str} {vs : List V}, strsT ts = some ys → RepL G F vs ts → vs = ys.map V.str
  | [], _, _, h, r => by cases h; cases r; rfl
  | .str x :: ts, _, _, h, r => by
    obtain ⟨zs, e1, e2⟩ := Option.map_eq_some_iff.mp (show (strsT ts).map (x :: ·) = some _ from h)
    subst e2
    cases r with
    | cons r rr =>
      cases r
      rw [strsT_rep e1 rr]
      rfl
  | .non :: _, _, _, h, _ => by cases h
  | .bl _ :: _, _, _, h, _ => by cases h
  | .int _ :: _, _, _, h, _ => by cases h
  | .tup _ :: _, _, _, h, _ => by cases h
  | .lst _ :: _, _, _, h, _ => by cases h
  | .ins _ _ :: _, _, _, h, _ => by cases h
  | .dct _ :: _, _, _, h, _ => by cases h
  | .fn _ :: _, _, _, h, _ => by cases h
  | .scr _ :: _, _, _, h, _ => by cases h
theorem pa_tys (ok : XOk G C X Wx k call) : ∀ {ts : List Ty} {zs : List Expr}, tysB C ts zs = true → noStar zs = true → PA X zs (fun σ H Q => Q (ts.map (tyW G)) H)
  | [], [], _, _ => pa_nil
  | t :: ts, z :: zs, h, hs => by
    cases z with
    | Name x p =>
      obtain ⟨h1, h⟩ := ba h
      obtain ⟨h2, h⟩ := ba h
      obtain ⟨h3, h⟩ := ba h
      obtain ⟨h4, h5⟩ := ba h
      have e1 := of_decide_eq_true h3
      rw [ok.nm] at e1
      subst e1
      rw [ok.tab] at h4
      exact PA.imp (pa_cons (pe_ty ok (ok.kindOf h1) h4 (okN_3 h2) (okN_1 h2)) (pa_tys ok h5 (ba hs).2) (star_cons X.env (nb (ba hs).1))) fun σ H Q q => q
    | _ => cases h
  | [], _ :: _, h, _ => by cases h
  | _ :: _, [], h, _ => by cases h
theorem tysB_ne {ts : List Ty} {zs : List Expr} (h : tysB C ts zs = true) (hz : zs ≠ []) : ts ≠ [] := by
  cases ts with
  | nil =>
    cases zs with
    | nil => exact absurd rfl hz
    | cons _ _ => cases h
  | cons _ _ => exact fun z => nomatch z
theorem bind_assoc {α β γ : Type} (m : R α) (f : α → Store → R β) (g : β → Store → R γ) : (m.bind f).bind g = m.bind fun a S => (f a S).bind g := by
  cases m <;> rfl
theorem cmpW_bind {γ δ : Type} {rep : Wd → δ → γ → Prop} {W : Wd} {σ : L2.St} {S : Store} {op : CmpOp} {v w : Val} {f : Val → Store → R γ} {Q : δ → Hp → Prop} (h : Post G rep Wx σ W ((cmpW op v w S).bind f) Q) :
    ∃ b, cmpW op v w S = .ok (.t (.bl b)) S ∧ Post G rep Wx σ W (f (.t (.bl b)) S) Q := by
  unfold cmpW at h ⊢
  split at h
  · rename_i x y e1 e2
    cases q : cmpT op x y with
    | none => rw [q] at h; exact (show False from h).elim
    | some b =>
      rw [q] at h
      exact ⟨b, rfl, h⟩
  · exact (show False from h).elim
theorem cmpV_bind {γ δ : Type} {rep : Wd → δ → γ → Prop} {W : Wd} {σ : L2.St} {S : Store} {op : CmpOp} {v w : Val} {f : Val → Store → R γ} {Q : δ → Hp → Prop} (h : Post G rep Wx σ W ((cmpV op v w S).bind f) Q) :
    ∃ b, cmpV op v w S = .ok (.t (.bl b)) S ∧ Post G rep Wx σ W (f (.t (.bl b)) S) Q := by
  unfold cmpV at h ⊢
  split at h
  · exact ⟨false, rfl, h⟩
  · exact ⟨true, rfl, h⟩
  · exact cmpW_bind h
theorem lm_false {o p : CmpOp} {m r : Expr} (h : isSet r = false) : lastMarks [o, p] [m, r] = false := isSet_ok (op := p) h
theorem iv_rng1 {C : Ck} {t : Expr} {a : IE} {e : Expr} (h : chkIt C t .range (.cons a .nil) e = true) : ∃ p y q, e = .Call (.Name "range" p) [y] [] q ∧ glB C.sc ("range" : Str) = true ∧ chkE C a y = true ∧ isStar y = false := by
  cases e with
  | Call f es kw q =>
    cases f with
    | Name x p =>
      cases es with
      | nil => cases kw <;> cases h
      | cons y ys =>
        cases ys with
        | cons _ _ => cases kw <;> cases h
        | nil =>
          cases kw with
          | cons _ _ => cases h
          | nil =>
            obtain ⟨h1, h⟩ := ba h
            obtain ⟨h2, h⟩ := ba h
            obtain ⟨h3, h4⟩ := ba h
            have e1 := of_decide_eq_true h1
            subst e1
            exact ⟨p, y, q, rfl, h2, h3, nb h4⟩
    | _ => cases h
  | _ => cases h
theorem iv_rng2 {C : Ck} {t : Expr} {a b : IE} {e : Expr} (h : chkIt C t .range (.cons a (.cons b .nil)) e = true) : ∃ p y z q, e = .Call (.Name "range" p) [y, z] [] q ∧ glB C.sc ("range" : Str) = true ∧ chkE C a y = true ∧ chkE C b z = true ∧ isStar y = false ∧ isStar z = false := by
  cases e with
  | Call f es kw q =>
    cases f with
    | Name x p =>
      cases es with
      | nil => cases kw <;> cases h
      | cons y ys =>
        cases ys with
        | nil => cases kw <;> cases h
        | cons z ys =>
          cases ys with
          | cons _ _ => cases kw <;> cases h
          | nil =>
            cases kw with
            | cons _ _ => cases h
            | nil =>
              obtain ⟨h1, h⟩ := ba h
              obtain ⟨h2, h⟩ := ba h
              obtain ⟨h3, h⟩ := ba h
              obtain ⟨h4, h⟩ := ba h
              obtain ⟨h5, h6⟩ := ba h
              have e1 := of_decide_eq_true h1
              subst e1
              exact ⟨p, y, z, q, rfl, h2, h3, h4, nb h5, nb h6⟩
    | _ => cases h
  | _ => cases h
theorem no_it (C : Ck) {t : Expr} {kk : ItK} {src : IEs} {it : Expr} (h : kk = .enum) : ¬ chkIt C t kk src it = true := by
  intro z
  rcases h with rfl
  · cases src with
    | nil => cases it <;> cases z
    | cons a as => cases as with
      | nil => cases it <;> cases z
      | cons b bs => cases bs <;> (cases it <;> cases z)
theorem iv_zip {C : Ck} {t : Expr} {a b : IE} {e : Expr} (h : chkIt C t .zip (.cons a (.cons b .nil)) e = true) : ∃ p y z q es kk tp, e = .Call (.Name "zip" p) [y, z] [] q ∧ t = .Tuple es kk tp ∧ glB C.sc ("zip" : Str) = true ∧ chkE C a y = true ∧ chkE C b z = true ∧ isStar y = false ∧ isStar z = false := by
  cases e with
  | Call g ys kw q =>
    cases g with
    | Name x p =>
      cases ys with
      | nil => cases h
      | cons y ys =>
        cases ys with
        | nil => cases h
        | cons z ys =>
          cases ys with
          | cons _ _ => cases h
          | nil =>
            cases kw with
            | cons _ _ => cases h
            | nil =>
              obtain ⟨h1, h⟩ := ba h
              obtain ⟨h2, h⟩ := ba h
              obtain ⟨h3, h⟩ := ba h
              obtain ⟨h4, h⟩ := ba h
              obtain ⟨h5, h⟩ := ba h
              obtain ⟨h6, h7⟩ := ba h
              have e1 := of_decide_eq_true h1
              subst e1
              cases t with
              | Tuple es kk tp => exact ⟨p, y, z, q, es, kk, tp, rfl, rfl, h2, h3, h4, nb h5, nb h6⟩
              | _ => cases h7
    | _ => cases h
  | _ => cases h
theorem it_noset {C : Ck} {t : Expr} : ∀ {kk : ItK} {src : IEs} {it : Expr}, chkIt C t kk src it = true → ∀ (env : PySem.Env) x, foldedSetIterable it env x = pure x
  | .seq, .cons a .nil, it, h, env, x => by
    have z := nb (ba (show (chkE C a it && !isSet it) = true from h)).2
    cases it <;> first | rfl | cases z
  | .range, .cons a .nil, it, h, env, x => by
    obtain ⟨p, y, q, rfl, _⟩ := iv_rng1 h
    rfl
  | .range, .cons a (.cons b .nil), it, h, env, x => by
    obtain ⟨p, y, z, q, rfl, _⟩ := iv_rng2 h
    rfl
  | .seq, .nil, _, h, _, _ => by cases h
  | .seq, .cons _ (.cons _ _), _, h, _, _ => by cases h
  | .range, .nil, _, h, _, _ => by cases h
  | .range, .cons _ (.cons _ (.cons _ _)), _, h, _, _ => by cases h
  | .enum, src, it, h, _, _ => absurd h (no_it C rfl)
  | .zip, .cons a (.cons b .nil), it, h, env, x => by
    obtain ⟨p, y, z, q, es, kk, tp, rfl, _⟩ := iv_zip h
    rfl
  | .zip, .nil, it, h, _, _ => by cases it <;> cases h
  | .zip, .cons _ .nil, it, h, _, _ => by cases it <;> cases h
  | .zip, .cons _ (.cons _ (.cons _ _)), it, h, _, _ => by cases it <;> cases h
theorem look_blk {sc : Scope} {kd : NameKind} (hk : kd ≠ .free) : ∀ {names : List (Str × NameKind)} {x : Str}, names.lookup x = some kd →
    (names.map fun (n, k) => if (k == NameKind.free && sc.kind == .function && sc.names.lookup n == some .cell) then (n, NameKind.cell) else (n, k)).lookup x = some kd
  | [], _, h => by simp at h
  | (n, k) :: r, x, h => by
    have ih := @look_blk sc kd hk r x
    show List.lookup x ((if (k == NameKind.free && sc.kind == .function && sc.names.lookup n == some .cell) = true then (n, NameKind.cell) else (n, k)) :: _) = _
    by_cases z : x == n
    · have e : k = kd := by
        simp only [List.lookup, z] at h
        exact Option.some.inj h
      subst e
      have e2 : (k == NameKind.free) = false := beq_eq_false_iff_ne.mpr hk
      rw [e2]
      simp only [Bool.false_and, Bool.false_eq_true, if_false, List.lookup, z]
    · have z : (x == n) = false := by simpa using z
      simp only [List.lookup, z] at h
      split <;> (simp only [List.lookup, z]; exact ih h)
theorem scope_blk {env : PySem.Env} {sc scope : Scope} (h : env.scope = sc) : relabel scope env = blkSc sc scope := by
  subst h
  rfl
theorem XOk.blk {C : Ck} {X : Cx} {Wx : WX} (ok : XOk G C X Wx k call) (hcm : C.calm = true) (s : Shared) (H : Hp) (c : Addr) (cl : List (Str × Addr)) (fp : List Addr) (scope : Scope) : XOk G (C.blk scope) (X.blk s H scope (compEnvC scope cl c X.env) fp) noW k call :=
  { prog := ok.prog, w := ok.w, K := ok.K, mg := ok.mg, N := ok.N, nd := ok.nd, sc := scope_blk ok.sc, room := ok.room, roomH := ok.roomH, fnsH := ok.fnsH, hu := ok.hu, hs := ok.hs, cs := ok.cs, hx := fun i a c e => absurd ((congrArg (Option.map fun h => h.1) e).symm.trans (ok.hs.trans (ok.cs hcm))) (fun z => nomatch z), stk := fun z => absurd (show false = true from z) Bool.false_ne_true, calm := ok.calm, tk := takes0, pas := PassesOwn.never, tab := ok.tab, nm := ok.nm, free := ok.free, gl := ok.gl, cls := ok.cls, fns := ok.fns, okf := ok.okf, con := ok.con, exc := ok.exc, dc := ok.dc,
    can := fun i x hi hx => by
      have hx : locB scope x = true := hx
      have lk : ∀ {kd : NameKind}, kd ≠ .free → scope.names.lookup x = some kd → (X.blk s H scope (compEnvC scope cl c X.env) fp).env.scope.names.lookup x = some kd := fun {kd} hk h => by
        show (relabel scope X.env).names.lookup x = _
        rw [scope_blk ok.sc]
        exact look_blk hk h
      unfold locB at hx
      cases q : scope.names.lookup x with
      | none => rw [q] at hx; cases hx
      | some kd =>
        rw [q] at hx
        cases kd with
        | «local» => exact ⟨.inl (lk (nomatch ·) q), .inr (lk (nomatch ·) q)⟩
        | cell => exact ⟨.inr (lk (nomatch ·) q), .inl (by show (scope.names.lookup x == some .cell) = true; rw [q]; rfl)⟩
        | _ => cases hx }
theorem bmA_len {b : BM} {n : Nat} (h : bmA b n = true) : n ≤ 2 := by
  cases b with
  | insert => have := of_decide_eq_true (p := n = 2) h; omega
  | append => have := of_decide_eq_true (p := n = 1) h; omega
  | pop => have := of_decide_eq_true (p := n = 0) h; omega
  | popi => have := of_decide_eq_true (p := n = 1) h; omega
  | index => have := of_decide_eq_true (p := n = 1) h; omega
  | count => have := of_decide_eq_true (p := n = 1) h; omega
  | _ => cases h
theorem sO {C : Ck} {X : Cx} {Wx : WX} : ∀ (ie : IE) (o : Option Expr), (∀ x, chkE C ie x = true → PE X x (tE G Wx call ie)) → chkO C ie o = true → PO X o (Den G (fun _ (a b : Option Int) => a = b) Wx (fun env S => if isNo ie then .ok none S else (dE G.tab call ie env S).bind fun y S => optI y S))
  | ie, none, _, h => by
    have h : isNo ie = true := h
    refine ⟨fun pins s σ H Q I ⟨W, env, S, sm, er, q⟩ => po_none.run pins s σ H Q I ?_⟩
    rw [h] at q
    exact Post.ok (rep := fun _ (a b : Option Int) => a = b) q sm rfl
  | ie, some x, hE, h => by
    obtain ⟨h1, h2⟩ := ba h
    refine ⟨fun pins s σ H Q I ⟨W, env, S, sm, er, q⟩ => (po_some (hE x h2)).run pins s σ H Q I ?_⟩
    rw [nb h1] at q
    refine Den.step (show Post G (fun _ (a b : Option Int) => a = b) Wx σ W ((dE G.tab call ie env S).bind fun y S => optI y S) Q from q) sm er fun v S1 W1 x H1 e1 l1 s1 n1 r1 p1 => ?_
    cases v with
    | r n => exact (show False from p1).elim
    | t t =>
      cases t with
      | int i => cases r1; exact ⟨i, rfl, Post.ok (rep := fun _ (a b : Option Int) => a = b) p1 s1 rfl⟩
      | _ => exact (show False from p1).elim
theorem pa1 {X : Cx} {Wx : WX} {a : IE} {y : Expr} (h : PE X y (tE G Wx call a)) (hs : isStar y = false) : PA X [y] (tEs G Wx call (.cons a .nil)) :=
  PA.imp (pa_cons h pa_nil (star_cons X.env hs)) fun σ H Q ⟨W, env, S, sm, er, q⟩ => Den.step q sm er fun v S1 W1 x H1 e1 l1 s1 n1 r1 p1 => Post.ok (rep := fun W => Paired (RepV G W)) p1 s1 (.cons r1 .nil)
theorem pa2 {X : Cx} {Wx : WX} {a b : IE} {y z : Expr} (h : PE X y (tE G Wx call a)) (h2 : PE X z (tE G Wx call b)) (hs : isStar y = false) (hs2 : isStar z = false) : PA X [y, z] (tEs G Wx call (.cons a (.cons b .nil))) :=
  PA.imp (pa_cons h (pa1 h2 hs2) (star_cons X.env hs)) fun σ H Q ⟨W, env, S, sm, er, q⟩ =>
      Den.step q sm er fun v S1 W1 x H1 e1 l1 s1 n1 r1 p1 => Den.step p1 s1 n1 fun ws S2 W2 ys H2 e2 l2 s2 n2 r2 p2 => Post.ok (rep := fun W => Paired (RepV G W)) p2 s2 (.cons (r1.mono l2) r2)
/-! ### isinstance of the handled exception -/
def exV (G : Gd) : Option Nat → V
  | none => .ty "ValueError"
  | some d => .ref (G.eA d)
def exO (G : Gd) : Option Nat → Value
  | none => .type "ValueError"
  | some d => .ref (G.eA d)
theorem ex_cls (G : Gd) (t : Option Nat) : ClsV (exV G t) (exO G t) := by
  cases t <;> first | exact .ty _ | exact .own _
theorem ex_rel (G : Gd) (t : Option Nat) : RelV (exV G t) (exO G t) := by
  cases t <;> rfl
/-- isinstance(e, (c1, c2, ..)), e the exception that the suite holds -/
def rIsET (K : PySem.W.Frag) (D a : Addr) : List V → Hp → VK → Prop := fun xs H Q => ∃ (tp : Addr) (cs : List V) (us : List Value) (b : Bool), xs = [.ref a, .ref tp] ∧ H tp = some (.tup cs) ∧ Paired ClsV cs us ∧ PySem.W.kitAny K (.ref D) us = some b ∧ Q (.bl b) H
theorem is_eT {X : Cx} {a D : Addr} {oe : Obj} (C : ExcC X.K D) (hpn : (a, oe) ∈ X.pn) (hz : Zc (.ref D) none oe) (hf : ∃ vs, oe.data = .fields vs) : CallR X (.builtin "isinstance") (rIsET X.K D a) := by
  intro pins s σ H xs us Q I r h
  obtain ⟨tp, cs, ws, b, rfl, hT, kk, e, q⟩ := h
  obtain ⟨u1, u2, rfl, r1, r2⟩ := vals2 r
  cases (show u1 = Value.ref a from r1)
  cases (show u2 = Value.ref tp from r2)
  obtain ⟨_, its, rv, o, h1, h2, n, h3⟩ := (show ObjOk X.prog X.w H s.heap tp (.tup cs) from I.hok tp _ hT)
  have e3 := ClsV.all kk rv
  subst e3
  obtain ⟨oc, od, dt, sl⟩ := o
  simp only at h2 h3
  subst h2 h3
  obtain ⟨hget, _⟩ := I.pin (a, oe) (List.mem_append.mpr (.inl hpn))
  obtain ⟨vs, hv⟩ := hf
  have J : PySem.W.InstAt s.heap a oe D none := by
    obtain ⟨oc, od, oda, osl⟩ := oe
    obtain ⟨h1, h2⟩ := hz
    dsimp only at h1 h2 hv
    subst h1 h2 hv
    exact ⟨hget, rfl, rfl, trivial⟩
  exact PySem.W.kia_tup (PySem.W.handS_kitx_exc C.hg C.hk C.hs C.hd C.ha C.hn C.ht C.hm) I.kIn J h1 e (fun z => nomatch z) fun tk => ⟨.bl b, H, I.kept (t' := tk) fun _ _ z => z, rfl, q⟩
/-- one class, asked of the exception that is handled -/
theorem is_e {X : Cx} {a D : Addr} {oe : Obj} (C : ExcC X.K D) (hpn : (a, oe) ∈ X.pn) (hz : Zc (.ref D) none oe) (hf : ∃ vs, oe.data = .fields vs) : CallR X (.builtin "isinstance") (rIsE X.K D a) := by
  intro pins s σ H xs us Q I r h
  obtain ⟨c, cv, b, rfl, hcv, e, q⟩ := h
  obtain ⟨u1, u2, rfl, r1, r2⟩ := vals2 r
  cases (show u1 = Value.ref a from r1)
  cases hcv _ r2
  obtain ⟨hget, _⟩ := I.pin (a, oe) (List.mem_append.mpr (.inl hpn))
  obtain ⟨vs, hv⟩ := hf
  have J : PySem.W.InstAt s.heap a oe D none := by
    obtain ⟨oc, od, oda, osl⟩ := oe
    obtain ⟨h1, h2⟩ := hz
    dsimp only at h1 h2 hv
    subst h1 h2 hv
    exact ⟨hget, rfl, rfl, trivial⟩
  exact PySem.W.kia_one (PySem.W.handS_kitx_exc C.hg C.hk C.hs C.hd C.ha C.hn C.ht C.hm) I.kIn J e (fun z => nomatch z) fun tk => ⟨.bl b, H, I.kept (t' := tk) fun _ _ z => z, rfl, q⟩
section
variable {C : Ck} {X : Cx} {Wx : WX} {call : Call} {G : Gd} {k : Nat}
theorem ex_free : ("ValueError" : Str) ∈ ["len", "int", "str", "min", "max", "abs", "list", "tuple", "all", "any", "sum", "divmod", "sorted", "bool", "isinstance", "range", "enumerate", "zip", "dict", "set", "ValueError"].map Str.ofString := by decide +kernel
theorem pa_exs (ok : XOk G C X Wx k call) : ∀ {ts : List (Option Nat)} {zs : List Expr}, exsB C ts zs = true → noStar zs = true → PA X zs (fun σ H Q => Q (ts.map (exV G)) H)
  | [], [], _, _ => pa_nil
  | none :: ts, z :: zs, h, hs => by
    cases z with
    | Name x p =>
      obtain ⟨h1, h⟩ := ba h
      obtain ⟨h2, h⟩ := ba h
      obtain ⟨h3, h4⟩ := ba h
      have e1 := of_decide_eq_true h3
      subst e1
      exact PA.imp (pa_cons (pe_bltn (ok.kindOf h1) (by rw [ok.mg]; exact ok.free _ ex_free) (by show bootBuiltins (Str.ofString "ValueError") = some (.type "ValueError"); decide +kernel) (ex_rel G none) (okN_3 h2) (okN_1 h2)) (pa_exs ok h4 (ba hs).2) (star_cons X.env (nb (ba hs).1))) fun σ H Q q => q
    | _ => cases h
  | some d :: ts, z :: zs, h, hs => by
    cases z with
    | Name x p =>
      obtain ⟨h1, h⟩ := ba h
      obtain ⟨h2, h⟩ := ba h
      obtain ⟨h3, h⟩ := ba h
      obtain ⟨h4, h5⟩ := ba h
      have e1 := of_decide_eq_true h3
      rw [ok.nm] at e1
      subst e1
      rw [ok.tab] at h4
      obtain ⟨l, hl⟩ := Option.isSome_iff_exists.mp h4
      exact PA.imp (pa_cons (pe_glob (ok.kindOf h1) (by rw [ok.mg]; exact (ok.exc d l hl).mg) (ex_rel G (some d)) (okN_1 h2)) (pa_exs ok h5 (ba hs).2) (star_cons X.env (nb (ba hs).1))) fun σ H Q q => q
    | _ => cases h
  | [], _ :: _, h, _ => by cases h
  | none :: _, [], h, _ => by cases h
  | some _ :: _, [], h, _ => by cases h
theorem ex_many (ok : XOk G C X Wx k call) {c : Nat} {lc : List Nat} (hc : G.tab.exc c = some lc) : ∀ {ts : List (Option Nat)} {b : Bool}, exAny G.tab c ts = some b → PySem.W.kitAny G.K (.ref (G.eA c)) (ts.map (exO G)) = some b
  | [], b, h => by cases h; rfl
  | none :: ts, b, h => by
    have h : some true = some b := h
    cases h
    exact kitAny_cons (ok.exc c lc hc).ve (fun z => nomatch z) (fun _ => rfl)
  | some d :: ts, b, h => by
    have h : (match G.tab.exc c with
      | some l => if (G.tab.exc d).isSome then (if l.contains d then some true else exAny G.tab c ts) else none
      | none => none) = some b := h
    rw [hc] at h
    have h : (if (G.tab.exc d).isSome then (if lc.contains d then some true else exAny G.tab c ts) else none) = some b := h
    cases q : G.tab.exc d with
    | none => rw [q] at h; cases h
    | some l =>
      rw [q] at h
      have h : (if lc.contains d then some true else exAny G.tab c ts) = some b := h
      refine kitAny_cons ((ok.exc c lc hc).kO lc hc d l q).1 (fun z => ?_) (fun z => ?_)
      · rw [z] at h
        exact ex_many ok hc h
      · rw [z] at h
        cases h
        rfl
theorem ex_one (ok : XOk G C X Wx k call) {c : Nat} {lc : List Nat} (hc : G.tab.exc c = some lc) {t : Option Nat} {b : Bool} (h : exAny G.tab c [t] = some b) : PySem.W.kitOne G.K (.ref (G.eA c)) (exO G t) = some b := by
  cases t with
  | none =>
    have h : some true = some b := h
    cases h
    exact (ok.exc c lc hc).ve
  | some d =>
    have h : (match G.tab.exc c with
      | some l => if (G.tab.exc d).isSome then (if l.contains d then some true else some false) else none
      | none => none) = some b := h
    rw [hc] at h
    have h : (if (G.tab.exc d).isSome then (if lc.contains d then some true else some false) else none) = some b := h
    cases q : G.tab.exc d with
    | none => rw [q] at h; cases h
    | some l =>
      rw [q] at h
      have h : (if lc.contains d then some true else some false) = some b := h
      have e : (if lc.contains d then some true else some false) = some (lc.contains d) := by cases lc.contains d <;> rfl
      rw [e] at h
      cases h
      exact ((ok.exc c lc hc).kO lc hc d l q).1
/-- what the small language's test asks -/
theorem ex_post {i : Nat} {ts : List (Option Nat)} {W : Wd} {σ : L2.St} {env : Env} {S : Store} {Q : VK} {a : Addr} {c : Nat} (hG : G.hs = some (i, a, c)) (er : EnvRep G W σ env) (q : PostV G Wx σ W (exIsV G.tab ts env[i]? S) Q) : σ[i]? = some (some (.ref a)) ∧ ∃ b, exAny G.tab c ts = some b ∧ PostV G Wx σ W (.ok (.t (.bl b)) S) Q := by
  unfold exIsV at q
  split at q
  · rename_i c' e
    obtain ⟨x, h1, h2⟩ := er.2 i _ e
    rcases h2 with h2 | ⟨a2, c2, e2, e3, e4⟩
    · cases h2
    · rw [hG] at e2
      cases e2
      cases e3
      subst e4
      refine ⟨h1, ?_⟩
      cases z : exAny G.tab c ts with
      | none => rw [z] at q; exact (show False from q).elim
      | some b =>
        rw [z] at q
        exact ⟨b, rfl, q⟩
  · exact (show False from q).elim
theorem pe_exIs (ok : XOk G C X Wx k call) {i : Nat} {many : Bool} {ts : List (Option Nat)} {e : Expr} (h : chkE C (.exIs i many ts) e = true) : PE X e (tE G Wx call (.exIs i many ts)) := by
  obtain ⟨x, zs, h0, h1, h2, h3, h4, h5, h6, h7, h8⟩ := iv_exIs h
  have hh := ok.hs
  rw [h1] at hh
  obtain ⟨⟨i', a, c⟩, hG, ei⟩ := Option.map_eq_some_iff.mp hh
  have ei : i' = i := ei
  subst ei
  obtain ⟨oe, hpn, hz, hf, lc, hc⟩ := ok.hx i' a c hG
  have fr : X.mg ("isinstance" : Str) = none := by
    rw [ok.mg]
    exact ok.free _ (by decide +kernel)
  have hE : ExcC X.K (G.eA c) := by rw [ok.K]; exact (ok.exc c lc hc).isE
  have hv := fun pos => pe_var (X := X) (pos := pos) (i := i') (x := x) (by rw [ok.N]; exact h2) (ok.vis h3) (okN_1 h4) (okN_2 h4)
  rcases exP_ok h0 with ⟨rfl, p, p2, z, zp, q, rfl, rfl⟩ | ⟨rfl, p, p2, kk, tp, q, rfl⟩
  · cases ts with
    | nil => cases h6
    | cons t ts =>
      have hts : ts = [] := by
        cases ts with
        | nil => rfl
        | cons _ _ => cases t <;> (have h6 := h6; simp [exsB] at h6)
      subst hts
      have hr : CallR X (.builtin "isinstance") (rIsE G.K (G.eA c) a) := by
        rw [← ok.K]
        exact is_e hE hpn hz hf
      refine PE.imp (pe_callB hr (ok.kindOf h5) fr (by decide +kernel) (pa_cons (hv _) (pa_exs ok h6 h7) rfl) (by decide +kernel) (by decide +kernel) rfl rfl) ?_
      rintro σ H Q ⟨W, env, S, sm, er, q⟩
      obtain ⟨e1, b, e2, p1⟩ := ex_post hG er q
      exact ⟨.ref a, e1, exV G t, exO G t, b, rfl, fun u r => (ex_cls G t).eq r, ex_one ok hc e2, post_t p1 sm (.bl b)⟩
  · have hr : CallR X (.builtin "isinstance") (rIsET G.K (G.eA c) a) := by
      rw [← ok.K]
      exact is_eT hE hpn hz hf
    refine PE.imp (pe_callB hr (ok.kindOf h5) fr (by decide +kernel) (pa_cons (hv _) (pa_cons (pe_tup (pa_exs ok h6 h7)) pa_nil rfl) rfl) (by decide +kernel) (by decide +kernel) rfl rfl) ?_
    rintro σ H Q ⟨W, env, S, sm, er, q⟩
    obtain ⟨e1, b, e2, p1⟩ := ex_post hG er q
    refine ⟨.ref a, e1, by rw [List.length_map]; exact Nat.le_trans h8 (by decide), fun tp htp => ?_⟩
    exact ⟨tp, ts.map (exV G), ts.map (exO G), b, rfl, upd_same, paired_map (ex_cls G) ts, ex_many ok hc e2, post_t (p1.mono (Wd.le_addF sm htp _)) (sm.addF htp _) (.bl b)⟩
end
theorem iv_hot {C : Ck} {f i : Nat} {e : Expr} (h : chkE C (.hot f i) e = true) : ∃ p x p2 q, e = .Call (.Name (C.nm.fnN f) p) [.Name x p2] [] q ∧ C.hs = some i ∧ C.N[i]? = some x ∧ visB C.sc x = true ∧ okN x = true ∧ glB C.sc (C.nm.fnN f) = true ∧ okN (C.nm.fnN f) = true ∧ hotB C.tab f = true ∧ C.glF f = true := by
  cases e with
  | Call g ys kw q =>
    cases g with
    | Name g p =>
      cases ys with
      | nil => cases h
      | cons y ys =>
        cases y with
        | Name x p2 =>
          cases ys with
          | cons _ _ => cases h
          | nil =>
            cases kw with
            | cons _ _ => cases h
            | nil =>
              obtain ⟨h1, h⟩ := ba h
              obtain ⟨h2, h⟩ := ba h
              obtain ⟨h3, h⟩ := ba h
              obtain ⟨h4, h⟩ := ba h
              obtain ⟨h5, h⟩ := ba h
              obtain ⟨h6, h⟩ := ba h
              obtain ⟨h7, h⟩ := ba h
              obtain ⟨h8, h9⟩ := ba h
              have e := of_decide_eq_true h7
              subst e
              exact ⟨p, x, p2, q, rfl, of_decide_eq_true h1, of_decide_eq_true h2, h3, h4, h5, h6, h8, h9⟩
        | _ => cases h
    | _ => cases h
  | _ => cases h
theorem hot_post {G : Gd} {Wx : WX} {call : Call} {f i : Nat} {W : Wd} {σ : L2.St} {env : Env} {S : Store} {Q : VK} {a : Addr} {c : Nat} (hG : G.hs = some (i, a, c)) (er : EnvRep G W σ env) (q : PostV G Wx σ W (hotV call f env[i]? S) Q) : σ[i]? = some (some (.ref a)) ∧ PostV G Wx σ W ((call f [.t (.exn c [])] S).nob fun v S => .ok v S) Q := by
  unfold hotV at q
  split at q
  · rename_i c' e
    obtain ⟨x, h1, h2⟩ := er.2 i _ e
    rcases h2 with h2 | ⟨a2, c2, e2, e3, e4⟩
    · cases h2
    · rw [hG] at e2
      cases e2
      cases e3
      subst e4
      exact ⟨h1, q⟩
  · exact (show False from q).elim
/-- a def that is handed the handled exception -/
theorem pe_hot {G : Gd} {C : Ck} {X : Cx} {Wx : WX} {k : Nat} {call : Call} (ok : XOk G C X Wx k call) {f i : Nat} {e : Expr} (h : chkE C (.hot f i) e = true) : PE X e (tE G Wx call (.hot f i)) := by
  obtain ⟨p, x, p2, q, rfl, h1, h2, h3, h4, h5, h6, h7, h8⟩ := iv_hot h
  have hh := ok.hs
  rw [h1] at hh
  obtain ⟨⟨i', a, c⟩, hG, ei⟩ := Option.map_eq_some_iff.mp hh
  have ei : i' = i := ei
  subst ei
  obtain ⟨oe, hpn, hz, hf, lc, hc⟩ := ok.hx i' a c hG
  unfold hotB at h7
  rw [ok.tab] at h7
  cases hd : G.tab.fn f with
  | none => rw [hd] at h7; cases h7
  | some d =>
    rw [hd] at h7
    obtain ⟨d1, d2⟩ := ba h7
    have d2 := of_decide_eq_true d2
    obtain ⟨run, hcall, F⟩ := ok.fnsH f d hd d1
    obtain ⟨fd, y, hb, F⟩ := F.ex d2
    obtain ⟨g1, g2⟩ := ok.gl f h8
    have ha : PA X [.Name x p2] _ := pa_cons (pe_var (X := X) (pos := p2) (i := i') (x := x) (by rw [ok.N]; exact h2) (ok.vis h3) (okN_1 h4) (okN_2 h4)) pa_nil rfl
    refine ⟨fun pins s σ H Q I ⟨W, env, S, sm, er, qq⟩ => ?_⟩
    obtain ⟨e1, pq⟩ := hot_post hG er qq
    rw [hcall] at pq
    have e0 : dflV d [Val.t (.exn c [])].length = [] := by
      unfold dflV
      rw [d2]
      show List.map Val.t (d.dfl.drop (d.dfl.length - 0)) = []
      rw [Nat.sub_zero, List.drop_length]
      rfl
    rw [e0, List.append_nil] at pq
    refine wpAny_Call_Name_kw (ld_glob I (ok.kindOf h5) (by rw [ok.mg, ok.nm]; exact g1) ?_ (okN_1 h6))
    refine PySem.W.callWith_K (h₀ := X.base) I.ok.mod.kin (by rw [ok.K]; exact g2) (thn (ha.run q pins s σ H (fun vs H1 => vs = [V.ref a] ∧ H = H1) I ⟨.ref a, e1, rfl, rfl⟩) fun us s1 ⟨vs, H1, I1, r, ev, eH⟩ => ⟨I1.kIn, ?_⟩) rfl rfl
    subst ev
    rw [← eH] at I1
    cases r with
    | cons ru rn =>
      cases rn
      cases ru
      have b := hb s1 [.ref a] (by rw [← ok.K]; exact I1.kIn) rfl
      have P1 := I1.pin (a, oe) (List.mem_append_left _ hpn)
      have hpin : L2H.PinOk X.stack H s1 (a, oe) := ⟨P1.1, P1.2.1, fun hm => (List.mem_cons.mp (I1.stkSub a hm)).elim P1.2.2.1 P1.2.2.2.1, P1.2.2.2.2⟩
      have E0 := I1.env0
      rw [ok.prog, ok.w, ok.K, ok.mg] at E0
      have z := F G.hs X.A X.stack s1 H ⟨[.ref a], []⟩ W S a oe c lc Q ⟨by have := ok.roomH.dp; omega, by have := ok.roomH.un; omega⟩ hpin E0 b hz hf hc sm ?_
      · refine wpAny_call (codeAny_mono (by rw [ok.prog, ok.w]; exact z) fun r s' hq => ?_)
        cases r with
        | error e =>
          obtain ⟨_, _, _, _, _, _, _, _, _, _, _, _, z⟩ := (show L2.CX G.prog G.w X.stack H s1 (fun _ _ _ => False) e s' from hq)
          exact z.elim
        | ok fl =>
          cases fl with
          | ret u => exact I1.after (by rw [ok.prog, ok.w]; exact hq)
          | next => exact False.elim hq
          | brk => exact False.elim hq
          | cont => exact False.elim hq
      · cases hr : run [.t (.exn c [])] S with
        | ok v S1 => rw [hr] at pq; exact pq
        | ex x S1 => rw [hr] at pq; exact (show False from pq).elim
        | bad => rw [hr] at pq; exact pq
theorem iv_inRg {C : Ck} {a b : IE} {e : Expr} {neg : Bool} (h : chkE C (.inRg neg a b) e = true) : ∃ l p2 y q p, e = .Compare l [if neg then .NotIn else .In] [.Call (.Name "range" p2) [y] [] q] p ∧ glB C.sc ("range" : Str) = true ∧ chkE C a l = true ∧ chkE C b y = true ∧ isStar y = false := by
  have h : (match irP e with
    | some (n2, l, y) => (n2 == neg) && (glB C.sc ("range" : Str) && (chkE C a l && (chkE C b y && !isStar y)))
    | none => false) = true := h
  cases q : irP e with
  | none => rw [q] at h; cases h
  | some z =>
    obtain ⟨n2, l, y⟩ := z
    rw [q] at h
    obtain ⟨h0, g⟩ := ba (show (n2 == neg && (glB C.sc ("range" : Str) && (chkE C a l && (chkE C b y && !isStar y)))) = true from h)
    clear h
    have h0 := eq_of_beq h0
    subst h0
    obtain ⟨p2, q, p, e1⟩ := irP_ok q
    obtain ⟨h3, g⟩ := ba g
    obtain ⟨h4, g⟩ := ba g
    obtain ⟨h5, h6⟩ := ba g
    exact ⟨l, p2, y, q, p, e1, h3, h4, h5, nb h6⟩
theorem iv_listRg {C : Ck} {a : IE} {e : Expr} (h : chkE C (.listRg a) e = true) : ∃ p p2 y q q2, e = .Call (.Name "list" p) [.Call (.Name "range" p2) [y] [] q] [] q2 ∧ glB C.sc ("list" : Str) = true ∧ glB C.sc ("range" : Str) = true ∧ chkE C a y = true ∧ isStar y = false ∧ C.calm = true := by
  have h : (match lrP e with
    | some y => glB C.sc ("list" : Str) && (glB C.sc ("range" : Str) && (chkE C a y && (!isStar y && C.calm)))
    | none => false) = true := h
  cases q : lrP e with
  | none => rw [q] at h; cases h
  | some y =>
    rw [q] at h
    obtain ⟨p, p2, q, q2, e1⟩ := lrP_ok q
    obtain ⟨h3, h⟩ := ba h
    obtain ⟨h4, h⟩ := ba h
    obtain ⟨h5, h⟩ := ba h
    obtain ⟨h6, h7⟩ := ba h
    exact ⟨p, p2, y, q, q2, e1, h3, h4, h5, nb h6, h7⟩
theorem rg_rep {G : Gd} {W : Wd} (n : Int) : Paired (RepV G W) (rgV 0 n) (rng 0 n) := by
  unfold rgV rng
  have key : ∀ l : List Nat, Paired (RepV G W) (l.map fun i => V.int (0 + (i : Nat))) (l.map fun (i : Nat) => Val.t (T.int (0 + Int.ofNat i))) := fun l => by
    induction l with
    | nil => exact .nil
    | cons i l ih => exact .cons (show Rep G W.F _ _ from .int _) ih
  exact key _
mutual
theorem sE {C : Ck} {X : Cx} {Wx : WX} (ok : XOk G C X Wx k call) : ∀ (ie : IE) (e : Expr), chkE C ie e = true → PE X e (tE G Wx call ie)
  | .var i, e, h => by
    obtain ⟨x, p, rfl, h1, h2, h3, h6⟩ := iv_var h
    refine PE.imp (pe_var (i := i) (by rw [ok.N]; exact h1) (ok.vis h2) (okN_1 h3) (okN_2 h3)) ?_
    rintro σ H Q ⟨W, env, S, sm, er, q⟩
    have q : PostV G Wx σ W (match env[i]? with
      | some (some v) => .ok v S
      | _ => .bad) Q := q
    cases z : env[i]? with
    | none => rw [z] at q; exact (show False from q).elim
    | some o =>
      cases o with
      | none => rw [z] at q; exact (show False from q).elim
      | some v =>
        rw [z] at q
        obtain ⟨x, h4, h5⟩ := er.2 i v z
        refine ⟨x, h4, Post.ok q sm ?_⟩
        rcases h5 with h5 | ⟨a, c, hg, _⟩
        · exact h5
        · have y := ok.hs
          rw [hg] at y
          exact absurd y.symm h6
  | .con t, e, h => by
    obtain ⟨c, j, p, rfl, h1⟩ := iv_con h
    cases t with
    | non =>
      cases c with
      | none => exact PE.imp pe_non fun σ H Q ⟨W, env, S, sm, er, q⟩ => post_t q sm .non
      | _ => cases h1
    | bl b =>
      cases c with
      | bool d =>
        have e1 : b = d := eq_of_beq h1
        subst e1
        exact PE.imp pe_bl fun σ H Q ⟨W, env, S, sm, er, q⟩ => post_t q sm (.bl b)
      | _ => cases h1
    | int i =>
      cases c with
      | int d =>
        have e1 : i = d := of_decide_eq_true h1
        subst e1
        exact PE.imp pe_int fun σ H Q ⟨W, env, S, sm, er, q⟩ => post_t q sm (.int i)
      | _ => cases h1
    | str x =>
      cases c with
      | str d =>
        have e1 : x = d := of_decide_eq_true h1
        subst e1
        exact PE.imp pe_str fun σ H Q ⟨W, env, S, sm, er, q⟩ => post_t q sm (.str x)
      | _ => cases h1
    | _ => cases h1
  | .glob g, e, h => by
    obtain ⟨p, rfl, h1, h2⟩ := iv_glob h
    refine ⟨fun pins s σ H Q I ⟨W, env, S, sm, er, q⟩ => ?_⟩
    have q : PostV G Wx σ W (ofT (G.tab.con g) S) Q := q
    cases z : G.tab.con g with
    | none => rw [z] at q; exact (show False from q).elim
    | some t =>
      rw [z] at q
      obtain ⟨v, u, e1, e2, e3, _⟩ := ok.con g t z
      rw [ok.nm] at h1 h2 ⊢
      exact (pe_glob (ok.kindOf h1) (by rw [ok.mg]; exact e1) e2 (okN_1 h2)).run pins s σ H Q I (post_t q sm (e3 _))
  | .bin op a b, e, h => by
    obtain ⟨l, r, p, rfl, h1, h2⟩ := iv_bin h
    exact PE.imp (pe_op (OpR.any _) (sE ok a l h1) (sE ok b r h2)) fun σ H Q ⟨W, env, S, sm, er, q⟩ =>
      Den.step q sm er fun v S1 W1 x H1 e1 l1 s1 n1 r1 p1 => Den.step p1 s1 n1 fun w S2 W2 y H2 e2 l2 s2 n2 r2 p2 => bin_any ok.K p2 s2 (r1.mono l2) r2
  | .binM op a b, e, h => by
    obtain ⟨l, r, p, rfl, h1, h2⟩ := iv_binM h
    exact PE.imp (pe_op (OpR.any _) (sE ok a l h1) (sE ok b r h2)) fun σ H Q ⟨W, env, S, sm, er, q⟩ =>
      Den.step q sm er fun v S1 W1 x H1 e1 l1 s1 n1 r1 p1 => Den.step p1 s1 n1 fun w S2 W2 y H2 e2 l2 s2 n2 r2 p2 => binL_any p2 s2 (r1.mono l2) r2
  | .neg a, e, h => by
    obtain ⟨x, p, rfl, h1⟩ := iv_neg h
    refine PE.imp (pe_un un_neg (sE ok a x h1)) fun σ H Q ⟨W, env, S, sm, er, q⟩ => Den.step q sm er fun v S1 W1 x H1 e1 l1 s1 n1 r1 p1 => ?_
    cases v with
    | r n => exact (show False from p1).elim
    | t t =>
      cases t with
      | int i => cases r1; exact ⟨i, rfl, post_t p1 s1 (.int _)⟩
      | _ => exact (show False from p1).elim
  | .cmp op a b, e, h => by
    obtain ⟨l, r, p, rfl, h1, h2, h3⟩ := iv_cmp h
    exact PE.imp (pe_cmpR (OpR.any _) (sE ok a l h1) (sE ok b r h2) (isSet_ok h3)) fun σ H Q ⟨W, env, S, sm, er, q⟩ =>
      Den.step q sm er fun v S1 W1 x H1 e1 l1 s1 n1 r1 p1 => Den.step p1 s1 n1 fun w S2 W2 y H2 e2 l2 s2 n2 r2 p2 => cmp_any ok.K ok.hu p2 s2 (r1.mono l2) r2
  | .cmp2 o p a b c, e, h => by
    obtain ⟨l, m, r, pos, rfl, h1, h2, h3, h4, h5⟩ := iv_cmp2 h
    refine PE.imp (pe_chain (OpR.any _) (OpR.any _) (sE ok a l h1) (sE ok b m h2) (sE ok c r h3) (lm_false h5)) fun σ H Q ⟨W, env, S, sm, er, q⟩ =>
      Den.step q sm er fun v S1 W1 x H1 e1 l1 s1 n1 r1 p1 => Den.step p1 s1 n1 fun w S2 W2 y H2 e2 l2 s2 n2 r2 p2 => ?_
    obtain ⟨b1, e3, p3⟩ := cmpV_bind p2
    refine cmp_any (op := o) (a := v) (b := w) (W := W2) (Wx := Wx) (σ := σ) (S := S2) ok.K ok.hu ?_ s2 (r1.mono l2) r2
    rw [e3]
    intro W3 z H3 l3 s3 r3
    cases r3
    refine ⟨b1, rfl, ?_⟩
    have p4 := p3.mono l3
    cases b1 with
    | true => exact iteT (Den.step p4 s3 (n2.mono l3) fun u S4 W4 z H4 e4 l4 s4 n4 r4 p4 => cmp_any ok.K ok.hu p4 s4 (r2.mono (l3.trans l4)) r4)
    | false => exact iteF (post_t p4 s3 (.bl false))
  | .not a, e, h => by
    obtain ⟨x, p, rfl, h1⟩ := iv_not h
    refine PE.imp (pe_notT (sE ok a x h1)) fun σ H Q ⟨W, env, S, sm, er, q⟩ => Den.step q sm er fun v S1 W1 x H1 e1 l1 s1 n1 r1 p1 => ?_
    obtain ⟨b, hb, p2⟩ := truV_st p1 s1 r1
    exact ⟨b, by rw [ok.K]; exact hb, post_t p2 s1 (.bl _)⟩
  | .ands es, e, h => by
    obtain ⟨vs, p, rfl, h1⟩ := iv_ands h
    exact sAndE ok es vs p h1
  | .ors es, e, h => by
    obtain ⟨vs, p, rfl, h1⟩ := iv_ors h
    exact sOrE ok es vs p h1
  | .ife t a b, e, h => by
    obtain ⟨c, x, y, p, rfl, h1, h2, h3⟩ := iv_ife h
    refine PE.imp (pe_ifExp (sC ok t c h1) (sE ok a x h2) (sE ok b y h3)) fun σ H Q ⟨W, env, S, sm, er, q⟩ => Den.step q sm er fun v S1 W1 b1 H1 e1 l1 s1 n1 r1 p1 => ?_
    have r1 : b1 = v := r1
    subst r1
    cases b1 with
    | true => exact iteT (Den.last p1 s1 n1)
    | false => exact iteF (Den.last p1 s1 n1)
  | .tup es, e, h => by
    obtain ⟨xs, kk, p, rfl, h1, h2⟩ := iv_tup h
    exact PE.imp (pe_tup (sEs ok es xs h1 h2)) fun σ H Q ⟨W, env, S, sm, er, q⟩ => Den.step q sm er fun vs S1 W1 ys H1 e1 l1 s1 n1 r1 p1 => tupV_post p1 s1 r1
  | .lst m es, e, h => by
    obtain ⟨xs, p, rfl, h1, h2⟩ := iv_lst h
    exact PE.imp (pe_lst (sEs ok es xs h1 h2)) fun σ H Q ⟨W, env, S, sm, er, q⟩ => Den.step q sm er fun vs S1 W1 ys H1 e1 l1 s1 n1 r1 p1 => dispL_post p1 s1 r1
  | .sub a i, e, h => by
    obtain ⟨x, y, p, rfl, h1, h2, h3⟩ := iv_sub h
    exact PE.imp (pe_ix IxR.any (sE ok a x h1) (sE ok i y h2) (isSlc_ok h3)) fun σ H Q ⟨W, env, S, sm, er, q⟩ =>
      Den.step q sm er fun v S1 W1 x H1 e1 l1 s1 n1 r1 p1 => Den.step p1 s1 n1 fun w S2 W2 y H2 e2 l2 s2 n2 r2 p2 => sub_any ok.K (by have := ok.hu; omega) p2 s2 (r1.mono l2) r2
  | .slc m a lo hi, e, h => by
    obtain ⟨x, l, u, p, q, rfl, h1, h2, h3⟩ := iv_slc h
    refine PE.imp (pe_slice (SlR.any X) (sE ok a x h1) (sO lo l (fun x h => sE ok lo x h) h2) (sO hi u (fun x h => sE ok hi x h) h3)) fun σ H Q ⟨W, env, S, sm, er, q⟩ =>
      Den.step q sm er fun v S1 W1 x H1 e1 l1 s1 n1 r1 p1 => Den.step (f := fun env S => if isNo lo then .ok none S else (dE G.tab call lo env S).bind fun y S => optI y S) p1 s1 n1 fun w S2 W2 y H2 e2 l2 s2 n2 r2 p2 =>
        Den.step (f := fun env S => if isNo hi then .ok none S else (dE G.tab call hi env S).bind fun y S => optI y S) p2 s2 n2 fun w2 S3 W3 y2 H3 e3 l3 s3 n3 r3 p3 => ?_
    have r2 : y = w := r2
    have r3 : y2 = w2 := r3
    subst r2 r3
    exact slc_any ok p3 s3 (r1.mono (l2.trans l3))
  | .rev m a, e, h => by
    obtain ⟨x, k, p1, p2, p3, q, rfl, h1⟩ := iv_rev h
    exact PE.imp (pe_revL (sE ok a x h1)) fun σ H Q ⟨W, env, S, sm, er, q⟩ => Den.step q sm er fun v S1 W1 x H1 e1 l1 s1 n1 r1 p1 => rev_post ok p1 s1 r1
  | .fld o f, e, h => by
    obtain ⟨x, p, rfl, h1, h2⟩ := iv_fld h
    rw [ok.nm]
    refine PE.imp (pe_fld (sE ok o x h1) (abase h2)) fun σ H Q ⟨W, env, S, sm, er, q⟩ => Den.step q sm er fun v S1 W1 x H1 e1 l1 s1 n1 r1 p1 => ?_
    rcases fldV_no (tab := G.tab) (f := f) (a := v) (S := S1) with ⟨w, e⟩ | e
    · have p1 : PostV G Wx σ W1 (fldV G.tab v f S1) Q := p1
      rw [e] at p1
      obtain ⟨ad, Cc, dx, gs, y, z1, z2, z3, z4, z5, z6, _⟩ := fld_any ok e s1 r1
      exact ⟨ad, _, dx, gs, y, z1, z2, z3, z4, z5, Post.ok p1 s1 z6⟩
    · have p1 : PostV G Wx σ W1 (fldV G.tab v f S1) Q := p1
      rw [e] at p1
      exact (show False from p1).elim
  | .call f es, e, h => by
    obtain ⟨p, ys, q, rfl, h1, h2, h3, h4, h5, h6, hcm⟩ := iv_call h
    rw [ok.nm] at h1 h2 ⊢
    cases ys with
    | nil => exact pe_def0 ok hcm (ok.kindOf h1) h6 h5 h3 (okN_1 h2)
    | cons y ys => exact pe_def ok hcm (ok.kindOf h1) h6 h5 (sEs ok es (y :: ys) h3 h4) h4 h3 (okN_1 h2)
  | .new c es, e, h => by
    obtain ⟨p, ys, q, rfl, h1, h2, h3, h4, h5, hcm⟩ := iv_new h
    rw [ok.nm] at h1 h2 ⊢
    exact pe_newR ok hcm (ok.kindOf h1) h5 (sEs ok es ys h3 h4) h4 h3 (okN_1 h2)
  | .meth o f es, e, h => by
    obtain ⟨x, ap, ys, q, rfl, h1, h2, h3, h4, h5, h6, hcm⟩ := iv_meth h
    rw [ok.nm]
    exact pe_methR ok hcm (sE ok o x h1) (sEs ok es ys h3 h4) h2 h4 h3 (by omega) h6
  | .blt b m es, e, h => by
    obtain ⟨p, y, ys, q, rfl, h1, h2, h3, h4, h5⟩ := iv_blt h
    exact PE.imp (pe_blt ok (CallR.any _) (ok.kindOf h1) (sEs ok es (y :: ys) h3 h4) h4 (okN_3 h2) (okN_1 h2)) fun σ H Q ⟨W, env, S, sm, er, q⟩ =>
      Den.step q sm er fun vs S1 W1 xs H1 e1 l1 s1 n1 r1 p1 => blt_any ok (fun z => ok.calm (h5 z)) p1 s1 r1
  | .isi a many ts, e, h => by
    have fr : X.mg ("isinstance" : Str) = none := by
      rw [ok.mg]
      exact ok.free _ (by decide +kernel)
    rcases iv_isi h with ⟨t, p, y, z, q, r, rfl, rfl, rfl, hr, h1, h2, h3, h4, h5, h6, h7⟩ | ⟨p, y, zs, kk, z, q, rfl, rfl, h1, h2, h3, h4, h5, h6, hne, hsz⟩
    · subst hr
      rw [ok.nm] at h5 h6 ⊢
      rw [ok.tab] at h7
      refine PE.imp (pe_callB (CallR.any (.builtin "isinstance")) (ok.kindOf h1) fr (by decide +kernel) (pa_cons (sE ok a y h3) (pa_cons (pe_ty ok (ok.kindOf h5) h7 (okN_3 h6) (okN_1 h6)) pa_nil rfl) (star_cons X.env h4)) (okN_3 h2) (okN_1 h2) (star_cons X.env h4) rfl) ?_
      rintro σ H Q ⟨W, env, S, sm, er, q⟩
      exact Den.step q sm er fun v S1 W1 x H1 e1 l1 s1 n1 r1 p1 => ⟨_, call_isi, by rw [ok.K]; exact isi_1 ok p1 s1 r1⟩
    · refine PE.imp (pe_callB (CallR.any (.builtin "isinstance")) (ok.kindOf h1) fr (by decide +kernel) (pa_cons (sE ok a y h3) (pa_cons (pe_tup (pa_tys ok h5 h6)) pa_nil rfl) (star_cons X.env h4)) (okN_3 h2) (okN_1 h2) (star_cons X.env h4) rfl) ?_
      rintro σ H Q ⟨W, env, S, sm, er, q⟩
      refine Den.step q sm er fun v S1 W1 x H1 e1 l1 s1 n1 r1 p1 => ⟨by rw [List.length_map]; exact Nat.le_trans hsz (by decide), fun tp htp => ⟨_, call_isiT, ?_⟩⟩
      rw [ok.K]
      exact isi_t ok hne (p1.mono (Wd.le_addF s1 htp (.tup (ts.map (tyW G))))) (s1.addF htp _) (r1.mono (Wd.le_addF s1 htp _)) upd_same
  | .exIs i many ts, e, h => pe_exIs ok h
  | .hot f i, e, h => pe_hot ok h
  | .dct0, e, h => by
    obtain ⟨p, rfl⟩ := dct0P_ok h
    exact PE.imp pe_dnewK fun σ H Q ⟨W, env, S, sm, er, q⟩ => fun a ha => q (W.addF a (.dK [])) (.ref a) _ (Wd.le_addF sm ha _) (sm.addF ha _) (.dct upd_same .nil)
  | .dct1 k v, e, h => by
    obtain ⟨a, b, c, d, p, rfl⟩ := dct1P_ok (of_decide_eq_true h)
    refine PE.imp (pe_disp (trs := [(tC (.int k), tC (.int v))]) (pps_cons pe_int pe_int pps_nil) rfl rfl (fun z => nomatch z) (by show 1 ≤ 15; decide)) fun σ H Q ⟨W, env, S, sm, er, q⟩ => fun a ha => ?_
    show _ ∧ _
    refine ⟨upd_same, [(.inl k, .int v)], rfl, (by show 1 ≤ 15; decide), ?_⟩
    rw [upd_upd]
    exact q (W.addF a (.dK [(.inl k, .int v)])) (.ref a) _ (Wd.le_addF sm ha _) (sm.addF ha _) (.dct upd_same (.cons (.int v) .nil))
  | .dctD m ks es, e, h => by
    obtain ⟨keys, values, p, rfl, h1, h2, h3, h4, h5, h6⟩ := iv_dctD h
    obtain ⟨l1, l2⟩ := keysB_len h1
    refine PE.imp (pe_disp (sPP ok p es ks keys values h1 h2 h3) l2 h3 (fun z => ?_) (by rw [l1]; exact h5)) fun σ H Q d => disp_post (by rw [← l1, h3, chkEs_ln h2]) h4 h5 d
    rw [z] at l1
    rw [List.length_eq_zero_iff.mp l1.symm] at h6
    cases h6
  | .upd o a, e, h => by
    obtain ⟨x, ap, y, q, rfl, h1, h2, h3, h4, h5⟩ := iv_upd h
    have hn : noStar [y] = true := by show (!isStar y && true) = true; rw [h4]; rfl
    refine PE.imp (pe_bm PySem.F.plainAttrs_dict PySem.F.slot_dict_update PySem.F.type_dict_update mt_update (sE ok o x h1) (pa_cons (sE ok a y h3) pa_nil (star_cons X.env h4)) (abase h2) (few_ok hn (by show 1 < 30; decide)) h5 (star_cons X.env h4) rfl) fun σ H Q ⟨W, env, S, sm, er, q⟩ =>
      Den.step q sm er fun v S1 W1 x H1 e1 l1 s1 n1 r1 p1 => ?_
    have p1 : PostV G Wx σ W1 (if dctB v S1 then (dE G.tab call a env S1).bind fun y S => updV v y S else .bad) Q := p1
    cases v with
    | t t => exact (show False from p1).elim
    | r n =>
      obtain ⟨hn1, ex⟩ := r1
      subst ex
      split at p1
      · rename_i c
        have c : (match S1[n]? with
          | some (.dct _) => true
          | _ => false) = true := c
        refine ⟨?_, Den.step p1 s1 n1 fun w S2 W2 z H2 e2 l2 s2 n2 r2 p2 => ?_⟩
        · split at c
          · rename_i kvs hc
            obtain ⟨gs, ho, _⟩ := cell_dct s1 hc
            exact .inr (.inr (.inl ⟨rfl, .inl ⟨gs, ho⟩⟩))
          · cases c
        · exact upd_any p2 s2 ⟨Nat.lt_of_lt_of_le hn1 l2.n, by rw [l2.at_ n hn1]⟩ r2
      · exact (show False from p1).elim
  | .inRg neg a b, e, h => by
    obtain ⟨l, p2, y, q, p, rfl, h1, h2, h3, h4⟩ := iv_inRg h
    have fr : X.mg ("range" : Str) = none := by
      rw [ok.mg]
      exact ok.free _ (by decide +kernel)
    refine PE.imp (pe_cmpR (op_rg neg) (sE ok a l h2) (pe_callTy cr_range1 (ok.kindOf h1) fr (by decide +kernel) (pa_cons (sE ok b y h3) pa_nil (star_cons X.env h4)) (by decide +kernel) (by decide +kernel) (star_cons X.env h4) rfl) (by cases neg <;> rfl)) fun σ H Q ⟨W, env, S, sm, er, q⟩ =>
      Den.step q sm er fun v S1 W1 x H1 e1 l1 s1 n1 r1 p1 => Den.step p1 s1 n1 fun w S2 W2 y H2 e2 l2 s2 n2 r2 p2 => ?_
    have p2 : PostV G Wx σ W2 (inRgV neg v w S2) Q := p2
    unfold inRgV at p2
    split at p2
    · cases r1
      cases r2
      refine ⟨_, rfl, fun p hp => ⟨_, _, _, _, rfl, rfl, upd_same, ?_⟩⟩
      exact post_t (p2.mono (Wd.le_addF s2 hp _)) (s2.addF hp _) (.bl _)
    · exact (show False from p2).elim
  | .listRg a, e, h => by
    obtain ⟨p, p2, y, q, q2, rfl, h1, h2, h3, h4, h5⟩ := iv_listRg h
    have fr : ∀ x : Str, x ∈ ["list", "range"].map Str.ofString → X.mg x = none := fun x hx => by
      rw [ok.mg]
      refine ok.free x ?_
      have : ∀ y ∈ ["list", "range"].map Str.ofString, y ∈ ["len", "int", "str", "min", "max", "abs", "list", "tuple", "all", "any", "sum", "divmod", "sorted", "bool", "isinstance", "range", "enumerate", "zip", "dict", "set", "ValueError"].map Str.ofString := by decide +kernel
      exact this x hx
    refine PE.imp (pe_listRg (ok.calm h5) (ok.kindOf h1) (fr _ (by decide +kernel)) (prg_1 (ok.kindOf h2) (fr _ (by decide +kernel)) (sE ok a y h3) (star_cons X.env h4)) rfl) fun σ H Q ⟨W, env, S, sm, er, q⟩ =>
      Den.step q sm er fun v S1 W1 x H1 e1 l1 s1 n1 r1 p1 => ?_
    have p1 : PostV G Wx σ W1 (match (generalizing := false) v with
      | .t (.int n) => if 0 ≤ n ∧ n ≤ 16777216 then alloc false (rng 0 n) S1 else .bad
      | _ => .bad) Q := p1
    cases v with
    | r n => exact (show False from p1).elim
    | t t =>
      cases t with
      | int n =>
        cases r1
        have p1 : PostV G Wx σ W1 (if 0 ≤ n ∧ n ≤ 16777216 then alloc false (rng 0 n) S1 else .bad) Q := p1
        by_cases c : 0 ≤ n ∧ n ≤ 16777216
        · rw [if_pos c] at p1
          exact ⟨n, rfl, RgOk.of_le (by decide) c.2 (by decide) c.1, (alloc_post p1 s1 (rg_rep n)).2⟩
        · rw [if_neg c] at p1
          exact (show False from p1).elim
      | _ => exact (show False from p1).elim
  | .cix g a, e, h => by
    obtain ⟨p, ap, y, cp, rfl, h1, h2, h3, h4, h5, h6⟩ := iv_cix h
    rw [ok.nm] at h1 h2 ⊢
    rw [ok.tab] at h6
    obtain ⟨ts, ys, z, hs⟩ := isStrs_ok h6
    obtain ⟨v, u, e1, e2, e3, e4⟩ := ok.con g _ z
    obtain ⟨p0, o, rfl, k1, k2, k3⟩ := e4 ts rfl
    have hn : noStar [y] = true := by show (!isStar y && true) = true; rw [h4]; rfl
    refine PE.imp (pe_bm PySem.F.plainAttrs_tuple PySem.F.slot_tuple_index PySem.F.type_tuple_index mt_tup_index (pe_glob (ok.kindOf h1) (by rw [ok.mg]; exact e1) e2 (okN_1 h2)) (pa_cons (sE ok a y h3) pa_nil (star_cons X.env h4)) rfl (few_ok hn (by show 1 < 30; decide)) h5 (star_cons X.env h4) rfl) fun σ H Q ⟨W, env, S, sm, er, q⟩ => ?_
    refine ⟨.inr (.inl ⟨rfl, o, by rw [ok.K]; exact k1, k2, k3⟩), ?_⟩
    refine Den.step q sm er fun v S1 W1 x H1 e1 l1 s1 n1 r1 p1 => ?_
    have p1 : PostV G Wx σ W1 (cixV (G.tab.con g) v S1) Q := p1
    rw [z] at p1
    unfold cixV at p1
    split at p1
    · rename_i ts' z' heq _
      cases heq
      cases r1
      rw [hs] at p1
      have p1 : PostV G Wx σ W1 (match ys.findIdx? (fun y => y == z') with
        | some j => .ok (.t (.int (j : Nat))) S1
        | none => .bad) Q := p1
      cases hj : ys.findIdx? (fun y => y == z') with
      | none => rw [hj] at p1; exact (show False from p1).elim
      | some j =>
        rw [hj] at p1
        obtain ⟨hl, j1, j2⟩ := List.findIdx?_eq_some_iff_getElem.mp hj
        have er := e3 W1.F
        cases er with
        | tup hF rl =>
          have ev := strsT_rep hs rl
          subst ev
          refine ⟨p0, ys, z', j, rfl, rfl, by rw [ok.K]; exact sameT s1.fz hF, ?_, fun m hm hz => ?_, post_t p1 s1 (.int _)⟩
          · rw [List.getElem?_eq_getElem hl]
            exact congrArg some (eq_of_beq j1)
          · have hml : m < ys.length := by omega
            rw [List.getElem?_eq_getElem hml] at hz
            have := j2 m hm
            rw [Option.some.inj hz] at this
            simp at this
    · exact (show False from p1).elim
  | .join a b, e, h => by
    obtain ⟨x, y, ap, cp, rfl, h1, h⟩ := iv_m1 h
    obtain ⟨h2, h⟩ := ba h
    obtain ⟨h3, h⟩ := ba h
    obtain ⟨h4, h5⟩ := ba h
    have hn : noStar [y] = true := by show (!isStar y && true) = true; rw [h5]; rfl
    refine PE.imp (pe_bm PySem.F.plainAttrs_str PySem.F.slot_str_join PySem.F.type_str_join mt_join (sE ok a x h2) (sEs ok b [y] h4 hn) (abase (nb h3)) (few_ok hn (by show 1 < 30; decide)) h1 (star_cons X.env (nb h5)) rfl) fun σ H Q ⟨W, env, S, sm, er, q⟩ => ?_
    refine Den.step q sm er fun v S1 W1 z H1 e1 l1 s1 n1 r1 p1 => ?_
    have no : ∀ {P : Prop} {W : Wd}, PostV G Wx σ W .bad Q → P := fun z => (show False from z).elim
    have p1 : PostV G Wx σ W1 (if strB v then (dEs G.tab call b env S1).bind fun vs S => joinV v vs S else .bad) Q := p1
    cases v with
    | r n => exact no p1
    | t t => cases t with
      | str t =>
        cases r1
        refine ⟨rfl, Den.step p1 s1 n1 fun ws S2 W2 xs H2 e2 l2 s2 n2 r2 p2 => ?_⟩
        exact join_post ok.K p2 s2 r2
      | _ => exact no p1
  | .tcount a b, e, h => by
    obtain ⟨x, y, ap, cp, rfl, h1, h⟩ := iv_m1 h
    obtain ⟨h2, h⟩ := ba h
    obtain ⟨h3, h⟩ := ba h
    obtain ⟨h4, h5⟩ := ba h
    have hn : noStar [y] = true := by show (!isStar y && true) = true; rw [h5]; rfl
    refine PE.imp (pe_bm PySem.F.plainAttrs_str PySem.F.slot_str_count PySem.F.type_str_count mt_count (sE ok a x h2) (sEs ok b [y] h4 hn) (abase (nb h3)) (few_ok hn (by show 1 < 30; decide)) h1 (star_cons X.env (nb h5)) rfl) fun σ H Q ⟨W, env, S, sm, er, q⟩ => ?_
    refine Den.step q sm er fun v S1 W1 z H1 e1 l1 s1 n1 r1 p1 => ?_
    have no : ∀ {P : Prop} {W : Wd}, PostV G Wx σ W .bad Q → P := fun z => (show False from z).elim
    have p1 : PostV G Wx σ W1 (if strB v then (dEs G.tab call b env S1).bind fun vs S => tcountV v vs S else .bad) Q := p1
    cases v with
    | r n => exact no p1
    | t t => cases t with
      | str t =>
        cases r1
        refine ⟨rfl, Den.step p1 s1 n1 fun ws S2 W2 xs H2 e2 l2 s2 n2 r2 p2 => ?_⟩
        unfold tcountV at p2
        split at p2
        · rename_i heq
          cases heq
          obtain ⟨w, rfl, rw'⟩ := one_arg r2
          cases rw'
          exact ⟨_, _, rfl, rfl, post_t p2 s2 (.int _)⟩
        · exact no p2
      | _ => exact no p1
  | .dget g a, e, h => by
    obtain ⟨x, y, ap, cp, rfl, h1, h⟩ := iv_m1 (P := fun d y => match nameP d with
      | some x => glB C.sc x && (okN x && (decide (x = C.nm.dcN g) && (chkE C a y && (!isStar y && (C.tab.dc g).isSome))))
      | none => false) h
    have h : (match nameP x with
      | some x => glB C.sc x && (okN x && (decide (x = C.nm.dcN g) && (chkE C a y && (!isStar y && (C.tab.dc g).isSome))))
      | none => false) = true := h
    cases hx : nameP x with
    | none => rw [hx] at h; cases h
    | some nm =>
      rw [hx] at h
      have h : (glB C.sc nm && (okN nm && (decide (nm = C.nm.dcN g) && (chkE C a y && (!isStar y && (C.tab.dc g).isSome))))) = true := h
      obtain ⟨p, rfl⟩ := nameP_ok hx
      obtain ⟨h2, h⟩ := ba h
      obtain ⟨h3, h⟩ := ba h
      obtain ⟨h4, h⟩ := ba h
      obtain ⟨h5, h⟩ := ba h
      obtain ⟨h6, h7⟩ := ba h
      have h4 := of_decide_eq_true h4
      subst h4
      rw [ok.nm] at h2 h3 ⊢
      rw [ok.tab] at h7
      obtain ⟨kvs, hk⟩ := Option.isSome_iff_exists.mp h7
      obtain ⟨d, es, n, e1, e2, e3⟩ := (ok.dc g kvs hk).ex
      have hn : noStar [y] = true := by show (!isStar y && true) = true; rw [h6]; rfl
      refine PE.imp (pe_dgetK (kvs := kvs) ok.hu (by rw [ok.K, ok.w]; exact e2) (by rw [ok.K]; exact e3) (pe_glob (ok.kindOf h2) (by rw [ok.mg]; exact e1) rfl (okN_1 h3)) (sE ok a y h5) ⟨rfl, few_ok hn (by show 1 < 30; decide), h1, star_one X.env (nb h6)⟩) fun σ H Q ⟨W, env, S, sm, er, q⟩ => ?_
      refine Den.step q sm er fun v S1 W1 z H1 e1 l1 s1 n1 r1 p1 => ?_
      have p1 : PostV G Wx σ W1 (dgetV (G.tab.dc g) v S1) Q := p1
      rw [hk] at p1
      have no : ∀ {P : Prop} {W : Wd}, PostV G Wx σ W .bad Q → P := fun z => (show False from z).elim
      cases v with
      | r n => exact no p1
      | t t => cases t with
        | str t =>
          cases r1
          refine ⟨t, rfl, fun v hv => ?_⟩
          have p1 : PostV G Wx σ W1 (.ok (.t ((kvs.lookup t).getD .non)) S1) Q := p1
          exact post_t p1 s1 (flV_rep hv)
        | _ => exact no p1
  | .lenSet a, e, h => by
    obtain ⟨p, p2, y, q, q2, rfl, h1, h2, h3, h4, h5⟩ := iv_lenSet h
    have fr : ∀ x : Str, x ∈ ["len", "set"].map Str.ofString → X.mg x = none := fun x hx => by
      rw [ok.mg]
      refine ok.free x ?_
      have : ∀ y ∈ ["len", "set"].map Str.ofString, y ∈ ["len", "int", "str", "min", "max", "abs", "list", "tuple", "all", "any", "sum", "divmod", "sorted", "bool", "isinstance", "range", "enumerate", "zip", "dict", "set", "ValueError"].map Str.ofString := by decide +kernel
      exact this x hx
    refine PE.imp (RZ.pe_lenSetI (ok.kindOf h1) (fr _ (by decide +kernel)) (ok.kindOf h2) (fr _ (by decide +kernel)) (sE ok a y h3) (ok.calm h5) (star_cons X.env h4)) fun σ H Q ⟨W, env, S, sm, er, q⟩ =>
      Den.step q sm er fun v S1 W1 x H1 e1 l1 s1 n1 r1 p1 => ?_
    have p1 : PostV G Wx σ W1 (lenSetV v S1) Q := p1
    unfold lenSetV at p1
    cases e2 : listV S1 v with
    | none => rw [e2] at p1; exact (show False from p1).elim
    | some ws =>
      rw [e2] at p1
      obtain ⟨l, us, rfl, hs, rp⟩ := listV_rep s1 r1 e2
      cases e3 : allI ws with
      | none =>
        have p1 : PostV G Wx σ W1 (match allI ws with
          | some ns => if nodupI ns && decide (ns.length ≤ 4000) then .ok (.t (.int ns.length)) S1 else .bad
          | none => .bad) Q := p1
        rw [e3] at p1
        exact (show False from p1).elim
      | some ns =>
        have p1 : PostV G Wx σ W1 (match allI ws with
          | some ns => if nodupI ns && decide (ns.length ≤ 4000) then .ok (.t (.int ns.length)) S1 else .bad
          | none => .bad) Q := p1
        rw [e3] at p1
        have p1 : PostV G Wx σ W1 (if nodupI ns && decide (ns.length ≤ 4000) then .ok (.t (.int ns.length)) S1 else .bad) Q := p1
        split at p1
        · rename_i c
          have e4 := allI_rep rp e3
          subst e4
          exact ⟨l, ns, rfl, by rw [ok.K]; exact hs, nodupI_ok (ba c).1, of_decide_eq_true (ba c).2, post_t p1 s1 (.int _)⟩
        · exact (show False from p1).elim
  | .bm b m o es, e, h => by
    obtain ⟨x, ap, ys, q, rfl, h1, h2, h3, h4, h5, h6⟩ := iv_bm h
    obtain ⟨slot, ty⟩ := bm_rule b
    cases ys with
    | nil =>
      cases es with
      | cons _ _ => cases h3
      | nil =>
        refine PE.imp (pe_bm0 PySem.F.plainAttrs_list slot ty (MtR.any X _) (sE ok o x h1) (abase h2) h6) fun σ H Q ⟨W, env, S, sm, er, q⟩ => Den.step q sm er fun v S1 W1 x H1 e1 l1 s1 n1 r1 p1 => ?_
        have p1 : PostV G Wx σ W1 (if cellB v S1 then bmV b v [] S1 else .bad) Q := p1
        split at p1
        · rename_i c
          exact ⟨cell_ty ok.K c s1 r1, bm_any (ws := []) p1 s1 r1 .nil⟩
        · exact (show False from p1).elim
    | cons y ys =>
      refine PE.imp (pe_bm PySem.F.plainAttrs_list slot ty (MtR.any X _) (sE ok o x h1) (sEs ok es (y :: ys) h3 h4) (abase h2) (few_ok h4 (by have := bmA_len h5; omega)) h6 (star_cons X.env (nb (ba h4).1)) (star_any (ba h4).2)) fun σ H Q ⟨W, env, S, sm, er, q⟩ => Den.step q sm er fun v S1 W1 x H1 e1 l1 s1 n1 r1 p1 => ?_
      have p1 : PostV G Wx σ W1 (if cellB v S1 then (dEs G.tab call es env S1).bind fun vs S => bmV b v vs S else .bad) Q := p1
      split at p1
      · rename_i c
        exact ⟨cell_ty ok.K c s1 r1, Den.step p1 s1 n1 fun vs S2 W2 ys H2 e2 l2 s2 n2 r2 p2 => bm_any p2 s2 (r1.mono l2) r2⟩
      · exact (show False from p1).elim
  | .comp m kk src many tg ifs elt, e, h => by
    obtain ⟨x, t, it, xs, scope, p, rfl, h1, h2, h3, h4, h5, h6⟩ := iv_comp h
    have own : (ownOf C.N tg).map (·.2) = tg := by
      unfold ownOf
      rw [List.map_map]
      exact List.map_id tg
    have z := pe_lc (pos := p) (ok.calm h6) ok.nd (sIt ok kk src it t h1) (blkOk_by (by rw [ok.N, ok.sc]; exact h2)) (fun s H c cl fp => sTg (ok.blk h6 s H c cl fp scope) h3) (fun s H c cl fp => sIfs (ok.blk h6 s H c cl fp scope) ifs xs h4) (fun s H c cl fp => sE (ok.blk h6 s H c cl fp scope) elt x h5) (it_noset h1 X.env)
    rw [own] at z
    exact PE.imp z fun σ H Q d => lc_post d
theorem sIfs {C : Ck} {X : Cx} {Wx : WX} (ok : XOk G C X Wx k call) : ∀ (cs : ICs) (es : List Expr), chkIfs C cs es = true → PTs X es (tAndC G Wx call cs)
  | .nil, [], _ => ⟨fun pins s σ H Q I ⟨W, env, S, sm, er, q⟩ => pts_nil.run pins s σ H Q I (Post.ok (rep := fun _ (b k : Bool) => b = k) q sm rfl)⟩
  | .cons c .nil, [x], h => ⟨fun pins s σ H Q I ⟨W, env, S, sm, er, q⟩ => (pts_one (sC ok c x h)).run pins s σ H Q I (by
      refine Den.step q sm er fun v S1 W1 b1 H1 e1 l1 s1 n1 r1 p1 => ?_
      have r1 : b1 = v := r1
      subst r1
      cases b1 <;> exact Post.ok (rep := fun _ (b k : Bool) => b = k) p1 s1 rfl)⟩
  | .nil, _ :: _, h => by cases h
  | .cons _ .nil, [], h => by cases h
  | .cons _ .nil, _ :: _ :: _, h => by cases h
  | .cons _ (.cons _ _), _, h => by cases h
theorem sIt {C : Ck} {X : Cx} {Wx : WX} (ok : XOk G C X Wx k call) : ∀ (kk : ItK) (src : IEs) (it : Expr) (tg : Expr), chkIt C tg kk src it = true → PI X tg it (iSrc G Wx call kk src)
  | .seq, .cons a .nil, it, tg, h => by
    have h : (chkE C a it && !isSet it) = true := h
    refine ⟨fun pins s σ H R I ⟨W, env, S, sm, er, q⟩ => ?_⟩
    have q : Post G (fun W J its => Wlk G W J its) Wx σ W (((dE G.tab call a env S).bind fun v S => .ok [v] S).bind fun vs S => items .seq vs S) R := q
    rw [bind_assoc] at q
    rcases Classical.em (∃ xs S1, dE G.tab call a env S = .ok (.t (.tup xs)) S1) with ⟨us, U1, eu⟩ | nt
    · refine (pi_tup (sE ok a it (ba h).1)).run pins s σ H R I ?_
      refine Den.step q sm er fun v S1 W1 x H1 e1 l1 s1 n1 r1 p1 => ?_
      rw [eu] at e1
      cases e1
      cases r1 with
      | @tup ad vs _ hF rl =>
        refine ⟨ad, rfl, ⟨vs, by rw [ok.K]; exact sameT s1.fz hF⟩, ?_⟩
        rw [ok.K]
        exact Post.ok (rep := fun W J its => Wlk G W J its) p1 s1 (wlk_tup (fun W' S' H' l s => sameT (l.f.trans s.fz) hF) (vals_repL (vs := []) rl))
    · refine (pi_list (sE ok a it (ba h).1)).run pins s σ H R I ?_
      refine Den.step q sm er fun v S1 W1 x H1 e1 l1 s1 n1 r1 p1 => ?_
      cases v with
      | r n =>
        obtain ⟨hn, ex⟩ := r1
        subst ex
        have p1 : Post G (fun W J its => Wlk G W J its) Wx σ W1 (match S1[n]? with
          | some (.lst ws) => .ok (ws, some (n, ws)) S1
          | _ => .bad) R := p1
        cases qn : S1[n]? with
        | none => rw [qn] at p1; exact (show False from p1).elim
        | some c =>
          rw [qn] at p1
          cases c with
          | lst ws =>
            obtain ⟨_, _, o, ho, okc⟩ := s1.live n _ qn (by intro z; cases z)
            cases okc with
            | @lst vs _ hp =>
              refine ⟨_, rfl, ⟨vs, SqL.of ho⟩, ?_⟩
              rw [ok.K]
              exact Post.ok (rep := fun W J its => Wlk G W J its) p1 s1 (wlk_cell hn)
          | _ => exact (show False from p1).elim
      | t t =>
        cases t with
        | lst us =>
          cases r1 with
          | @lst ad vs _ hF rl =>
            refine ⟨ad, rfl, ⟨vs, SqL.of (s1.fz _ _ hF)⟩, ?_⟩
            rw [ok.K]
            exact Post.ok (rep := fun W J its => Wlk G W J its) p1 s1 (wlk_list (fun W' S' H' l s => SqL.of ((l.f.trans s.fz) _ _ hF)) (vals_repL (vs := []) rl))
        | scr ns =>
          cases r1 with
          | @scr ad _ hF =>
            refine ⟨ad, rfl, ⟨_, by rw [ok.K]; exact s1.fz.seq hF⟩, ?_⟩
            rw [ok.K]
            exact Post.ok (rep := fun W J its => Wlk G W J its) p1 s1 (wlk_list (fun W' S' H' l s => (l.f.trans s.fz).seq hF) (vals_ints ns))
        | tup us => exact (nt ⟨us, S1, e1⟩).elim
        | _ => exact (show False from p1).elim
  | .range, .cons a .nil, it, tg, h => by
    obtain ⟨p, y, q, rfl, h1, h2, h3⟩ := iv_rng1 h
    have hfree : X.mg ("range" : Str) = none := by
      rw [ok.mg]
      exact ok.free _ (by decide +kernel)
    have hn : noStar [y] = true := by show (!isStar y && true) = true; rw [h3]; rfl
    refine ⟨fun pins s σ H R I ⟨W, env, S, sm, er, q⟩ => (pi_range1 (ok.kindOf h1) hfree (pa1 (sE ok a y h2) h3) (star_cons X.env h3)).run pins s σ H R I ?_⟩
    refine Den.step q sm er fun ws S1 W1 xs H1 e1 l1 s1 n1 r1 p1 => ?_
    have hl := dEs_len e1
    cases ws with
    | nil => cases hl
    | cons w ws =>
      cases ws with
      | cons _ _ => cases hl
      | nil =>
        obtain ⟨v, rfl, rv⟩ := one_arg r1
        cases w with
        | r n => exact (show False from p1).elim
        | t t =>
          cases t with
          | int n =>
            cases rv
            have p1 : Post G (fun W J its => Wlk G W J its) Wx σ W1 (if rngOk n then .ok (rng 0 n, none) S1 else .bad) R := p1
            split at p1
            · rename_i c
              obtain ⟨b1, b2⟩ := rngOk_ok c
              refine ⟨n, rfl, b1, b2, ?_⟩
              have z := wlk_rng (G := G) (W := W1) (lo := 0) (hi := n)
              rw [Int.sub_zero] at z
              exact Post.ok (rep := fun W J its => Wlk G W J its) p1 s1 z
            · exact (show False from p1).elim
          | _ => exact (show False from p1).elim
  | .range, .cons a (.cons b .nil), it, tg, h => by
    obtain ⟨p, y, z, q, rfl, h1, h2, h3, h4, h5⟩ := iv_rng2 h
    have hfree : X.mg ("range" : Str) = none := by
      rw [ok.mg]
      exact ok.free _ (by decide +kernel)
    have hn : noStar [y, z] = true := by show (!isStar y && (!isStar z && true)) = true; rw [h4, h5]; rfl
    refine ⟨fun pins s σ H R I ⟨W, env, S, sm, er, q⟩ => (pi_range2 (ok.kindOf h1) hfree (pa2 (sE ok a y h2) (sE ok b z h3) h4 h5) (by rw [star_cons X.env h4, star_cons X.env h5]; rfl) (star_cons X.env h5)).run pins s σ H R I ?_⟩
    refine Den.step q sm er fun ws S1 W1 xs H1 e1 l1 s1 n1 r1 p1 => ?_
    have hl := dEs_len e1
    cases ws with
    | nil => cases hl
    | cons w ws =>
      cases ws with
      | nil => cases hl
      | cons w2 ws =>
        cases ws with
        | cons _ _ => cases hl
        | nil =>
          obtain ⟨v, u, rfl, rv, ru⟩ := two_args r1
          cases w with
          | r n => exact (show False from p1).elim
          | t t =>
            cases t with
            | int m =>
              cases w2 with
              | r n => exact (show False from p1).elim
              | t t2 =>
                cases t2 with
                | int n =>
                  cases rv
                  cases ru
                  have p1 : Post G (fun W J its => Wlk G W J its) Wx σ W1 (if rngOk m && rngOk n then .ok (rng m n, none) S1 else .bad) R := p1
                  split at p1
                  · rename_i c
                    obtain ⟨b1, b2⟩ := rngOk_ok (ba c).1
                    obtain ⟨b3, b4⟩ := rngOk_ok (ba c).2
                    exact ⟨m, n, rfl, ⟨b1, b2, b3, b4⟩, Post.ok (rep := fun W J its => Wlk G W J its) p1 s1 wlk_rng⟩
                  · exact (show False from p1).elim
                | _ => exact (show False from p1).elim
            | _ => exact (show False from p1).elim
  | .zip, .cons a (.cons b .nil), it, tg, h => by
    obtain ⟨p, y, z, q, es, kk, tp, rfl, rfl, h1, h2, h3, h4, h5⟩ := iv_zip h
    have hfree : X.mg ("zip" : Str) = none := by
      rw [ok.mg]
      exact ok.free _ (by decide +kernel)
    refine ⟨fun pins s σ H R I ⟨W, env, S, sm, er, q⟩ => (pi_zipS (ok.kindOf h1) hfree (pa2 (sE ok a y h2) (sE ok b z h3) h4 h5) (by rw [star_cons X.env h4, star_cons X.env h5]) (by rw [star_cons X.env h5]; rfl)).run pins s σ H R I ?_⟩
    refine Den.step q sm er fun ws S1 W1 xs H1 e1 l1 s1 n1 r1 p1 => ?_
    have hl := dEs_len e1
    cases ws with
    | nil => cases hl
    | cons w1 ws =>
      cases ws with
      | nil => cases hl
      | cons w2 ws =>
        cases ws with
        | cons _ _ => cases hl
        | nil =>
          obtain ⟨v1, v2, rfl, ra, rb⟩ := two_args r1
          have no : ∀ {P : Prop}, Post G (fun W J its => Wlk G W J its) Wx σ W1 .bad R → P := fun z => (show False from z).elim
          cases w1 with
          | r n => exact no p1
          | t t1 =>
            cases t1 with
            | str x =>
              cases w2 with
              | r n => exact no p1
              | t t2 =>
                cases t2 with
                | tup ys =>
                  cases ra
                  cases rb with
                  | @tup ad vs _ hF rl =>
                    refine ⟨x, ad, vs, rfl, by rw [ok.K]; exact sameT s1.fz hF, ?_⟩
                    rw [ok.K]
                    exact Post.ok (rep := fun W J its => Wlk G W J its) p1 s1 (wlk_zip (fun W' S' H' l s => sameT (l.f.trans s.fz) hF) (vals_repL (vs := []) rl))
                | _ => exact no p1
            | _ => exact no p1
  | .seq, .nil, _, _, h => by cases h
  | .seq, .cons _ (.cons _ _), _, _, h => by cases h
  | .range, .nil, _, _, h => by cases h
  | .range, .cons _ (.cons _ (.cons _ _)), _, _, h => by cases h
  | .enum, src, it, _, h => absurd h (no_it C rfl)
  | .zip, .nil, it, _, h => by cases it <;> cases h
  | .zip, .cons _ .nil, it, _, h => by cases it <;> cases h
  | .zip, .cons _ (.cons _ (.cons _ _)), it, _, h => by cases it <;> cases h
theorem sEs {C : Ck} {X : Cx} {Wx : WX} (ok : XOk G C X Wx k call) : ∀ (ies : IEs) (es : List Expr), chkEs C ies es = true → noStar es = true → PA X es (tEs G Wx call ies)
  | .nil, [], _, _ => PA.imp pa_nil fun σ H Q ⟨W, env, S, sm, er, q⟩ => Post.ok (rep := fun W => Paired (RepV G W)) q sm .nil
  | .cons e es, x :: xs, h, hs => PA.imp (pa_cons (sE ok e x (ba h).1) (sEs ok es xs (ba h).2 (ba hs).2) (star_cons X.env (nb (ba hs).1))) fun σ H Q ⟨W, env, S, sm, er, q⟩ =>
      Den.step q sm er fun v S1 W1 x H1 e1 l1 s1 n1 r1 p1 => Den.step p1 s1 n1 fun ws S2 W2 ys H2 e2 l2 s2 n2 r2 p2 => Post.ok (rep := fun W => Paired (RepV G W)) p2 s2 (.cons (r1.mono l2) r2)
  | .nil, _ :: _, h, _ => by cases h
  | .cons _ _, [], h, _ => by cases h
theorem sPP {C : Ck} {X : Cx} {Wx : WX} (ok : XOk G C X Wx k call) (pos : Pos) : ∀ (ies : IEs) (ks : List Key) (keys : List (Option Expr)) (es : List Expr), keysB ks keys = true → chkEs C ies es = true → keys.length = es.length → PPs X pos keys es (trsOf G Wx call ks ies)
  | .nil, ks, keys, [], h1, _, h3 => by
    rw [List.length_eq_zero_iff.mp h3] at h1 ⊢
    cases ks with
    | nil => exact pps_nil
    | cons k ks => cases k <;> cases h1
  | .cons e es, [], [], _ :: _, _, _, h3 => by cases h3
  | .cons e es, [], _ :: _, _, h1, _, _ => by cases h1
  | .cons e es, k :: ks, key :: keys, x :: xs, h1, h2, h3 => by
    obtain ⟨c, rfl, hc, h4⟩ := keysB_cons (X := X) h1
    exact pps_cons hc (sE ok e x (ba h2).1) (sPP ok pos es ks keys xs h4 (ba h2).2 (Nat.succ.inj h3))
  | .cons e es, .inl _ :: _, [], _, h1, _, _ => by cases h1
  | .cons e es, .inr _ :: _, [], _, h1, _, _ => by cases h1
  | .nil, _, _, _ :: _, _, h2, _ => by cases h2
  | .cons _ _, _, _, [], _, h2, _ => by cases h2
theorem sAndE {C : Ck} {X : Cx} {Wx : WX} (ok : XOk G C X Wx k call) : ∀ (ies : IEs) (es : List Expr) (pos : Pos), chkEs C ies es = true → PE X (.BoolOp .And es pos) (Den G (RepV G) Wx (dAndE G.tab call ies))
  | .nil, [], _, _ => ⟨fun pins s σ H Q I ⟨W, env, S, sm, er, q⟩ => (show False from q).elim⟩
  | .cons e .nil, [x], pos, h => pe_one (sE ok e x (ba h).1)
  | .cons e (.cons f fs), x :: y :: ys, pos, h => PE.imp (pe_andT (sE ok e x (ba h).1) (sAndE ok (.cons f fs) (y :: ys) pos (ba h).2)) fun σ H Q ⟨W, env, S, sm, er, q⟩ =>
      Den.step q sm er fun v S1 W1 x H1 e1 l1 s1 n1 r1 p1 => by
        obtain ⟨b, hb, p2⟩ := truV_st p1 s1 r1
        refine ⟨b, by rw [ok.K]; exact hb, ?_⟩
        cases b with
        | true => exact iteT (Den.last p2 s1 n1)
        | false => exact iteF (Post.ok (rep := RepV G) p2 s1 r1)
  | .nil, _ :: _, _, h => by cases h
  | .cons _ .nil, [], _, h => by cases h
  | .cons _ .nil, _ :: _ :: _, _, h => by cases (ba h).2
  | .cons _ (.cons _ _), [], _, h => by cases h
  | .cons _ (.cons _ _), [_], _, h => by cases (ba h).2
theorem sOrE {C : Ck} {X : Cx} {Wx : WX} (ok : XOk G C X Wx k call) : ∀ (ies : IEs) (es : List Expr) (pos : Pos), chkEs C ies es = true → PE X (.BoolOp .Or es pos) (Den G (RepV G) Wx (dOrE G.tab call ies))
  | .nil, [], _, _ => ⟨fun pins s σ H Q I ⟨W, env, S, sm, er, q⟩ => (show False from q).elim⟩
  | .cons e .nil, [x], pos, h => pe_one (sE ok e x (ba h).1)
  | .cons e (.cons f fs), x :: y :: ys, pos, h => PE.imp (pe_orT (sE ok e x (ba h).1) (sOrE ok (.cons f fs) (y :: ys) pos (ba h).2)) fun σ H Q ⟨W, env, S, sm, er, q⟩ =>
      Den.step q sm er fun v S1 W1 x H1 e1 l1 s1 n1 r1 p1 => by
        obtain ⟨b, hb, p2⟩ := truV_st p1 s1 r1
        refine ⟨b, by rw [ok.K]; exact hb, ?_⟩
        cases b with
        | true => exact iteT (Post.ok (rep := RepV G) p2 s1 r1)
        | false => exact iteF (Den.last p2 s1 n1)
  | .nil, _ :: _, _, h => by cases h
  | .cons _ .nil, [], _, h => by cases h
  | .cons _ .nil, _ :: _ :: _, _, h => by cases (ba h).2
  | .cons _ (.cons _ _), [], _, h => by cases h
  | .cons _ (.cons _ _), [_], _, h => by cases (ba h).2
theorem sC {C : Ck} {X : Cx} {Wx : WX} (ok : XOk G C X Wx k call) : ∀ (c : IC) (e : Expr), chkC C c e = true → PT X e (tB G Wx call c)
  | .val ie, e, h => by
    obtain ⟨h1, h2⟩ := ba h
    have gen : isCmpI ie = false → PT X e (tB G Wx call (.val ie)) := fun z => by
      rw [z, Bool.or_false] at h2
      exact PT.imp (pt_truth (sE ok ie e h1) (plainT_ok h2)) fun σ H Q ⟨W, env, S, sm, er, q⟩ => Den.step q sm er fun v S1 W1 x H1 e1 l1 s1 n1 r1 p1 => by rw [ok.K]; exact tru_post p1 s1 r1
    cases ie with
    | cmp op a b =>
      obtain ⟨l, r, p, rfl, h1, h2, h3⟩ := iv_cmp h1
      refine PT.imp (pt_cmpR (OpR.any _) (sE ok a l h1) (sE ok b r h2) (isSet_ok h3)) fun σ H Q ⟨W, env, S, sm, er, q⟩ => ?_
      have q : Post G (fun _ (b k : Bool) => b = k) Wx σ W (((dE G.tab call a env S).bind fun x S => (dE G.tab call b env S).bind fun y S => cmpV op x y S).bind fun v S => truV v S) Q := q
      rw [bind_assoc] at q
      refine Den.step q sm er fun v S1 W1 x H1 e1 l1 s1 n1 r1 p1 => ?_
      rw [bind_assoc] at p1
      refine Den.step p1 s1 n1 fun w S2 W2 y H2 e2 l2 s2 n2 r2 p2 => ?_
      obtain ⟨b1, e3, p3⟩ := cmpV_bind p2
      refine cmp_any (op := op) (a := v) (b := w) (W := W2) (Wx := Wx) (σ := σ) (S := S2) ok.K ok.hu ?_ s2 (r1.mono l2) r2
      rw [e3]
      intro W3 z H3 l3 s3 r3
      cases r3
      exact ⟨b1, rfl, Post.ok (rep := fun _ (b k : Bool) => b = k) (p3.mono l3) s3 rfl⟩
    | inRg neg a b =>
      obtain ⟨l, p2, y, q, p, rfl, h1, h2, h3, h4⟩ := iv_inRg h1
      have fr : X.mg ("range" : Str) = none := by
        rw [ok.mg]
        exact ok.free _ (by decide +kernel)
      refine PT.imp (pt_cmpR (op_rg neg) (sE ok a l h2) (pe_callTy cr_range1 (ok.kindOf h1) fr (by decide +kernel) (pa_cons (sE ok b y h3) pa_nil (star_cons X.env h4)) (by decide +kernel) (by decide +kernel) (star_cons X.env h4) rfl) (by cases neg <;> rfl)) fun σ H Q ⟨W, env, S, sm, er, q⟩ => ?_
      have q : Post G (fun _ (b k : Bool) => b = k) Wx σ W (((dE G.tab call a env S).bind fun x S => (dE G.tab call b env S).bind fun y S => inRgV neg x y S).bind fun v S => truV v S) Q := q
      rw [bind_assoc] at q
      refine Den.step q sm er fun v S1 W1 x H1 e1 l1 s1 n1 r1 p1 => ?_
      rw [bind_assoc] at p1
      refine Den.step p1 s1 n1 fun w S2 W2 y H2 e2 l2 s2 n2 r2 p2 => ?_
      have p2 : Post G (fun _ (b k : Bool) => b = k) Wx σ W2 ((inRgV neg v w S2).bind fun v S => truV v S) Q := p2
      unfold inRgV at p2
      split at p2
      · cases r1
        cases r2
        refine ⟨_, rfl, fun p hp => ⟨_, _, _, _, rfl, rfl, upd_same, _, rfl, ?_⟩⟩
        exact Post.ok (rep := fun _ (b k : Bool) => b = k) (p2.mono (Wd.le_addF s2 hp _)) (s2.addF hp _) rfl
      · exact (show False from p2).elim
    | cmp2 o p a b c =>
      obtain ⟨l, m, r, pos, rfl, h1, h2, h3, h4, h5⟩ := iv_cmp2 h1
      refine PT.imp (pt_chain (OpR.any _) (OpR.any _) (sE ok a l h1) (sE ok b m h2) (sE ok c r h3) (lm_false h5)) fun σ H Q ⟨W, env, S, sm, er, q⟩ => ?_
      have q : Post G (fun _ (b k : Bool) => b = k) Wx σ W (((dE G.tab call a env S).bind fun x S => (dE G.tab call b env S).bind fun y S => (cmpV o x y S).bind fun z S => (truV z S).bind fun k S =>
        if k then (dE G.tab call c env S).bind fun w S => cmpV p y w S else .ok (.t (.bl false)) S).bind fun v S => truV v S) Q := q
      rw [bind_assoc] at q
      refine Den.step q sm er fun v S1 W1 x H1 e1 l1 s1 n1 r1 p1 => ?_
      rw [bind_assoc] at p1
      refine Den.step p1 s1 n1 fun w S2 W2 y H2 e2 l2 s2 n2 r2 p2 => ?_
      rw [bind_assoc] at p2
      obtain ⟨b1, e3, p3⟩ := cmpV_bind p2
      refine cmp_any (op := o) (a := v) (b := w) (W := W2) (Wx := Wx) (σ := σ) (S := S2) ok.K ok.hu ?_ s2 (r1.mono l2) r2
      rw [e3]
      intro W3 z H3 l3 s3 r3
      cases r3
      refine ⟨b1, rfl, ?_⟩
      have p4 := p3.mono l3
      cases b1 with
      | true =>
        have p4 : Post G (fun _ (b k : Bool) => b = k) Wx σ W3 (((dE G.tab call c env S2).bind fun w2 S => cmpV p w w2 S).bind fun v S => truV v S) Q := p4
        rw [bind_assoc] at p4
        refine iteT (Den.step p4 s3 (n2.mono l3) fun u S4 W4 z H4 e4 l4 s4 n4 r4 p5 => ?_)
        obtain ⟨b2, e6, p6⟩ := cmpV_bind p5
        refine cmp_any (op := p) (a := w) (b := u) (W := W4) (Wx := Wx) (σ := σ) (S := S4) ok.K ok.hu ?_ s4 (r2.mono (l3.trans l4)) r4
        rw [e6]
        intro W7 z H7 l7 s7 r7
        cases r7
        exact ⟨b2, rfl, Post.ok (rep := fun _ (b k : Bool) => b = k) (p6.mono l7) s7 rfl⟩
      | false => exact iteF ⟨false, rfl, Post.ok (rep := fun _ (b k : Bool) => b = k) p4 s3 rfl⟩
    | _ => exact gen rfl
  | .not c, e, h => by
    cases e with
    | UnaryOp o x p =>
      cases o with
      | Not =>
        refine PT.imp (pt_not (sC ok c x h)) fun σ H Q ⟨W, env, S, sm, er, q⟩ => Den.step q sm er fun v S1 W1 b1 H1 e1 l1 s1 n1 r1 p1 => ?_
        have r1 : b1 = v := r1
        subst r1
        exact Post.ok (rep := fun _ (b k : Bool) => b = k) p1 s1 rfl
      | _ => cases h
    | _ => cases h
  | .ands cs, e, h => by
    cases e with
    | BoolOp o vs p =>
      cases o with
      | And => exact (sAnd ok cs vs p (ba h).1 (by intro z; subst z; cases (ba h).2)).pt
      | Or => cases h
    | _ => cases h
  | .ors cs, e, h => by
    cases e with
    | BoolOp o vs p =>
      cases o with
      | Or => exact (sOr ok cs vs p (ba h).1 (by intro z; subst z; cases (ba h).2)).pt
      | And => cases h
    | _ => cases h
theorem sAnd {C : Ck} {X : Cx} {Wx : WX} (ok : XOk G C X Wx k call) : ∀ (cs : ICs) (es : List Expr) (pos : Pos), chkCs C cs es = true → es ≠ [] → PW X (.BoolOp .And es pos) (tAndC G Wx call cs)
  | .nil, [], _, _, hn => absurd rfl hn
  | .cons c .nil, [x], pos, h, _ => PW.imp (pw_and1 (sC ok c x (ba h).1)) fun σ H Q ⟨W, env, S, sm, er, q⟩ => Den.step q sm er fun v S1 W1 b1 H1 e1 l1 s1 n1 r1 p1 => by
      have r1 : b1 = v := r1
      subst r1
      cases b1 <;> exact Post.ok (rep := fun _ (b k : Bool) => b = k) p1 s1 rfl
  | .cons c (.cons d ds), x :: y :: ys, pos, h, _ => PW.imp (pw_and (sC ok c x (ba h).1) (sAnd ok (.cons d ds) (y :: ys) pos (ba h).2 (fun z => nomatch z))) fun σ H Q ⟨W, env, S, sm, er, q⟩ => Den.step q sm er fun v S1 W1 b1 H1 e1 l1 s1 n1 r1 p1 => by
      have r1 : b1 = v := r1
      subst r1
      cases b1 with
      | true => exact iteT (Den.last p1 s1 n1)
      | false => exact iteF (Post.ok (rep := fun _ (b k : Bool) => b = k) p1 s1 rfl)
  | .nil, _ :: _, _, h, _ => by cases h
  | .cons _ .nil, [], _, h, _ => by cases h
  | .cons _ .nil, _ :: _ :: _, _, h, _ => by cases (ba h).2
  | .cons _ (.cons _ _), [], _, h, _ => by cases h
  | .cons _ (.cons _ _), [_], _, h, _ => by cases (ba h).2
theorem sOr {C : Ck} {X : Cx} {Wx : WX} (ok : XOk G C X Wx k call) : ∀ (cs : ICs) (es : List Expr) (pos : Pos), chkCs C cs es = true → es ≠ [] → PW X (.BoolOp .Or es pos) (tOrC G Wx call cs)
  | .nil, [], _, _, hn => absurd rfl hn
  | .cons c .nil, [x], pos, h, _ => PW.imp (pw_or1 (sC ok c x (ba h).1)) fun σ H Q ⟨W, env, S, sm, er, q⟩ => Den.step q sm er fun v S1 W1 b1 H1 e1 l1 s1 n1 r1 p1 => by
      have r1 : b1 = v := r1
      subst r1
      cases b1 <;> exact Post.ok (rep := fun _ (b k : Bool) => b = k) p1 s1 rfl
  | .cons c (.cons d ds), x :: y :: ys, pos, h, _ => PW.imp (pw_or (sC ok c x (ba h).1) (sOr ok (.cons d ds) (y :: ys) pos (ba h).2 (fun z => nomatch z))) fun σ H Q ⟨W, env, S, sm, er, q⟩ => Den.step q sm er fun v S1 W1 b1 H1 e1 l1 s1 n1 r1 p1 => by
      have r1 : b1 = v := r1
      subst r1
      cases b1 with
      | true => exact iteT (Post.ok (rep := fun _ (b k : Bool) => b = k) p1 s1 rfl)
      | false => exact iteF (Den.last p1 s1 n1)
  | .nil, _ :: _, _, h, _ => by cases h
  | .cons _ .nil, [], _, h, _ => by cases h
  | .cons _ .nil, _ :: _ :: _, _, h, _ => by cases (ba h).2
  | .cons _ (.cons _ _), [], _, h, _ => by cases h
  | .cons _ (.cons _ _), [_], _, h, _ => by cases (ba h).2
end
end
end Rw

namespace Rw
open PySem PySem.Spec PyProof.Rows L2
/-! ### statements -/
def isLc : Expr → Bool
  | .ListComp _ _ _ _ => true
  | .SetComp _ _ _ _ => true
  | .DictComp _ _ _ _ _ => true
  | _ => false
def augOk : Operator → Bool
  | .Add => true
  | .Sub => true
  | _ => false
def isTup : Expr → Bool
  | .Tuple _ _ _ => true
  | _ => false
/-- try: .. except C: ..; except C as e: .. -/
def tryP : Stmt → Option (List Stmt × Str × Option Str × Stmt × List Stmt)
  | .Try bd [.ExceptHandler (some (.Name y _)) n (s0 :: ss) _] [] [] _ => some (bd, y, n, s0, ss)
  | _ => none
theorem tryP_ok {st : Stmt} {bd : List Stmt} {y : Str} {n : Option Str} {s0 : Stmt} {ss : List Stmt} (h : tryP st = some (bd, y, n, s0, ss)) : ∃ np p1 p2, st = .Try bd [.ExceptHandler (some (.Name y np)) n (s0 :: ss) p1] [] [] p2 := by
  unfold tryP at h
  split at h
  · cases h
    exact ⟨_, _, _, rfl⟩
  · cases h
/-- o[l:h] = v -/
def slP : Stmt → Option (Expr × Expr × Expr × Expr)
  | .Assign [.Subscript o (.Slice (some l) (some h) none _) _] v _ => some (o, l, h, v)
  | _ => none
theorem slP_ok {st : Stmt} {o l h v : Expr} (e : slP st = some (o, l, h, v)) : ∃ p1 p2 p3, st = .Assign [.Subscript o (.Slice (some l) (some h) none p1) p2] v p3 := by
  unfold slP at e
  split at e
  · cases e
    exact ⟨_, _, _, rfl⟩
  · cases e
theorem pg_slc {X : Cx} {o l h : Expr} {p1 p2 : Pos} {to tl th : TE} (ho : PE X o to) (hl : PE X l tl) (hh : PE X h th) : PG X (.Subscript o (.Slice (some l) (some h) none p1) p2) (fun v σ H Q => to σ H fun x H1 => tl σ H1 fun y H2 => th σ H2 fun z H3 =>
    ∃ a b xs ys i j, x = .ref a ∧ v = .ref b ∧ y = .int i ∧ z = .int j ∧ H3 a = some (.lst xs) ∧ H3 b = some (.lst ys) ∧ a ≠ b ∧ 0 ≤ i ∧ i ≤ j ∧ j ≤ (xs.length : Int) ∧ xs.length + ys.length ≤ sizeLine ∧ Q σ (upd H3 a (.lst (xs.take i.toNat ++ ys ++ xs.drop j.toNat)))) := by
  refine ⟨fun pins s σ H v u Q I r hq => ?_⟩
  rw [assign_Subscript]
  refine wpAny_bind (wpAny_holding (thn (ho.run pins s σ H _ I hq) fun ov s1 ⟨x, H1, I1, r1, q1⟩ => ?_))
  refine wpAny_bind (wpAny_holding (wpAny_Slice ?_))
  rw [evalPart_some]
  refine thn (hl.run pins s1 σ H1 _ I1 q1) fun vl s2 ⟨y, H2, I2, r2, q2⟩ => ?_
  rw [evalPart_some]
  refine thn (hh.run pins s2 σ H2 _ I2 q2) fun vh s3 ⟨z, H3, I3, r3, q3⟩ => ?_
  rw [evalPart_none]
  refine wpAny_pure ?_
  have I4 : Inv X pins σ H3 { s3 with heap := s3.heap.push { cls := .type "slice", data := .fields #[vl, vh, .none] } } := I3.kept (t' := s3.toks) fun b ob q => Heap.get?_push_of_some _ q
  obtain ⟨a, b, xs, ys, i, j, rfl, rfl, rfl, rfl, hA, hB, hne, h0, hij, hj, hz, q⟩ := q3
  cases (show ov = Value.ref a from r1)
  cases (show u = Value.ref b from r)
  refine wpAny_bind (wpAny_standAt (wpAny_bind (wpAny_holding (set_slice (Q := fun _ s5 => wpAny (model X.prog X.w) X.A (release [.ref s3.heap.objs.size, .ref b, .ref a] []) (fun _ s' => ∃ σ' H', Inv X pins σ' H' s' ∧ Q σ' H') X.xe s5) I4 hA hB hne (Heap.IsSliceOf.new ..) r2 r3 h0 hij hj hz fun s5 I5 => ?_))))
  exact wpAny_release ⟨σ, _, I5, q⟩
abbrev Ck.su (C : Ck) (h : Option Nat) : Ck := { C with calm := false, hs := h }
mutual
def chkS (C : Ck) : IS → Stmt → Bool
  | .pass, .Pass _ => true
  | .expr e, .Expr x _ => chkE C e x && !isLc x
  | .set i e, .Assign [.Name x _] v _ => decide (C.N[i]? = some x) && (C.can x && (chkE C e v && (!isLc v || decide (C.sc.kind = .function))))
  | .setF o f e, .Assign [.Attribute x n _] v _ => chkE C o x && (decide (n = C.nm.atN f) && chkE C e v)
  | .setS o i e, .Assign [.Subscript x y _] v _ => chkE C o x && (chkE C i y && (!isSlc y && chkE C e v))
  | .augF o f op e, .AugAssign (.Attribute x n _) o2 v _ => chkE C o x && (decide (n = C.nm.atN f) && (decide (op = o2) && (augOk o2 && chkE C e v)))
  | .setT is e, .Assign [t] v _ => chkT C true is t && (chkE C e v && (!isLc v && !isTup v))
  | .aug i op e, .AugAssign (.Name x _) o v _ => decide (C.N[i]? = some x) && (C.can x && (chkE C e v && (decide (op = o) && (augOk o && decide (C.hs ≠ some i)))))
  | .ife t a b, .If c x y _ => chkC C t c && (chkSs C a x && chkSs C b y)
  | .for_ k src many tg body, .For t it b [] _ => chkIt C t k src it && (chkT C many tg t && (chkSs C body b && C.calm))
  | .while_ _ t body, .While c b [] _ => chkC C t c && chkSs C body b
  | .ret e, .Return (some x) _ => chkE C e x
  | .retN, .Return none _ => true
  | .raise c _, .Raise (some (.Call (.Name x _) [.Constant (.str _) _ _] [] _)) none _ => glB C.sc x && (okN x && (decide (x = C.nm.exN c) && C.calm))
  | .setL o lo hi e, st => match slP st with
    | some (x, l, h, v) => chkE C o x && (chkE C lo l && (chkE C hi h && (chkE C e v && !isLc v)))
    | none => false
  | .try_ b cs nm su, st => match tryP st with
    | some (bd, y, n, s0, ss) => C.top && (decide (C.hs = none) && (chkSs C b bd && (glB C.sc y && (okN y && (match cs with
      | [d] => decide (y = C.nm.exN d) && ((C.tab.exc d).isSome && (match nm, n with
        | none, none => chkSs (C.su none) su (s0 :: ss)
        | some i, some z => decide (C.N[i]? = some z) && (decide (C.sc.names.lookup z = some .local) && chkSs (C.su (some i)) su (s0 :: ss))
        | _, _ => false))
      | _ => false)))))
    | none => false
  | .cont, .Continue _ => true
  | .brk, .Break _ => true
  | _, _ => false
def chkSs (C : Ck) : ISs → List Stmt → Bool
  | .nil, [] => true
  | .cons s ss, x :: xs => chkS C s x && chkSs C ss xs
  | _, _ => false
end
section
variable {G : Gd} {C : Ck} {X : Cx} {Wx : WX} {k : Nat} {call : Call} {W : Wd} {S : Store} {H : Hp} {σ : L2.St} {env : Env}
abbrev tS (G : Gd) (Wx : WX) (call : Call) (s : IS) : TS := DenS G Wx (dS G.tab call s)
abbrev tSs (G : Gd) (Wx : WX) (call : Call) (ss : ISs) : TS := DenS G Wx (dSs G.tab call ss)
theorem lc_no {v : Expr} {t : Option Expr} {l : Nat} {env : PySem.Env} (h : isLc v = false) : swapsWith v t l env = pure false := by
  cases v <;> first | rfl | cases h
theorem post_st {α : Type} {rep : Wd → V → α → Prop} (s : Sim G W S H) : True := trivial
/-- one turn -/
theorem turn_of {w : Wk} {many : Bool} {tg : List Nat} {body : ISs} {v : Val} {vs : List Val} {x : V} {D : Ends} {P : L2.St → Hp → Prop} (h : PostS G Wx W (forL w many tg (fun env S => dSs G.tab call body env S) (v :: vs) env S) D) (hw : okW w S) (s : Sim G W S H) (er : EnvRep G W σ env) (r : RepV G W x v)
    (hP : ∀ (W' : Wd) (env' : Env) (S' : Store) (σ' : L2.St) (H' : Hp), W.le W' → Sim G W' S' H' → EnvRep G W' σ' env' → PostS G Wx W' (forL w many tg (fun env S => dSs G.tab call body env S) vs env' S') D → P σ' H') :
    tTg G many tg x σ H fun σ2 H2 => tSs G Wx call body { D with nx := P, ct := P, bk := D.nx } σ2 H2 := by
  rw [forL_cons hw] at h
  cases e : target many tg v env S with
  | none => rw [e] at h; exact (show False from h).elim
  | some env1 =>
    rw [e] at h
    refine ⟨W, S, env, env1, v, s, er, r, e, fun σ2 er2 _ => ⟨W, env1, S, s, er2, ?_⟩⟩
    have h : PostS G Wx W (match dSs G.tab call body env1 S with
      | .nx env2 S2 => forL w many tg (fun env S => dSs G.tab call body env S) vs env2 S2
      | .ct env2 S2 => forL w many tg (fun env S => dSs G.tab call body env S) vs env2 S2
      | .bk env2 S2 => .nx env2 S2
      | m => m) D := h
    cases q : dSs G.tab call body env1 S with
    | nx env2 S2 =>
      rw [q] at h
      exact fun W' σ' H' l s' e' => hP W' env2 S2 σ' H' l s' e' (PostS.mono h l)
    | ct env2 S2 =>
      rw [q] at h
      exact fun W' σ' H' l s' e' => hP W' env2 S2 σ' H' l s' e' (PostS.mono h l)
    | bk env2 S2 =>
      rw [q] at h
      exact h
    | rt v S2 =>
      rw [q] at h
      exact h
    | ex x env2 S2 =>
      rw [q] at h
      exact h
    | bad =>
      rw [q] at h
      exact h
/-- the word of a for's turns: what is left of it -/
def Left (G : Gd) (Wx : WX) (call : Call) (W0 : Wd) (many : Bool) (tg : List Nat) (body : ISs) (its : List Val × Wk) (D : Ends) (i : Nat) : L2.St → Hp → Prop := fun σ H =>
  ∃ (W : Wd) (env : Env) (S : Store), W0.le W ∧ Sim G W S H ∧ EnvRep G W σ env ∧ PostS G Wx W (forL its.2 many tg (fun env S => dSs G.tab call body env S) (its.1.drop i) env S) D
theorem left_turn {W0 : Wd} {many : Bool} {tg : List Nat} {body : ISs} {its : List Val × Wk} {D : Ends} {J : It} {i : Nat} {x : V} {H' : Hp} (wl : Wlk G W0 J its) (hi : i < its.1.length) (h : Left G Wx call W0 many tg body its D i σ H) (y : J.yld i H x H') :
    tTg G many tg x σ H' fun σ2 H2 => tSs G Wx call body { D with nx := Left G Wx call W0 many tg body its D (i + 1), ct := Left G Wx call W0 many tg body its D (i + 1), bk := D.nx } σ2 H2 := by
  obtain ⟨W, env, S, l, s, er, q⟩ := h
  have hw : okW its.2 S := Classical.byContradiction fun hw => by
    rw [forL_bad hw] at q
    exact (show False from q).elim
  obtain ⟨W2, v, l2, s2, hv, r2⟩ := wl.yld W S H i x H' hi l.sub s hw y
  have ev : its.1[i] = v := (List.getElem?_eq_some_iff.mp hv).2
  rw [List.drop_eq_getElem_cons hi, ev] at q
  exact turn_of (PostS.mono q l2) hw s2 (er.mono l2) r2 fun W' env' S' σ' H' l' s' e' q' => ⟨W', env', S', (l.trans l2).trans l', s', e', q'⟩
theorem left_end {W0 : Wd} {many : Bool} {tg : List Nat} {body : ISs} {its : List Val × Wk} {D : Ends} {i : Nat} (hi : its.1.length ≤ i) (h : Left G Wx call W0 many tg body its D i σ H) : D.nx σ H := by
  obtain ⟨W, env, S, l, s, er, q⟩ := h
  have hw : okW its.2 S := Classical.byContradiction fun hw => by
    rw [forL_bad hw] at q
    exact (show False from q).elim
  rw [List.drop_of_length_le hi, forL_nil hw] at q
  exact q W σ H (.refl W) s er
theorem left_ok {W0 : Wd} {many : Bool} {tg : List Nat} {body : ISs} {its : List Val × Wk} {D : Ends} {i : Nat} (h : Left G Wx call W0 many tg body its D i σ H) : ∃ W' S', W0.sub W' ∧ Sim G W' S' H ∧ okW its.2 S' := by
  obtain ⟨W, env, S, l, s, er, q⟩ := h
  refine ⟨W, S, l.sub, s, Classical.byContradiction fun hw => ?_⟩
  rw [forL_bad hw] at q
  exact (show False from q).elim
theorem st_assoc {α β : Type} (m : R α) (f : α → Store → R β) (env : Env) (k : β → Store → RS) : (m.st env fun a S => (f a S).st env k) = (m.bind f).st env k := by
  cases m <;> rfl
/-- a for's source and what comes of it -/
theorem for_src (ok : XOk G C X Wx k call) (hc : X.calm = true) {kk : ItK} {src : IEs} {many : Bool} {tg : List Nat} {body : ISs} {t it : Expr} {b : List Stmt} {pos : Pos} (h : chkIt C t kk src it = true) (hg : PG X t (tTg G many tg)) (hb : PSs X b (tSs G Wx call body)) :
    PS X (.For t it b [] pos) (tS G Wx call (.for_ kk src many tg body)) := by
  refine PS.imp (ps_for ok.pas hc (sIt ok kk src it t h) hg hb (it_noset h X.env)) fun D σ H ⟨W, env, S, sm, er, q⟩ => ?_
  have q : PostS G Wx W ((dEs G.tab call src env S).st env fun vs S => (items kk vs S).st env fun its S => forL its.2 many tg (fun env S => dSs G.tab call body env S) its.1 env S) D := q
  rw [st_assoc] at q
  refine Den.stepS (f := fun env S => (dEs G.tab call src env S).bind fun vs S => items kk vs S) q sm er fun its S1 W1 J H1 e1 l1 s1 n1 wl p1 => ?_
  exact L2.for_it (G := fun H' => ∃ W' S', W1.sub W' ∧ Sim G W' S' H' ∧ okW its.2 S') (Y := fun i H' x H2 => J.yld i H' x H2) ⟨fun i H' hi ⟨W', S', l, s, w⟩ => wl.go W' S' H' i hi l s w, fun H' ⟨W', S', l, s, w⟩ => wl.stop W' S' H' l s w, fun i H' x H2 hi _ y => y⟩
    (fun i => Left G Wx call W1 many tg body its D i) ⟨W1, env, S1, .refl W1, s1, n1, p1⟩ (fun i σ' H' hi t => left_ok t) (fun i x σ' H' H2 hi t y => left_turn wl hi t y) fun σ' H' t => left_end (Nat.le_refl _) t
theorem ip_any (op : Operator) : PIp X op (fun x y H Q => ∃ r : TIp, PIp X op r ∧ r x y H Q) := fun pins s σ H x y v u Q I rx ry ⟨_, h, q⟩ => h pins s σ H x y v u Q I rx ry q
theorem ip_str : PIp X .Add (fun x y H Q => ∃ i j, x = .str i ∧ y = .str j ∧ i.length + j.length ≤ sizeLine ∧ Q (.str (i ++ j)) H) := iop_add_str
theorem aug_any {op : Operator} {x y : V} {a b : Val} {Q : VK} (hop : augOk op = true) (h : PostV G Wx σ W (binA op a b S) Q) (s : Sim G W S H) (rx : RepV G W x a) (ry : RepV G W y b) : ∃ r : TIp, PIp X op r ∧ r x y H Q := by
  cases a with
  | r n => exact (show False from h).elim
  | t a =>
    cases b with
    | r n =>
      have h' : PostV G Wx σ W .bad Q := h
      exact (show False from h').elim
    | t b =>
      have rx : Rep G W.F x a := rx
      have ry : Rep G W.F y b := ry
      have h : PostV G Wx σ W (ofT (binT op a b) S) Q := h
      have no : binT op a b = none → False := fun z => by rw [z] at h; exact h
      cases a with
      | int i =>
        cases b with
        | int j =>
          cases rx
          cases ry
          cases op with
          | Add => exact ⟨_, ip_add, i, j, rfl, rfl, post_t h s (.int _)⟩
          | Sub => exact ⟨_, ip_sub, i, j, rfl, rfl, post_t h s (.int _)⟩
          | _ => cases hop
        | _ => exact (no rfl).elim
      | str u =>
        cases b with
        | str v =>
          cases rx
          cases ry
          have h2 : PostV G Wx σ W (ofT (if op = .Add ∧ u.length + v.length ≤ szLine then some (.str (u ++ v)) else none) S) Q := h
          by_cases c : op = .Add ∧ u.length + v.length ≤ szLine
          · rw [if_pos c] at h2
            obtain ⟨c1, c2⟩ := c
            subst c1
            exact ⟨_, ip_str, u, v, rfl, rfl, c2, post_t h2 s (.str _)⟩
          · rw [if_neg c] at h2
            exact (show False from h2).elim
        | int j =>
          cases op with
          | Add => exact (no rfl).elim
          | Sub => exact (no rfl).elim
          | _ => cases hop
        | _ => exact (no rfl).elim
      | _ => exact (no rfl).elim
theorem while_den {t : IC} {body : ISs} {D : Ends} : ∀ (n : Nat) {σ : L2.St} {H : Hp}, DenS G Wx (fun env S => whileL (fun env S => dB G.tab call t env S) (fun env S => dSs G.tab call body env S) n env S) D σ H →
    tB G Wx call t σ H fun b H1 => if b = true then ∃ N : L2.St → Hp → Prop, (∀ σ' H', N σ' H' → ∃ m, m < n ∧ DenS G Wx (fun env S => whileL (fun env S => dB G.tab call t env S) (fun env S => dSs G.tab call body env S) m env S) D σ' H') ∧
      tSs G Wx call body { D with nx := N, ct := N, bk := D.nx } σ H1 else D.nx σ H1
  | 0, σ, H, ⟨W, env, S, sm, er, q⟩ => (show False from q).elim
  | n + 1, σ, H, ⟨W, env, S, sm, er, q⟩ => by
    have q : PostS G Wx W ((dB G.tab call t env S).st env fun k S => if k then (match dSs G.tab call body env S with
      | .nx env2 S2 => whileL (fun env S => dB G.tab call t env S) (fun env S => dSs G.tab call body env S) n env2 S2
      | .ct env2 S2 => whileL (fun env S => dB G.tab call t env S) (fun env S => dSs G.tab call body env S) n env2 S2
      | .bk env2 S2 => .nx env2 S2
      | m => m) else .nx env S) D := q
    refine Den.stepS q sm er fun v S1 W1 b H1 e1 l1 s1 n1 r1 p1 => ?_
    have r1 : b = v := r1
    subst r1
    cases b with
    | false =>
      exact iteF (p1 W1 σ H1 (.refl W1) s1 n1)
    | true =>
      refine iteT ⟨DenS G Wx (fun env S => whileL (fun env S => dB G.tab call t env S) (fun env S => dSs G.tab call body env S) n env S) D, fun σ' H' h => ⟨n, Nat.lt_succ_self n, h⟩, W1, env, S1, s1, n1, ?_⟩
      have p1 : PostS G Wx W1 (match dSs G.tab call body env S1 with
        | .nx env2 S2 => whileL (fun env S => dB G.tab call t env S) (fun env S => dSs G.tab call body env S) n env2 S2
        | .ct env2 S2 => whileL (fun env S => dB G.tab call t env S) (fun env S => dSs G.tab call body env S) n env2 S2
        | .bk env2 S2 => .nx env2 S2
        | m => m) D := p1
      cases q : dSs G.tab call body env S1 with
      | nx env2 S2 =>
        rw [q] at p1
        exact fun W' σ' H' l s' e' => ⟨W', env2, S2, s', e', PostS.mono p1 l⟩
      | ct env2 S2 =>
        rw [q] at p1
        exact fun W' σ' H' l s' e' => ⟨W', env2, S2, s', e', PostS.mono p1 l⟩
      | bk env2 S2 =>
        rw [q] at p1
        exact p1
      | rt v S2 =>
        rw [q] at p1
        exact p1
      | ex x env2 S2 =>
        rw [q] at p1
        exact p1
      | bad =>
        rw [q] at p1
        exact p1
theorem seq_st {m : RS} {f : Env → Store → RS} {D : Ends} (h : PostS G Wx W (m.seq f) D) : PostS G Wx W m { D with nx := DenS G Wx f D } := by
  cases m with
  | nx env S => exact fun W' σ H l s e => ⟨W', env, S, s, e, PostS.mono (show PostS G Wx W (f env S) D from h) l⟩
  | rt v S => exact h
  | bk env S => exact h
  | ct env S => exact h
  | ex x env S => exact h
  | bad => exact h
theorem chkT_tup {tg : List Nat} {e : Expr} (h : chkT C true tg e = true) : ∃ es kk p, e = .Tuple es kk p := by
  cases e with
  | Tuple es kk p => exact ⟨es, kk, p, rfl⟩
  | _ => cases tg <;> cases h
theorem iv_raise {C : Ck} {c : Nat} {es : IEs} {st : Stmt} (h : chkS C (.raise c es) st = true) : ∃ x p m j p2 q p3, st = .Raise (some (.Call (.Name x p) [.Constant (.str m) j p2] [] q)) none p3 ∧ glB C.sc x = true ∧ okN x = true ∧ x = C.nm.exN c ∧ C.calm = true := by
  cases st with
  | Raise e f p3 =>
    cases e with
    | none => cases h
    | some e =>
      cases e with
      | Call g as kw q =>
        cases g with
        | Name x p =>
          cases as with
          | nil => cases h
          | cons a as =>
            cases as with
            | cons _ _ =>
              cases a with
              | Constant k j p2 => cases k <;> (cases kw <;> (cases f <;> cases h))
              | _ => cases h
            | nil =>
              cases a with
              | Constant k j p2 =>
                cases k with
                | str m =>
                  cases kw with
                  | cons _ _ => cases h
                  | nil =>
                    cases f with
                    | some _ => cases h
                    | none =>
                      obtain ⟨h1, h⟩ := ba h
                      obtain ⟨h2, h⟩ := ba h
                      obtain ⟨h3, h4⟩ := ba h
                      exact ⟨x, p, m, j, p2, q, p3, rfl, h1, h2, of_decide_eq_true h3, h4⟩
                | _ => cases h
              | _ => cases h
        | _ => cases h
      | _ => cases h
  | _ => cases h
theorem sw_attr {v o : Expr} {f : Str} {p : Pos} {l : Nat} {env : PySem.Env} : swapsWith v (some (.Attribute o f p)) l env = pure false := by
  cases v <;> rfl
theorem sw_sub {v o i : Expr} {p : Pos} {l : Nat} {env : PySem.Env} : swapsWith v (some (.Subscript o i p)) l env = pure false := by
  cases v <;> rfl
theorem sw_name {elt : Expr} {gs : List Comprehension} {scope : Scope} {pos py : Pos} {y : Str} {l : Nat} {env : PySem.Env} : swapsWith (.ListComp elt gs scope pos) (some (.Name y py)) l env =
    pure (env.blockKind == .function && env.kindOf y == some .local && py.line == pos.line && !(scope.names.any fun (n, k) => n == y && (k == .local || k == .cell))) := rfl
def isCall : Expr → Bool
  | .Call _ _ _ _ => true
  | _ => false
theorem no_isi {C : Ck} {a : IE} {many : Bool} {ts : List Ty} {v : Expr} (hv : isCall v = false) (h : chkE C (.isi a many ts) v = true) : False := by
  rcases iv_isi h with ⟨t, p, y, z, q, r, _, _, rfl, _⟩ | ⟨p, y, zs, kk, z, q, _, rfl, _⟩
  · cases hv
  · cases hv
theorem set_lc (ok : XOk G C X Wx k call) {i : Nat} {x : Str} {px p : Pos} {e : IE} {v : Expr} (h1 : X.N[i]? = some x) (c1 : Loc X.env.scope x) (c2 : X.fn x = true ∨ X.env.scope.names.lookup x = some .local) (hk : X.env.scope.kind = .function) (h : chkE C e v = true) :
    PS X (.Assign [.Name x px] v p) (tAsg (tE G Wx call e) (gName i)) := by
  cases v with
  | ListComp elt gs scope pos =>
    cases hb : (X.env.blockKind == .function && X.env.kindOf x == some .local && px.line == pos.line && !(scope.names.any fun (n, k) => n == x && (k == .local || k == .cell))) with
    | false => exact ps_set (i := i) ok.nd h1 c1 (sE ok e _ h) (by rw [sw_name, hb]) c2
    | true =>
      have hy : X.env.scope.names.lookup x = some .local := by
        simp only [Bool.and_eq_true, beq_iff_eq] at hb
        exact hb.1.1.2
      cases e with
      | comp m kk src many tg ifs ielt =>
        obtain ⟨y, t, it, xs, sc2, p2, e1, h1', h2, h3, h4, h5, h6⟩ := iv_comp h
        cases e1
        have own : (ownOf C.N tg).map (·.2) = tg := by
          unfold ownOf
          rw [List.map_map]
          exact List.map_id tg
        have z := ps_setLc (i := i) (y := x) (py := px) (pos := pos) (spos := p) (ok.calm h6) ok.nd h1 hy (by rw [sw_name, hb]) (sIt ok kk src it t h1') (blkOk_by (by rw [ok.N, ok.sc]; exact h2)) (fun s H c cl fp => sTg (ok.blk h6 s H c cl fp scope) h3) (fun s H c cl fp => sIfs (ok.blk h6 s H c cl fp scope) ifs xs h4) (fun s H c cl fp => sE (ok.blk h6 s H c cl fp scope) ielt elt h5) (it_noset h1' X.env)
        rw [own] at z
        exact PS.imp z fun D σ H d => lc_post d
      | isi a many ts => exact (no_isi rfl h).elim
      | _ => cases h
  | SetComp elt gs scope pos =>
    cases e with
    | isi a many ts => exact (no_isi rfl h).elim
    | _ => cases h
  | DictComp ke va gs scope pos =>
    cases e with
    | isi a many ts => exact (no_isi rfl h).elim
    | _ => cases h
  | _ => exact ps_set (i := i) ok.nd h1 c1 (sE ok e _ h) rfl c2
/-! ### try -/
theorem Gd.hd_none {G : Gd} (h : G.hs = none) : G.hd none = G := by
  cases G
  cases h
  rfl
theorem iv_try {C : Ck} {b : ISs} {cs : List Nat} {nm : Option Nat} {su : ISs} {st : Stmt} (h : chkS C (.try_ b cs nm su) st = true) : ∃ bd y n s0 ss d, tryP st = some (bd, y, n, s0, ss) ∧ cs = [d] ∧ C.top = true ∧ C.hs = none ∧ chkSs C b bd = true ∧ glB C.sc y = true ∧ okN y = true ∧ y = C.nm.exN d ∧ (C.tab.exc d).isSome = true ∧
    ((nm = none ∧ n = none ∧ chkSs (C.su none) su (s0 :: ss) = true) ∨ ∃ i z, nm = some i ∧ n = some z ∧ C.N[i]? = some z ∧ C.sc.names.lookup z = some .local ∧ chkSs (C.su (some i)) su (s0 :: ss) = true) := by
  have h : (match (generalizing := false) tryP st with
    | some (bd, y, n, s0, ss) => C.top && (decide (C.hs = none) && (chkSs C b bd && (glB C.sc y && (okN y && (match (generalizing := false) cs with
      | [d] => decide (y = C.nm.exN d) && ((C.tab.exc d).isSome && (match (generalizing := false) nm, n with
        | none, none => chkSs (C.su none) su (s0 :: ss)
        | some i, some z => decide (C.N[i]? = some z) && (decide (C.sc.names.lookup z = some .local) && chkSs (C.su (some i)) su (s0 :: ss))
        | _, _ => false))
      | _ => false)))))
    | none => false) = true := by
    cases st <;> exact h
  cases q : tryP st with
  | none => rw [q] at h; cases h
  | some r =>
    obtain ⟨bd, y, n, s0, ss⟩ := r
    rw [q] at h
    obtain ⟨h1, h⟩ := ba h
    obtain ⟨h2, h⟩ := ba h
    obtain ⟨h3, h⟩ := ba h
    obtain ⟨h4, h⟩ := ba h
    obtain ⟨h5, h⟩ := ba h
    cases cs with
    | nil => cases h
    | cons d ds =>
      cases ds with
      | cons _ _ => cases h
      | nil =>
        obtain ⟨h6, h⟩ := ba h
        obtain ⟨h7, h⟩ := ba h
        refine ⟨bd, y, n, s0, ss, d, rfl, rfl, h1, of_decide_eq_true h2, h3, h4, h5, of_decide_eq_true h6, h7, ?_⟩
        cases nm with
        | none =>
          cases n with
          | none => exact .inl ⟨rfl, rfl, h⟩
          | some _ => cases h
        | some i =>
          cases n with
          | none => cases h
          | some z =>
            obtain ⟨h8, h⟩ := ba h
            obtain ⟨h9, h⟩ := ba h
            exact .inr ⟨i, z, rfl, rfl, of_decide_eq_true h8, of_decide_eq_true h9, h⟩
theorem iv_setL {C : Ck} {o lo hi e : IE} {st : Stmt} (h : chkS C (.setL o lo hi e) st = true) : ∃ x l hh v, slP st = some (x, l, hh, v) ∧ chkE C o x = true ∧ chkE C lo l = true ∧ chkE C hi hh = true ∧ chkE C e v = true ∧ isLc v = false := by
  have h : (match (generalizing := false) slP st with
    | some (x, l, h, v) => chkE C o x && (chkE C lo l && (chkE C hi h && (chkE C e v && !isLc v)))
    | none => false) = true := by
    cases st <;> exact h
  cases q : slP st with
  | none => rw [q] at h; cases h
  | some r =>
    obtain ⟨x, l, hh, v⟩ := r
    rw [q] at h
    obtain ⟨h1, h⟩ := ba h
    obtain ⟨h2, h⟩ := ba h
    obtain ⟨h3, h⟩ := ba h
    obtain ⟨h4, h5⟩ := ba h
    exact ⟨x, l, hh, v, rfl, h1, h2, h3, h4, nb h5⟩
theorem roomH_suite {k : Nat} {A : Around} {a : Addr} (r : L2H.RoomH k A) : L2H.RoomH k (A.mark (some (.ref a))) := ⟨r.dp, r.un⟩
theorem XOk.tr {X : Cx} (ok : XOk G C X Wx k call) (hn : C.hs = none) {W' : WX} {pn : List (Addr × Obj)} {xe : Value → Shared → Prop} (tk : Takes (X.tr pn xe) W') (pas : PassesOwn (model X.prog X.w) X.A X.env xe) : XOk G C (X.tr pn xe) W' k call :=
  { prog := ok.prog, w := ok.w, K := ok.K, mg := ok.mg, N := ok.N, nd := ok.nd, sc := ok.sc, room := ok.room, roomH := ok.roomH, fnsH := ok.fnsH, hu := ok.hu, hs := ok.hs, cs := ok.cs,
    hx := fun i a c e => absurd ((congrArg (Option.map fun h => h.1) e).symm.trans (ok.hs.trans hn)) (fun z => nomatch z),
    stk := ok.stk, calm := ok.calm, tk := tk, pas := pas, tab := ok.tab, nm := ok.nm, free := ok.free, gl := ok.gl, cls := ok.cls, fns := ok.fns, okf := ok.okf, con := ok.con, exc := ok.exc, dc := ok.dc, can := ok.can }
theorem XOk.suO {X : Cx} (ok : XOk G C X Wx k call) (hn : C.hs = none) (a : Addr) (pn : List (Addr × Obj)) : XOk G (C.su none) (X.suite a pn) (fun _ _ _ _ => False) k call :=
  { prog := ok.prog, w := ok.w, K := ok.K, mg := ok.mg, N := ok.N, nd := ok.nd, sc := ok.sc, room := fun z => absurd (show false = true from z) Bool.false_ne_true, roomH := roomH_suite ok.roomH, fnsH := ok.fnsH, hu := ok.hu, hs := ok.hs.trans hn, cs := fun _ => rfl,
    hx := fun i a c e => absurd ((congrArg (Option.map fun h => h.1) e).symm.trans (ok.hs.trans hn)) (fun z => nomatch z),
    stk := ok.stk, calm := fun z => absurd (show false = true from z) Bool.false_ne_true, tk := takes0, pas := PassesOwn.never, tab := ok.tab, nm := ok.nm, free := ok.free, gl := ok.gl, cls := ok.cls, fns := fun z => absurd (show false = true from z) Bool.false_ne_true, okf := ok.okf, con := ok.con, exc := ok.exc, dc := ok.dc, can := ok.can }
theorem XOk.suA {X : Cx} (ok : XOk G C X Wx k call) (i : Nat) (a : Addr) (c : Nat) (oe : Obj) (pn : List (Addr × Obj)) (hz : Zc (.ref (G.eA c)) none oe) (hf : ∃ vs, oe.data = .fields vs) {l : List Nat} (hl : G.tab.exc c = some l) :
    XOk (G.hd (some (i, a, c))) (C.su (some i)) (X.suite a ((a, oe) :: pn)) (fun _ _ _ _ => False) k call :=
  { prog := ok.prog, w := ok.w, K := ok.K, mg := ok.mg, N := ok.N, nd := ok.nd, sc := ok.sc, room := fun z => absurd (show false = true from z) Bool.false_ne_true, roomH := roomH_suite ok.roomH, fnsH := fun f d h1 h2 => let ⟨run, e, F⟩ := ok.fnsH f d h1 h2; ⟨run, e, ⟨F.ex⟩⟩, hu := ok.hu, hs := rfl, cs := fun z => absurd (show false = true from z) Bool.false_ne_true,
    hx := fun i' a' c' e => by
      have e : some (i, a, c) = some (i', a', c') := e
      cases e
      exact ⟨oe, List.mem_cons_self, hz, hf, l, hl⟩
    stk := ok.stk, calm := fun z => absurd (show false = true from z) Bool.false_ne_true, tk := takes0, pas := PassesOwn.never, tab := ok.tab, nm := ok.nm, free := ok.free, gl := ok.gl,
    cls := fun c cl h => let D := ok.cls c cl h; { cls := D.cls, ha := D.ha, hn := D.hn, htk := D.htk, hm := D.hm, isB := fun t ht => by have z := D.isB t ht; cases t <;> exact z, isC := D.isC, isD := D.isD, mg := D.mg, na := D.na, mt := D.mt, mkf := D.mkf }
    fns := fun z => absurd (show false = true from z) Bool.false_ne_true, okf := ok.okf,
    con := fun g t h => by
      obtain ⟨v, u, h1, h2, h3, h4⟩ := ok.con g t h
      exact ⟨v, u, h1, h2, fun F => (h3 F).hd, h4⟩
    exc := fun c l h => let D := ok.exc c l h; { mg := D.mg, ex := D.ex, sub := D.sub, ty := D.ty, isE := D.isE, ve := D.ve, kO := D.kO }
    dc := fun g kvs h => ⟨(ok.dc g kvs h).ex⟩
    can := ok.can }
theorem post_noex {W : Wd} {m : RS} {D : Ends} (h : PostS G Wx W m.noex D) : PostS G (fun _ _ _ _ => False) W m D := by
  cases m with
  | ex x env S => exact (show False from h).elim
  | _ => exact h
theorem post_gone {W : Wd} {m : RS} {D : Ends} {i : Nat} {a : Addr} {c : Nat} (hn : G.hs = none) (h : PostS G Wx W (m.gone i) D) :
    PostS (G.hd (some (i, a, c))) (fun _ _ _ _ => False) W m { nx := fun σ' H' => D.nx (σ'.set i none) H', rt := D.rt, bk := fun σ' H' => D.bk (σ'.set i none) H', ct := fun σ' H' => D.ct (σ'.set i none) H' } := by
  have back : ∀ {W' : Wd} {S : Store} {H : Hp}, Sim (G.hd (some (i, a, c))) W' S H → Sim G W' S H := fun s => by
    have z := Sim.hd (G := G.hd (some (i, a, c))) (h := none) s
    rw [show (G.hd (some (i, a, c))).hd none = G.hd none from rfl, Gd.hd_none hn] at z
    exact z
  have backE : ∀ {W' : Wd} {σ : L2.St} {env : Env}, EnvRep (G.hd (some (i, a, c))) W' σ env → EnvRep G W' (σ.set i none) (env.set i none) := fun e => by
    have z := EnvRep.gone e
    rw [Gd.hd_none hn] at z
    exact z
  cases m with
  | nx env S => exact fun W' σ H l s e => h W' (σ.set i none) H l (back s) (backE e)
  | bk env S => exact fun W' σ H l s e => h W' (σ.set i none) H l (back s) (backE e)
  | ct env S => exact fun W' σ H l s e => h W' (σ.set i none) H l (back s) (backE e)
  | rt v S =>
    intro W' x H l s r
    have z := RepV.hd (G := G.hd (some (i, a, c))) (h := none) r
    rw [show (G.hd (some (i, a, c))).hd none = G.hd none from rfl, Gd.hd_none hn] at z
    exact h W' x H l (back s) z
  | ex x env S => exact (show False from h).elim
  | bad => exact (show False from h).elim
/-- what is left of a try's meaning behind its body -/
theorem try_body {X : Cx} {W : Wd} {S : Store} {env : Env} {b : ISs} {d : Nat} {nm : Option Nat} {su : ISs} {D : Ends} {W2 : WX} (q : PostS G Wx W (dS G.tab call (.try_ b [d] nm su) env S) D)
    (hc : ∀ (x : Exn) (env1 : Env) (S1 : Store), PostS G Wx W (match (generalizing := false) excIn G.tab x.c [d] with
      | some true => if x.fs.isEmpty then (match (generalizing := false) nm with
        | some i => (dSs G.tab call su (env1.set i (some (.t (.exn x.c [])))) S1).gone i
        | none => (dSs G.tab call su env1 S1).noex) else .bad
      | some false => .ex x env1 S1
      | none => .bad) D → PostS G W2 W (.ex x env1 S1) D) : PostS G W2 W (dSs G.tab call b env S) D := by
  have q : PostS G Wx W (match (generalizing := false) dSs G.tab call b env S with
    | .ex x env1 S1 => (match (generalizing := false) excIn G.tab x.c [d] with
      | some true => if x.fs.isEmpty then (match (generalizing := false) nm with
        | some i => (dSs G.tab call su (env1.set i (some (.t (.exn x.c [])))) S1).gone i
        | none => (dSs G.tab call su env1 S1).noex) else .bad
      | some false => .ex x env1 S1
      | none => .bad)
    | m => m) D := q
  cases z : dSs G.tab call b env S with
  | ex x env1 S1 =>
    rw [z] at q
    exact hc x env1 S1 q
  | nx env1 S1 => rw [z] at q; exact q
  | rt v S1 => rw [z] at q; exact q
  | bk env1 S1 => rw [z] at q; exact q
  | ct env1 S1 => rw [z] at q; exact q
  | bad => rw [z] at q; exact q
theorem excIn_1 {tab : Tab} {c d : Nat} {l : List Nat} (hd : tab.exc d = some l) : excIn tab c [d] = (tab.exc c).map fun l => l.contains d := by
  show (match tab.exc c with
    | some l => if (tab.exc d).isSome then (some false).map fun b => l.contains d || b else none
    | none => none) = _
  rw [hd]
  cases tab.exc c with
  | none => rfl
  | some l => show some (l.contains d || false) = some (l.contains d); rw [Bool.or_false]
mutual
theorem sS {G : Gd} {C : Ck} {X : Cx} {Wx : WX} (ok : XOk G C X Wx k call) : ∀ (is : IS) (st : Stmt), chkS C is st = true → PS X st (tS G Wx call is)
  | .pass, st, h => by
    cases st with
    | Pass p => exact PS.imp ps_pass fun D σ H ⟨W, env, S, sm, er, q⟩ => q W σ H (.refl W) sm er
    | _ => cases h
  | .expr e, st, h => by
    cases st with
    | Expr x p =>
      exact PS.imp (ps_expr (sE ok e x (ba h).1) (lc_no (nb (ba h).2))) fun D σ H ⟨W, env, S, sm, er, q⟩ =>
        Den.stepS q sm er fun v S1 W1 b H1 e1 l1 s1 n1 r1 p1 => p1 W1 σ H1 (.refl W1) s1 n1
    | _ => cases h
  | .set i e, st, h => by
    cases st with
    | Assign ts v p =>
      cases ts with
      | nil => cases h
      | cons t ts =>
        cases ts with
        | cons _ _ => cases t <;> cases h
        | nil =>
          cases t with
          | Name x px =>
            obtain ⟨h1, h⟩ := ba h
            obtain ⟨h2, h⟩ := ba h
            obtain ⟨h3, h4⟩ := ba h
            have h1 : X.N[i]? = some x := by rw [ok.N]; exact of_decide_eq_true h1
            obtain ⟨c1, c2⟩ := ok.can i x h1 h2
            have fin : ∀ D σ H, tS G Wx call (.set i e) D σ H → tAsg (tE G Wx call e) (gName i) D σ H := fun D σ H ⟨W, env, S, sm, er, q⟩ =>
              Den.stepS q sm er fun v S1 W1 b H1 e1 l1 s1 n1 r1 p1 => p1 W1 _ H1 (.refl W1) s1 (n1.set r1 i)
            cases hl : isLc v with
            | false => exact PS.imp (ps_set (i := i) ok.nd h1 c1 (sE ok e v h3) (lc_no hl) c2) fin
            | true =>
              rw [hl] at h4
              have hk : X.env.scope.kind = .function := by rw [ok.sc]; exact of_decide_eq_true h4
              exact PS.imp (set_lc ok h1 c1 c2 hk h3) fin
          | _ => cases h
    | _ => cases h
  | .setT is e, st, h => by
    cases st with
    | Assign ts v p =>
      cases ts with
      | nil => cases h
      | cons t ts =>
        cases ts with
        | cons _ _ => cases h
        | nil =>
          obtain ⟨h1, h⟩ := ba h
          obtain ⟨h2, h⟩ := ba h
          obtain ⟨h3, h4⟩ := ba h
          obtain ⟨es, kk, pt, rfl⟩ := chkT_tup h1
          have h4 := nb h4
          have sw : swappedStores [.Tuple es kk pt] v X.env = pure none := by
            cases v <;> first | rfl | cases h4
          refine PS.imp (ps_asg (sE ok e v h2) (sTg ok h1) (show swapsWithSole [.Tuple es kk pt] v p.line X.env = pure false from lc_no (v := v) (t := some (.Tuple es kk pt)) (l := p.line) (env := X.env) (nb h3)) sw rfl) fun D σ H ⟨W, env, S, sm, er, q⟩ =>
            Den.stepS q sm er fun v S1 W1 b H1 e1 l1 s1 n1 r1 p1 => ?_
          have p1 : PostS G Wx W1 (match target true is v env S1 with
            | some env2 => .nx env2 S1
            | none => .bad) D := p1
          cases z : target true is v env S1 with
          | none => rw [z] at p1; exact (show False from p1).elim
          | some env2 =>
            rw [z] at p1
            exact ⟨W1, S1, env, env2, v, s1, n1, r1, z, fun σ2 e2 _ => p1 W1 σ2 H1 (.refl W1) s1 e2⟩
    | _ => cases h
  | .setF o f e, st, h => by
    cases st with
    | Assign ts v p =>
      cases ts with
      | nil => cases h
      | cons t ts =>
        cases ts with
        | cons _ _ => cases t <;> cases h
        | nil =>
          cases t with
          | Attribute x n px =>
            obtain ⟨h1, h⟩ := ba h
            obtain ⟨h2, h3⟩ := ba h
            have e1 := of_decide_eq_true h2
            rw [ok.nm] at e1
            subst e1
            refine PS.imp (ps_fld (sE ok o x h1) (sE ok e v h3) sw_attr) fun D σ H ⟨W, env, S, sm, er, q⟩ =>
              Den.stepS q sm er fun w S1 W1 y H1 e1 l1 s1 n1 r1 p1 => Den.stepS p1 s1 n1 fun a S2 W2 z H2 e2 l2 s2 n2 r2 p2 => ?_
            have p2 : PostS G Wx W2 (match setFV G.tab a f w S2 with
              | some S1 => .nx env S1
              | none => .bad) D := p2
            cases hq : setFV G.tab a f w S2 with
            | none => rw [hq] at p2; exact (show False from p2).elim
            | some S3 =>
              rw [hq] at p2
              obtain ⟨ad, Cc, dx, gs, z1, z2, z3, z4, z5, z6, _⟩ := setF_any ok hq s2 r2 (r1.mono l2)
              exact ⟨ad, _, dx, gs, z1, z2, z3, z4, z5, p2 W2 σ _ (.refl W2) z6 n2⟩
          | _ => cases h
    | _ => cases h
  | .setS o i e, st, h => by
    cases st with
    | Assign ts v p =>
      cases ts with
      | nil => cases h
      | cons t ts =>
        cases ts with
        | cons _ _ => cases t <;> cases h
        | nil =>
          cases t with
          | Subscript x y px =>
            obtain ⟨h1, h⟩ := ba h
            obtain ⟨h2, h⟩ := ba h
            obtain ⟨h4, h3⟩ := ba h
            have asg : ∀ v, assign (.Subscript x y px) X.env v = (do
              let ov ← holding [v] (eval x X.env)
              let iv ← holding [v, ov] (eval y X.env)
              standAt px
              holding [v, ov, iv] (setItem ov iv v)
              release [v, ov, iv] []) := fun v => by
              have h4 := nb h4
              cases y <;> first | rfl | cases h4
            refine PS.imp (ps_asg (sE ok e v h3) (pg_sub (sE ok o x h1) (sE ok i y h2) (set_both (by have := ok.hu; omega)) asg) (show swapsWithSole [.Subscript x y px] v p.line X.env = pure false from sw_sub (v := v) (o := x) (i := y) (p := px) (l := p.line) (env := X.env)) (by cases v <;> rfl) rfl) fun D σ H ⟨W, env, S, sm, er, q⟩ =>
              Den.stepS q sm er fun w S1 W1 y H1 e1 l1 s1 n1 r1 p1 => Den.stepS p1 s1 n1 fun a S2 W2 z H2 e2 l2 s2 n2 r2 p2 => Den.stepS p2 s2 n2 fun b S3 W3 z3 H3 e3 l3 s3 n3 r3 p3 => ?_
            have p3 : PostS G Wx W3 (match setSV a b w S3 with
              | some S1 => .nx env S1
              | none => .bad) D := p3
            cases hq : setSV a b w S3 with
            | none => rw [hq] at p3; exact (show False from p3).elim
            | some S4 =>
              rw [hq] at p3
              exact setS_any hq s3 (r2.mono l3) r3 (r1.mono (l2.trans l3)) _ fun H2 z6 => p3 W3 σ H2 (.refl W3) z6 n3
          | _ => cases h
    | _ => cases h
  | .setL o lo hi e, st, h => by
    obtain ⟨x, l, hh, v, h0, h1, h2, h3, h4, h5⟩ := iv_setL h
    obtain ⟨p1, p2, p3, rfl⟩ := slP_ok h0
    refine PS.imp (ps_asg (sE ok e v h4) (pg_slc (sE ok o x h1) (sE ok lo l h2) (sE ok hi hh h3)) (show swapsWithSole [.Subscript x (.Slice (some l) (some hh) none p1) p2] v p3.line X.env = pure false from sw_sub (v := v) (o := x) (i := .Slice (some l) (some hh) none p1) (p := p2) (l := p3.line) (env := X.env)) (by cases v <;> rfl) rfl) fun D σ H ⟨W, env, S, sm, er, q⟩ =>
      Den.stepS q sm er fun w S1 W1 y H1 e1 l1 s1 n1 r1 p1 => Den.stepS p1 s1 n1 fun a S2 W2 z H2 e2 l2 s2 n2 r2 p2 => Den.stepS p2 s2 n2 fun b S3 W3 z3 H3 e3 l3 s3 n3 r3 p3 => Den.stepS p3 s3 n3 fun c S4 W4 z4 H4 e4 l4 s4 n4 r4 p4 => ?_
    have p4 : PostS G Wx W4 (match setLV a b c w S4 with
      | some S1 => .nx env S1
      | none => .bad) D := p4
    cases hq : setLV a b c w S4 with
    | none => rw [hq] at p4; exact (show False from p4).elim
    | some S5 =>
      rw [hq] at p4
      unfold setLV at hq
      split at hq
      · rename_i n i j ys
        split at hq
        · rename_i xs hn
          split at hq
          · rename_i c4
            obtain ⟨c0, c1, c2, c3⟩ := c4
            cases hq
            have r1' := r1.mono (l2.trans (l3.trans l4))
            have r2' := r2.mono (l3.trans l4)
            have r3' := r3.mono l4
            cases r3'
            cases r4
            cases r1' with
            | lst hF rl =>
              rename_i vb vs
              obtain ⟨hn2, ex⟩ := r2'
              subst ex
              obtain ⟨f1, f2, o, ho, ok2⟩ := s4.live n _ hn (by intro z; cases z)
              cases ok2 with
              | lst hp =>
                rename_i zs
                have hB := s4.fz _ _ hF
                refine ⟨_, _, _, _, i, j, rfl, rfl, rfl, rfl, ho, hB, fun z => ?_, c0, c1, by rw [hp.length]; exact c2, by rw [hp.length, rl.length]; exact c3, ?_⟩
                · rw [← z, f1] at hF
                  cases hF
                · refine p4 W4 σ _ (.refl W4) (s4.setC hn (by intro z; cases z) (.lst ?_)) n4
                  have pa : Paired (RepV G W4) vs (ys.map Val.t) := vals_repL (vs := vs) rl
                  exact Paired.app' (Paired.drop' j.toNat hp) (Paired.app' pa (Paired.take' i.toNat hp))
          · cases hq
        · cases hq
      · cases hq
  | .aug i op e, st, h => by
    cases st with
    | AugAssign t o v p =>
      cases t with
      | Name x px =>
        obtain ⟨h1, h⟩ := ba h
        obtain ⟨h2, h⟩ := ba h
        obtain ⟨h3, h⟩ := ba h
        obtain ⟨h4, h5⟩ := ba h
        obtain ⟨h5, hns⟩ := ba h5
        have hns := of_decide_eq_true hns
        have e1 : op = o := of_decide_eq_true h4
        subst e1
        have h1 : X.N[i]? = some x := by rw [ok.N]; exact of_decide_eq_true h1
        obtain ⟨c1, c2⟩ := ok.can i x h1 h2
        refine PS.imp (ps_aug (i := i) ok.nd h1 c1 (sE ok e v h3) (ip_any op) c2) fun D σ H ⟨W, env, S, sm, er, q⟩ => ?_
        have q : PostS G Wx W (match env[i]? with
          | some (some x) => (dE G.tab call e env S).st env fun y S => (binA op x y S).st env fun z S => .nx (env.set i (some z)) S
          | _ => .bad) D := q
        cases z : env[i]? with
        | none => rw [z] at q; exact (show False from q).elim
        | some z1 =>
          cases z1 with
          | none => rw [z] at q; exact (show False from q).elim
          | some a =>
            rw [z] at q
            obtain ⟨x, h6, h7⟩ := er.2 i a z
            have h7 : RepV G W x a := by
              rcases h7 with h7 | ⟨a2, c, hg, _⟩
              · exact h7
              · have y := ok.hs
                rw [hg] at y
                exact absurd y.symm hns
            refine ⟨x, h6, Den.stepS q sm er fun b S1 W1 y H1 e1 l1 s1 n1 r1 p1 => ?_⟩
            refine aug_any (op := op) (a := a) (b := b) (W := W1) (Wx := Wx) (σ := σ) (S := S1) h5 ?_ s1 (h7.mono l1) r1
            cases zz : binA op a b S1 with
            | ok c S2 =>
              rw [zz] at p1
              exact fun W2 c2 H2 l2 s2 r2 => p1 W2 _ H2 l2 s2 ((n1.mono l2).set r2 i)
            | ex x S2 =>
              rw [zz] at p1
              exact fun W2 cls od H2 l2 s2 r2 => p1 W2 σ cls od H2 l2 s2 (n1.mono l2) r2
            | bad =>
              rw [zz] at p1
              exact (show False from p1).elim
      | _ => cases h
    | _ => cases h
  | .augF o f op e, st, h => by
    cases st with
    | AugAssign t o2 v p =>
      cases t with
      | Attribute x n px =>
        obtain ⟨h1, h⟩ := ba h
        obtain ⟨h2, h⟩ := ba h
        obtain ⟨h3, h⟩ := ba h
        obtain ⟨h4, h5⟩ := ba h
        have e1 := of_decide_eq_true h2
        rw [ok.nm] at e1
        have e2 : op = o2 := of_decide_eq_true h3
        subst e1 e2
        refine PS.imp (ps_fldaug (rd := fun x y H Q => ∃ r : TIp, PIp X op r ∧ r x y H Q) (sE ok o x h1) (sE ok e v h5) (fun pins s σ H x y u v Q I rx ry h => ip_any op pins s σ H x y u v Q I rx ry h)) fun D σ H ⟨W, env, S, sm, er, q⟩ =>
          Den.stepS q sm er fun a S1 W1 y H1 e1 l1 s1 n1 r1 p1 => ?_
        have p1 : PostS G Wx W1 ((fldV G.tab a f S1).st env fun z S => (dE G.tab call e env S).st env fun y S3 => (binA op z y S3).st env fun v S3 => if insC a S == insC a S3 then (match setFV G.tab a f v S3 with
          | some S1 => .nx env S1
          | none => .bad) else .bad) D := p1
        rcases fldV_no (tab := G.tab) (f := f) (a := a) (S := S1) with ⟨w, ew⟩ | ew
        · rw [ew] at p1
          obtain ⟨ad, Cc, dx, gs, yv, z1, z2, z3, z4, z5, z6, z7⟩ := fld_any ok ew s1 r1
          refine ⟨ad, _, dx, gs, yv, z1, z2, z3, z4, z5, Den.stepS p1 s1 n1 fun b S2 W2 zv H2 e2 l2 s2 n2 r2 p2 => ?_⟩
          refine aug_any (op := op) (a := w) (b := b) (W := W2) (Wx := Wx) (σ := σ) (S := S2) h4 ?_ s2 (z6.mono l2) r2
          cases zz : binA op w b S2 with
          | ok c S3 =>
            rw [zz] at p2
            intro W3 cv H3 l3 s3 r3
            have p3 : PostS G Wx W2 (if insC a S1 == insC a S3 then (match setFV G.tab a f c S3 with
              | some S1 => .nx env S1
              | none => .bad) else .bad) D := p2
            cases hi : insC a S1 == insC a S3 with
            | false => rw [hi] at p3; exact (show False from p3).elim
            | true =>
            rw [hi] at p3
            have p3 : PostS G Wx W2 (match setFV G.tab a f c S3 with
              | some S1 => .nx env S1
              | none => .bad) D := p3
            cases hq : setFV G.tab a f c S3 with
            | none => rw [hq] at p3; exact (show False from p3).elim
            | some S4 =>
              rw [hq] at p3
              obtain ⟨ad2, Cc2, dx2, gs2, w1, w2, w3, w4, w5, w6, w7⟩ := setF_any ok hq s3 (r1.mono (l2.trans l3)) r3
              rw [z1] at w1
              cases w1
              have hC : Cc2 = Cc := by
                rw [z7, w7] at hi
                have := eq_of_beq hi
                cases this
                rfl
              subst hC
              exact ⟨dx2, gs2, w2, w5, p3 W3 σ _ l3 w6 (n2.mono l3)⟩
          | ex x S3 =>
            rw [zz] at p2
            exact fun W3 cls od H3 l3 s3 r3 => p2 W3 σ cls od H3 l3 s3 (n2.mono l3) r3
          | bad =>
            rw [zz] at p2
            exact (show False from p2).elim
        · rw [ew] at p1
          exact (show False from p1).elim
      | _ => cases h
    | _ => cases h
  | .ife t a b, st, h => by
    cases st with
    | If c x y p =>
      obtain ⟨h1, h⟩ := ba h
      obtain ⟨h2, h3⟩ := ba h
      refine PS.imp (ps_if (sC ok t c h1) (sSs ok a x h2) (sSs ok b y h3)) fun D σ H ⟨W, env, S, sm, er, q⟩ => Den.stepS q sm er fun v S1 W1 b1 H1 e1 l1 s1 n1 r1 p1 => ?_
      have r1 : b1 = v := r1
      subst r1
      cases b1 with
      | true => exact iteT ⟨W1, env, S1, s1, n1, p1⟩
      | false => exact iteF ⟨W1, env, S1, s1, n1, p1⟩
    | _ => cases h
  | .for_ kk src many tg body, st, h => by
    cases st with
    | For t it b oe p =>
      cases oe with
      | cons _ _ => cases h
      | nil =>
        obtain ⟨h1, h⟩ := ba h
        obtain ⟨h2, h⟩ := ba h
        obtain ⟨h3, h4⟩ := ba h
        exact for_src ok (ok.calm h4) h1 (sTg ok h2) (sSs ok body b h3)
    | _ => cases h
  | .while_ n t body, st, h => by
    cases st with
    | While c b oe p =>
      cases oe with
      | cons _ _ => cases h
      | nil =>
        refine PS.imp (ps_while ok.pas (sC ok t c (ba h).1) (sSs ok body b (ba h).2)) fun D σ H q => ?_
        exact ⟨fun m σ H => DenS G Wx (fun env S => whileL (fun env S => dB G.tab call t env S) (fun env S => dSs G.tab call body env S) m env S) D σ H, ⟨n, q⟩, fun m σ H h => while_den m h⟩
    | _ => cases h
  | .ret e, st, h => by
    cases st with
    | Return v p =>
      cases v with
      | none => cases h
      | some x =>
        exact PS.imp (ps_ret (sE ok e x h)) fun D σ H ⟨W, env, S, sm, er, q⟩ => Den.stepS q sm er fun v S1 W1 b H1 e1 l1 s1 n1 r1 p1 => p1 W1 b H1 (.refl W1) s1 r1
    | _ => cases h
  | .retN, st, h => by
    cases st with
    | Return v p =>
      cases v with
      | some _ => cases h
      | none => exact PS.imp ps_retN fun D σ H ⟨W, env, S, sm, er, q⟩ => q W .non H (.refl W) sm .non
    | _ => cases h
  | .raise c es, st, h => by
    obtain ⟨x, p, m, j, p2, q, p3, rfl, h1, h2, h3, h4⟩ := iv_raise h
    rw [ok.nm] at h3
    subst h3
    refine ⟨fun pins s σ H D I ⟨W, env, S, sm, er, q⟩ => ?_⟩
    have q : PostS G Wx W (if ((G.tab.exc c).isSome && G.tab.exr c) = true then .ex ⟨c, []⟩ env S else .bad) D := q
    cases hc : G.tab.exc c with
    | none => rw [hc] at q; exact (show False from q).elim
    | some l =>
      rw [hc] at q
      cases hr : G.tab.exr c with
      | false => rw [hr] at q; exact (show False from q).elim
      | true =>
      rw [hr] at q
      have q : PostS G Wx W (.ex ⟨c, []⟩ env S) D := q
      have F := ok.exc c l hc
      refine (ps_raise (ok.calm h4) ok.tk (pmk_own (C := G.eA c) PySem.F.excBase_ValueError (by rw [ok.K]; exact (F.ex hr).1) (by rw [ok.mg]; exact F.mg) (by rw [ok.K]; exact (F.ex hr).2) (raises_own (by rw [ok.K]; exact F.sub) (by rw [ok.K]; exact F.ty)) (ok.kindOf h1) (okN_1 h2))).run pins s σ H D I ?_
      exact q W σ _ none H (.refl W) sm er ⟨rfl, .inl ⟨rfl, rfl⟩⟩
  | .try_ b cs nm su, st, h => by
    obtain ⟨bd, y, n, s0, ss, d, h0, rfl, h1, h2, h3, h4, h5, h6, h7, h8⟩ := iv_try h
    obtain ⟨np, p1, p2, rfl⟩ := tryP_ok h0
    obtain ⟨hst, hfr⟩ := ok.stk h1
    rw [ok.nm] at h6
    subst h6
    rw [ok.tab] at h7
    obtain ⟨ld, hld⟩ := Option.isSome_iff_exists.mp h7
    have hG : G.hs = none := by
      have z := ok.hs
      rw [h2] at z
      exact Option.map_eq_none_iff.mp z
    have hN : Names X (G.nm.exN d) (.ref (G.eA d)) := ⟨ok.kindOf h4, okN_1 h5, .inl (by rw [ok.mg]; exact (ok.exc d ld hld).mg)⟩
    have one : ∀ {x : Exn} {H' : Hp} {cls : Value} {od : Option Addr} {lx : List Nat}, G.tab.exc x.c = some lx → ExRep G H' cls od x → PySem.W.exmOne X.K cls (.ref (G.eA d)) = some (lx.contains d) := fun {x H' cls od lx} e r => by
      rw [r.c, ok.K]
      exact ((ok.exc x.c lx e).kO lx e d ld hld).2
    rcases h8 with ⟨rfl, rfl, h8⟩ | ⟨i, z, rfl, rfl, h9, h10, h8⟩
    · refine PS.imp (ps_try_only (ts := fun _ _ _ => tSs G (fun _ _ _ _ => False) call su) (tb := fun W => tSs G W call b) hst hfr hN ok.tk (fun W' pn xe tk pas => sSs (ok.tr h2 tk pas) b bd h3)
        (fun a oe cls od pn _ _ => sSs (ok.suO h2 a ((a, oe) :: pn)) su (s0 :: ss) h8)) fun D σ H ⟨W, env, S, sm, er, q⟩ => ⟨W, env, S, sm, er, try_body (X := X) q fun x env1 S1 q2 => ?_⟩
      rw [excIn_1 hld] at q2
      cases e : G.tab.exc x.c with
      | none => rw [e] at q2; exact (show False from q2).elim
      | some lx =>
        rw [e] at q2
        intro W' σ' cls od H' l s' e' r'
        refine ⟨lx.contains d, one e r', fun hb a ha => ?_, fun hb => ?_⟩
        · have q2 : PostS G Wx W (match some (lx.contains d) with
            | some true => if x.fs.isEmpty then (dSs G.tab call su env1 S1).noex else .bad
            | some false => .ex x env1 S1
            | none => .bad) D := q2
          rw [hb] at q2
          have q2 : PostS G Wx W (if x.fs.isEmpty then (dSs G.tab call su env1 S1).noex else .bad) D := q2
          cases he : x.fs.isEmpty with
          | false => rw [he] at q2; exact (show False from q2).elim
          | true =>
            rw [he] at q2
            exact ⟨W', env1, S1, s', e', PostS.mono (post_noex q2) l⟩
        · have q2 : PostS G Wx W (match some (lx.contains d) with
            | some true => if x.fs.isEmpty then (dSs G.tab call su env1 S1).noex else .bad
            | some false => .ex x env1 S1
            | none => .bad) D := q2
          rw [hb] at q2
          exact q2 W' σ' cls od H' l s' e' r'
    · have hi : X.N[i]? = some z := by rw [ok.N]; exact h9
      have hk : X.env.kindOf z = some .local := by
        show X.env.scope.names.lookup z = _
        rw [ok.sc]
        exact h10
      refine PS.imp (ps_try_as (ts := fun a cls od D σ H => ∃ c l, cls = .ref (G.eA c) ∧ od = none ∧ G.tab.exc c = some l ∧ tSs (G.hd (some (i, a, c))) (fun _ _ _ _ => False) call su D σ H) (tb := fun W => tSs G W call b) hst hfr ok.nd hi hk hN ok.tk (fun W' pn xe tk pas => sSs (ok.tr h2 tk pas) b bd h3)
        (fun a oe cls od pn hz hf => ⟨fun pins s σ H D I ⟨c, l, e1, e2, hl, q⟩ => by
          subst e1 e2
          exact (sSs (ok.suA i a c oe pn hz hf hl) su (s0 :: ss) h8).run pins s σ H D I q⟩)) fun D σ H ⟨W, env, S, sm, er, q⟩ => ⟨W, env, S, sm, er, try_body (X := X) q fun x env1 S1 q2 => ?_⟩
      rw [excIn_1 hld] at q2
      cases e : G.tab.exc x.c with
      | none => rw [e] at q2; exact (show False from q2).elim
      | some lx =>
        rw [e] at q2
        intro W' σ' cls od H' l s' e' r'
        refine ⟨lx.contains d, one e r', fun hb a ha => ?_, fun hb => ?_⟩
        · have q2 : PostS G Wx W (match some (lx.contains d) with
            | some true => if x.fs.isEmpty then (dSs G.tab call su (env1.set i (some (.t (.exn x.c [])))) S1).gone i else .bad
            | some false => .ex x env1 S1
            | none => .bad) D := q2
          rw [hb] at q2
          have q2 : PostS G Wx W (if x.fs.isEmpty then (dSs G.tab call su (env1.set i (some (.t (.exn x.c [])))) S1).gone i else .bad) D := q2
          cases he : x.fs.isEmpty with
          | false => rw [he] at q2; exact (show False from q2).elim
          | true =>
            rw [he] at q2
            have hod : od = none := by
              rcases r'.f with ⟨_, z⟩ | ⟨z, _⟩
              · exact z
              · exact absurd (List.isEmpty_iff.mp he) z
            exact ⟨x.c, lx, r'.c, hod, e, W', _, S1, s'.hd, e'.held hG i a x.c, PostS.mono (post_gone hG q2) l⟩
        · have q2 : PostS G Wx W (match some (lx.contains d) with
            | some true => if x.fs.isEmpty then (dSs G.tab call su (env1.set i (some (.t (.exn x.c [])))) S1).gone i else .bad
            | some false => .ex x env1 S1
            | none => .bad) D := q2
          rw [hb] at q2
          exact q2 W' σ' cls od H' l s' e' r'
  | .cont, st, h => by
    cases st with
    | Continue p => exact PS.imp ps_continue fun D σ H ⟨W, env, S, sm, er, q⟩ => q W σ H (.refl W) sm er
    | _ => cases h
  | .brk, st, h => by
    cases st with
    | Break p => exact PS.imp ps_break fun D σ H ⟨W, env, S, sm, er, q⟩ => q W σ H (.refl W) sm er
    | _ => cases h
theorem sSs {G : Gd} {C : Ck} {X : Cx} {Wx : WX} (ok : XOk G C X Wx k call) : ∀ (is : ISs) (sts : List Stmt), chkSs C is sts = true → PSs X sts (tSs G Wx call is)
  | .nil, [], _ => PSs.imp pss_nil fun D σ H ⟨W, env, S, sm, er, q⟩ => q W σ H (.refl W) sm er
  | .cons s ss, x :: xs, h => PSs.imp (pss_cons (sS ok s x (ba h).1) (sSs ok ss xs (ba h).2)) fun D σ H ⟨W, env, S, sm, er, q⟩ => ⟨W, env, S, sm, er, seq_st q⟩
  | .nil, _ :: _, h => by cases h
  | .cons _ _, [], h => by cases h
end
end
end Rw

namespace Rw
open PySem PySem.Spec PyProof.Rows L2
/-! ### a def -/
theorem toT_r (S : Store) (n : Nat) : toT S (.r n) = (match S[n]? with
    | some (.lst vs) => (allT vs).map fun xs => (.lst xs, S.set n .dead)
    | some (.ins c fs) => (allF fs).map fun xs => (.ins c xs, S.set n .dead)
    | _ => none) := rfl
theorem locB_ok {sc : Scope} {x : Str} (h : locB sc x = true) : L2.Loc sc x := by
  unfold locB at h
  unfold L2.Loc
  cases q : sc.names.lookup x with
  | none => rw [q] at h; cases h
  | some k =>
    rw [q] at h
    cases k with
    | «local» => exact .inl rfl
    | cell => exact .inr rfl
    | _ => cases h
def ckOf (hot : Bool) (N : List Str) (sc : Scope) (nm : Nm) (tab : Tab) (glF : Nat → Bool) : Ck := ⟨N, sc, nm, tab, glF, !hot, locB sc, true, if hot then some 0 else none⟩
/-- what is known of the ground -/
structure GOk (G : Gd) (glF : Nat → Bool) : Prop where
  free : ∀ x : Str, x ∈ ["len", "int", "str", "min", "max", "abs", "list", "tuple", "all", "any", "sum", "divmod", "sorted", "bool", "isinstance", "range", "enumerate", "zip", "dict", "set", "ValueError"].map Str.ofString → G.mg x = none
  gl : ∀ f, glF f = true → G.mg (G.nm.fnN f) = some (.ref (G.fA f)) ∧ PySem.W.keepIn G.K (.ref (G.fA f)) = true
  cls : ∀ (c : Nat) (cl : Cl), G.tab.cl c = some cl → ClsFact G c cl
  okf : ∀ f g, f < G.nAt → g < G.nAt → G.nm.atN f = G.nm.atN g → f = g
  con : ∀ g t, G.tab.con g = some t → ∃ v u, G.mg (G.nm.coN g) = some u ∧ RelV v u ∧ (∀ F, Rep G F v t) ∧ ∀ ts, t = .tup ts → ∃ p o, v = .ref p ∧ G.K.lookup p = some o ∧ o.cls = .type "tuple" ∧ o.dict = none
  exc : ∀ c l, G.tab.exc c = some l → ExcFact G c
  dc : ∀ g kvs, G.tab.dc g = some kvs → DcFact G g kvs
theorem env_start {G : Gd} {W : Wd} {N : List Str} {vs : List V} {ds : List Val} {np ns : Nat} (r : Paired (RepV G W) vs ds) (hl : ds.length = np) (hn : N.length = ns) : EnvRep G W (L2.start N vs) (ds.map some ++ List.replicate (ns - np) none) := by
  have l2 := Paired.length r
  refine ⟨?_, fun i v e => ?_⟩
  · unfold L2.start
    rw [List.length_append, List.length_map, List.length_replicate, List.length_append, List.length_map, List.length_replicate, l2, hn, hl]
  · have hi : i < ds.length := by
      by_cases hi : i < ds.length
      · exact hi
      · rw [List.getElem?_append_right (by simpa using hi), List.getElem?_replicate] at e
        split at e <;> cases e
    rw [List.getElem?_append_left (by simpa using hi), List.getElem?_map] at e
    cases q : ds[i]? with
    | none => rw [q] at e; cases e
    | some d =>
      rw [q] at e
      cases e
      obtain ⟨x, h1, h2⟩ := Paired.get r q
      refine ⟨x, ?_, .inl h2⟩
      unfold L2.start
      rw [List.getElem?_append_left (by rw [List.length_map, l2]; exact hi), List.getElem?_map, h1]
      rfl
section
variable {G : Gd} {W W1 : Wd} {S S1 : Store} {H H1 : Hp}
/-- the world within a pure def -/
def Wd.inner (W : Wd) (H : Hp) : Wd := ⟨W.F, H, 0, fun _ => 0⟩
theorem Sim.inner (s : Sim G W S H) : Sim G (W.inner H) [] H where
  fz := s.fz
  len := rfl
  live := fun k c e => by simp at e
  inj := fun j k c d e => by simp at e
  fr := Same.refl _
/-- the world behind it -/
def Wd.outer (W : Wd) (F : Hp) : Wd := { W with F := F }
theorem outer_le (s : Sim G W S H) (l : (W.inner H).le W1) {F : Hp} (hF : Same W1.F F) (hn : ∀ a o, F a = some o → W1.F a = some o ∨ H a = none) : W.le (W.outer F) where
  f := fun a o e => hF a o (l.f a o e)
  new := fun a o e => by
    rcases hn a o e with h | h
    · rcases l.new a o h with h | h
      · exact .inl h
      · exact .inr (s.fr.free h)
    · exact .inr (s.fr.free h)
  b := rfl
  n := Nat.le_refl _
  at_ := fun _ _ => rfl
theorem outer_sim (s : Sim G W S H) (l : (W.inner H).le W1) (s1 : Sim G W1 S1 H1) {F : Hp} (hF : Same W1.F F) (hn : ∀ a o, F a = some o → W1.F a = some o ∨ H a = none) (hH : Same F H1) : Sim G (W.outer F) S H1 where
  fz := hH
  len := s.len
  live := fun k c e d => by
    obtain ⟨h1, h2, o, h3, h4⟩ := s.live k c e d
    refine ⟨?_, h2, o, s1.fr _ _ (by rw [l.b]; exact h3), h4.mono (outer_le s l hF hn)⟩
    show F (W.at_ k) = none
    cases q : F (W.at_ k) with
    | none => rfl
    | some u =>
      rcases hn _ _ q with z | z
      · rcases l.new _ _ z with z | z
        · have z : W.F (W.at_ k) = some u := z
          rw [h1] at z
          cases z
        · have z : H (W.at_ k) = none := z
          rw [h3] at z
          cases z
      · rw [h3] at z
        cases z
  inj := s.inj
  fr := fun a o e => s1.fr a o (by rw [l.b]; exact s.fr a o e)
end
section
variable {G : Gd} {W : Wd} {S : Store} {H : Hp} {Q : VK} {E : XK} {d : Fn} {call : Call} {vs : List V} {ds : List Val} {N : List Str}
theorem run_body0 {σ : L2.St} (h : Post G (RepV G) (fun c o _ H => E c o H) [] W (runFn G.tab call d ds S) Q) (s : Sim G W S H) (hl : ds.length = d.np) (er : EnvRep G W σ (ds.map some ++ List.replicate (d.ns - d.np) none))
    (er2 : ∀ xs, allT ds = some xs → EnvRep G (W.inner H) σ (ds.map some ++ List.replicate (d.ns - d.np) none)) :
    tSs G (fun c o _ H => E c o H) call d.body { nx := fun _ H' => Q .non H', rt := Q } σ H := by
  unfold runFn at h
  rw [if_pos hl] at h
  cases hp : d.pure with
  | false =>
    rw [hp] at h
    refine ⟨W, _, S, s, er, ?_⟩
    have h : Post G (RepV G) (fun c o _ H => E c o H) [] W (match dSs G.tab call d.body (ds.map some ++ List.replicate (d.ns - d.np) none) S with
      | .nx _ S1 => .ok (.t .non) S1
      | .rt v S1 => .ok v S1
      | .ex x _ S1 => .ex x S1
      | _ => .bad) Q := h
    cases q : dSs G.tab call d.body (ds.map some ++ List.replicate (d.ns - d.np) none) S with
    | nx env S1 =>
      rw [q] at h
      exact fun W' σ H' l s' _ => h W' .non H' l s' .non
    | rt v S1 =>
      rw [q] at h
      exact fun W' x H' l s' r' => h W' x H' l s' r'
    | ex x env S1 =>
      rw [q] at h
      exact fun W' σ cls od H' l s' _ e' => h W' cls od H' l s' e'
    | bk env S1 => rw [q] at h; exact h.elim
    | ct env S1 => rw [q] at h; exact h.elim
    | bad => rw [q] at h; exact h.elim
  | true =>
    rw [hp] at h
    cases ha : allT ds with
    | none => rw [ha] at h; exact (show False from h).elim
    | some xs =>
      rw [ha] at h
      have h : Post G (RepV G) (fun c o _ H => E c o H) [] W (match dSs G.tab call d.body (ds.map some ++ List.replicate (d.ns - d.np) none) [] with
        | .nx _ _ => .ok (.t .non) S
        | .rt v S1 => (match toT S1 v with
          | some (x, _) => .ok (.t x) S
          | none => .bad)
        | .ex x _ _ => .ex x S
        | _ => .bad) Q := h
      refine ⟨W.inner H, _, [], s.inner, er2 xs ha, ?_⟩
      cases q : dSs G.tab call d.body (ds.map some ++ List.replicate (d.ns - d.np) none) [] with
      | nx env S1 =>
        rw [q] at h
        exact fun W' σ H' l s' _ => h (W.outer W'.F) .non H' (outer_le s l (Same.refl _) fun a o e => .inl e) (outer_sim s l s' (Same.refl _) (fun a o e => .inl e) s'.fz) .non
      | rt v S1 =>
        rw [q] at h
        have h : Post G (RepV G) (fun c o _ H => E c o H) [] W (match toT S1 v with
          | some (x, _) => .ok (.t x) S
          | none => .bad) Q := h
        intro W' x H' l s' r'
        cases v with
        | t t => exact h (W.outer W'.F) x H' (outer_le s l (Same.refl _) fun a o e => .inl e) (outer_sim s l s' (Same.refl _) (fun a o e => .inl e) s'.fz) r'
        | r n =>
          obtain ⟨hn2, ex⟩ := r'
          subst ex
          cases q2 : toT S1 (.r n) with
          | none => rw [q2] at h; exact h.elim
          | some p =>
            obtain ⟨t, S2⟩ := p
            rw [q2] at h
            obtain ⟨o, ho, l2, s2, rt, hb⟩ := toT_bury s' q2
            have hB : H (W'.at_ n) = none := by
              have z : W'.B (W'.at_ n) = none := hb
              rw [l.b] at z
              exact z
            have hn3 : ∀ a u, upd W'.F (W'.at_ n) o a = some u → W'.F a = some u ∨ H a = none := fun a u e => by
              by_cases z : a = W'.at_ n
              · exact .inr (by rw [z]; exact hB)
              · rw [upd_ne z] at e
                exact .inl e
            exact h (W.outer (upd W'.F (W'.at_ n) o)) _ H' (outer_le s l l2.f hn3) (outer_sim s l s' l2.f hn3 s2.fz) rt
      | ex x env S1 =>
        rw [q] at h
        exact fun W' σ cls od H' l s' _ e' => h (W.outer W'.F) cls od H' (outer_le s l (Same.refl _) fun a o e => .inl e) (outer_sim s l s' (Same.refl _) (fun a o e => .inl e) s'.fz) e'
      | bk env S1 => rw [q] at h; exact h.elim
      | ct env S1 => rw [q] at h; exact h.elim
      | bad => rw [q] at h; exact h.elim
theorem run_body (h : Post G (RepV G) (fun c o _ H => E c o H) [] W (runFn G.tab call d ds S) Q) (s : Sim G W S H) (r : Paired (RepV G W) vs ds) (hl : ds.length = d.np) (hn : N.length = d.ns) :
    tSs G (fun c o _ H => E c o H) call d.body { nx := fun _ H' => Q .non H', rt := Q } (L2.start N vs) H :=
  run_body0 h s hl (env_start r hl hn) fun xs ha => by
    have r2 : Paired (RepV G (W.inner H)) vs ds := by
      have rl := allT_rep r ha
      have go : ∀ {vs : List V} {ds : List Val} {xs : List T}, Paired (RepV G W) vs ds → allT ds = some xs → Paired (RepV G (W.inner H)) vs ds := fun {vs ds xs} r => by
        induction r generalizing xs with
        | nil => exact fun _ => .nil
        | @cons a b l1 l2 ra _ ih =>
          intro e
          cases b with
          | r n => cases e
          | t x =>
            obtain ⟨ys, e2, _⟩ := Option.map_eq_some_iff.mp (show (allT l2).map (x :: ·) = some xs from e)
            exact .cons (show Rep G W.F a x from ra) (ih e2)
      exact go r ha
    exact env_start r2 hl hn
/-- the exception, in the callee's own slot -/
theorem env_hot {G : Gd} {W : Wd} {N : List Str} {a : Addr} {c ns : Nat} (hG : G.hs = some (0, a, c)) (hn : N.length = ns) : EnvRep G W (L2.start N [.ref a]) ([Val.t (.exn c [])].map some ++ List.replicate (ns - 1) none) := by
  refine ⟨?_, fun i v e => ?_⟩
  · unfold L2.start
    rw [List.length_append, List.length_map, List.length_replicate, List.length_append, List.length_map, List.length_replicate, hn]
    rfl
  · cases i with
    | succ i =>
      rw [List.getElem?_append_right (by simp)] at e
      rw [List.getElem?_replicate] at e
      split at e <;> cases e
    | zero =>
      cases e
      exact ⟨.ref a, rfl, .inr ⟨a, c, hG, rfl, rfl⟩⟩
end
/-- a def as it stands, with the small language's term for it -/
structure DefOk (G : Gd) (glF : Nat → Bool) (f : Nat) (d : Fn) : Prop where
  ex : ∃ (x qual : Str) (params : Arguments) (body : List Stmt) (scope : Scope) (dvs : List V) (fd : FuncData) (N ps : List Str), FunD G.K x qual params body scope dvs [] (G.fA f) fd ∧ FnScope N ps scope ∧
    ps.length = d.np ∧ N.length = d.ns ∧ chkSs (ckOf d.hot N scope G.nm G.tab glF) d.body body = true ∧
    ∀ m, m ≤ d.np → d.np - m ≤ d.dfl.length → ∃ (ds : List Value) (es : List V), Binds G.K fd ps ds ∧ Vals es ds ∧ ∀ W, Paired (RepV G W) es (dflV d m)
/-- what is known of the callees -/
structure Callees (G : Gd) (base : Heap) (k : Nat) (call : Call) : Prop where
  a : ∀ (f : Nat) (d : Fn), G.tab.fn f = some d → d.hot = false → ∃ run : List Val → Store → R Val, (∀ vs S, call f vs S = run (vs ++ dflV d vs.length) S) ∧ FnFact G base k f d run
  b : ∀ (f : Nat) (d : Fn), G.tab.fn f = some d → d.hot = true → ∃ run : List Val → Store → R Val, (∀ vs S, call f vs S = run (vs ++ dflV d vs.length) S) ∧ HotFact G base k f d run
theorem fn_ok_of {G : Gd} (hG : G.hs = none) {glF : Nat → Bool} {base : Heap} {k : Nat} {call : Call} {d : Fn} {x qual : Str} {params : Arguments} {body : List Stmt} {scope : Scope} {dvs : List V} {fd : FuncData} {N ps : List Str} {f : Addr} (g : GOk G glF) (F : FunD G.K x qual params body scope dvs [] f fd) (Sc : FnScope N ps scope)
    (hps : ps.length = d.np) (hN : N.length = d.ns) (hc : chkSs (ckOf false N scope G.nm G.tab glF) d.body body = true) (fns : Callees G base k call) :
    FnOk G.prog G.w G.K G.mg base (L2.CX G.prog G.w) (k + 2) f fd ps (spR G d.np (runFn G.tab call d)) := by
  refine F.ok (CX := L2.CX G.prog G.w) (N := N) (k := k + 1) Sc (fun vs H Q E ⟨W, S, ds, s, r, hl, _⟩ => by rw [Paired.length r, hl, hps]) fun cdv A outer s H vs Q E hr ⟨W, S, ds, sm, r, hl, p⟩ => ?_
  refine ⟨tSs G (fun c o _ H => E c o H) call d.body, ?_, run_body p sm r hl hN⟩
  refine sSs (C := ckOf false N scope G.nm G.tab glF) (k := k) ?_ d.body body hc
  exact { prog := rfl, w := rfl, K := rfl, mg := rfl, N := rfl, nd := Sc.nd, sc := rfl, room := fun _ => hr, roomH := L2H.roomH_of hr, fnsH := fns.b, hu := hr.units, hs := by rw [hG]; rfl, cs := fun _ => rfl, hx := fun i a c e => by rw [hG] at e; cases e
          stk := fun _ => ⟨rfl, rfl⟩, calm := fun _ => rfl, tk := takes_of rfl rfl rfl rfl, pas := passes_of rfl, tab := rfl, nm := rfl, free := g.free, gl := g.gl, cls := g.cls, okf := g.okf, con := g.con, exc := g.exc, dc := g.dc, fns := fun _ => fns.a,
          can := fun i x hi hx => ⟨locB_ok hx, .inl rfl⟩ }
theorem fn_fact {G : Gd} (hG : G.hs = none) {glF : Nat → Bool} {base : Heap} {k : Nat} {call : Call} {f : Nat} {d : Fn} (g : GOk G glF) (hh : d.hot = false) (D : DefOk G glF f d) (fns : Callees G base k call) : FnFact G base (k + 2) f d (runFn G.tab call d) := by
  obtain ⟨x, qual, params, body, scope, dvs, fd, N, ps, F, Sc, hps, hN, hc, hb⟩ := D.ex
  rw [hh] at hc
  exact ⟨fd, ps, fn_ok_of hG g F Sc hps hN hc fns, hb⟩
theorem GOk.hd {G : Gd} {glF : Nat → Bool} (g : GOk G glF) (h : Option (Nat × Addr × Nat)) : GOk (G.hd h) glF where
  free := g.free
  gl := g.gl
  cls := fun c cl h => let D := g.cls c cl h; { cls := D.cls, ha := D.ha, hn := D.hn, htk := D.htk, hm := D.hm, isB := fun t ht => by have z := D.isB t ht; cases t <;> exact z, isC := D.isC, isD := D.isD, mg := D.mg, na := D.na, mt := D.mt, mkf := D.mkf }
  okf := g.okf
  con := fun g' t h => by
    obtain ⟨v, u, h1, h2, h3, h4⟩ := g.con g' t h
    exact ⟨v, u, h1, h2, fun F => (h3 F).hd, h4⟩
  exc := fun c l h => let D := g.exc c l h; { mg := D.mg, ex := D.ex, sub := D.sub, ty := D.ty, isE := D.isE, ve := D.ve, kO := D.kO }
  dc := fun g' kvs h => ⟨(g.dc g' kvs h).ex⟩
theorem binds_np {G : Gd} {d : Fn} {fd : FuncData} {ps : List Str} (hb : ∀ m, m ≤ d.np → d.np - m ≤ d.dfl.length → ∃ (ds : List Value) (es : List V), Binds G.K fd ps ds ∧ Vals es ds ∧ ∀ W, Paired (RepV G W) es (dflV d m)) : Binds G.K fd ps [] := by
  obtain ⟨ds, es, z, v, w⟩ := hb d.np (Nat.le_refl _) (by omega)
  have w := w ⟨fun _ => none, fun _ => none, 0, fun _ => 0⟩
  have e : dflV d d.np = [] := by
    unfold dflV
    rw [Nat.sub_self, Nat.sub_zero, List.drop_length]
    rfl
  rw [e] at w
  cases w
  cases v
  exact z
/-- .. of a def that is called with the exception that is handled -/
theorem fn_hot {G : Gd} {glF : Nat → Bool} {base : Heap} {k : Nat} {call : Call} {f : Nat} {d : Fn} (g : GOk G glF) (hh : d.hot = true) (D : DefOk G glF f d) (fns : Callees G base k call) : HotFact G base (k + 2) f d (runFn G.tab call d) := by
  refine ⟨fun h1 => ?_⟩
  obtain ⟨x, qual, params, body, scope, dvs, fd, N, ps, F, Sc, hps, hN, hc, hb⟩ := D.ex
  rw [hh] at hc
  obtain ⟨q, rfl⟩ : ∃ q, ps = [q] := by
    rw [h1] at hps
    cases ps with
    | nil => cases hps
    | cons q ps =>
      cases ps with
      | nil => exact ⟨q, rfl⟩
      | cons _ _ => cases hps
  have hbd := binds_np hb
  refine ⟨fd, q, hbd, fun h A outer s H args W S a oe c l Q hr hpin e0 bt hz hf hl sm p => ?_⟩
  obtain ⟨oc, od, dV, kV, doc, pm, an, cdv, ct, osl, rfl, lk, hcd, _, _⟩ := F.ex
  have KX : G.K.In s.heap := e0.mod.kin.keeps fun b o e => (e0.bs b o e).1
  have lim : s.heap.NoLimit := e0.mod.nolimit.keeps fun b o e => (e0.bs b o e).1
  have hkind : ∀ y ∈ [(q, Value.ref a)], scope.names.lookup y.1 = some .local ∨ (scope.names.lookup y.1 = some .cell ∧ ((cellsFrom (s.heap.objs.size + 1) scope.names []).lookup y.1).isSome = true) := fun y hy => by
    rw [List.mem_singleton] at hy
    subst hy
    rcases Sc.par q List.mem_cons_self with z | z
    · exact .inl z
    · exact .inr ⟨z, PySem.W.cellsFrom_some _ _ _ (.inl z)⟩
  refine codeAny_call_function hr.depth (KX _ _ lk) rfl Sc.co Sc.gen rfl (PySem.W.codeRec_of KX hcd) (bt _ _ _ _ ?_)
  refine wpAny_newFunctionEnv_cells Sc.kind hkind fun env he s1 xc => ?_
  subst he
  refine ⟨lim.keeps xc.toInCall.keep, codeAny_func ?_⟩
  have hrD := hr.deeper (envOfC qual scope s.heap.objs.size ((G.fA f)) cdv)
  have ok : XOk (G.hd (some (0, a, c))) (ckOf true N scope G.nm G.tab glF) (L2H.cxH (L2.CX G.prog G.w) G.prog G.w G.K G.mg base N qual scope (G.fA f) cdv A outer s H (fun _ _ _ => False) (a, oe)) (fun _ _ _ _ => False) k call :=
    have g' := g.hd (some (0, a, c))
    { prog := rfl, w := rfl, K := rfl, mg := rfl, N := rfl, nd := Sc.nd, sc := rfl, room := fun z => absurd (show false = true from z) Bool.false_ne_true, roomH := hrD, hu := (by have z := hrD.un; show (A.deeper (envOfC qual scope s.heap.objs.size (G.fA f) cdv)).units + 64 < cLine; omega), hs := rfl, cs := fun z => absurd (show false = true from z) Bool.false_ne_true,
      hx := fun i a' c' e => by
        have e : some (0, a, c) = some (i, a', c') := e
        cases e
        exact ⟨oe, List.mem_cons_self, hz, hf, l, hl⟩
      stk := fun _ => ⟨rfl, rfl⟩, calm := fun z => absurd (show false = true from z) Bool.false_ne_true, tk := takes_of rfl rfl rfl rfl, pas := passes_of rfl, tab := rfl, nm := rfl, free := g'.free, gl := g'.gl, cls := g'.cls, okf := g'.okf, con := g'.con, exc := g'.exc, dc := g'.dc,
      fns := fun z => absurd (show false = true from z) Bool.false_ne_true, fnsH := fun f d h1 h2 => let ⟨run, e, F⟩ := fns.b f d h1 h2; ⟨run, e, ⟨F.ex⟩⟩,
      can := fun i x hi hx => ⟨locB_ok hx, .inl rfl⟩ }
  have back : ∀ {W' : Wd} {S : Store} {H : Hp}, Sim (G.hd (some (0, a, c))) W' S H → Sim (G.hd h) W' S H := fun s => Sim.hd (G := G.hd (some (0, a, c))) (h := h) s
  have p2 : Post (G.hd (some (0, a, c))) (RepV (G.hd (some (0, a, c)))) (fun _ _ _ _ => False) [] W (runFn G.tab call d [.t (.exn c [])] S) Q := by
    cases hr2 : runFn G.tab call d [.t (.exn c [])] S with
    | ok v S1 =>
      rw [hr2] at p
      exact fun W' b H' l' s' r' => p W' b H' l' (back s') (RepV.hd (G := G.hd (some (0, a, c))) (h := h) r')
    | ex x S1 =>
      rw [hr2] at p
      exact fun W' cls od H' l' s' e' => p W' cls od H' l' (back s') ⟨e'.c, by
        rcases e'.f with z | ⟨z, dd, gs, z1, z2, z3⟩
        · exact .inl z
        · exact .inr ⟨z, dd, gs, z1, z2, RepF.hd (G := G.hd (some (0, a, c))) (h := h) _ _ z3⟩⟩
    | bad => rw [hr2] at p; exact p
  have ht := sSs ok d.body body hc
  have hq := run_body0 (G := G.hd (some (0, a, c))) (E := fun _ _ _ => False) (call := call) (d := d) (σ := L2.start N [.ref a]) p2 (Sim.hd (G := G.hd h) (h := some (0, a, c)) sm) h1.symm (by rw [h1]; exact env_hot rfl hN) (fun _ _ => by rw [h1]; exact env_hot rfl hN)
  have I : Inv (L2H.cxH (L2.CX G.prog G.w) G.prog G.w G.K G.mg base N qual scope (G.fA f) cdv A outer s H (fun _ _ _ => False) (a, oe)) [] (L2.start N [.ref a]) H s1 := L2H.inv_startH Sc hpin e0 rfl (.cons rfl .nil) xc
  refine wpAny_mono (ht.run [] s1 (L2.start N [.ref a]) H _ I hq) (fun fl s' hs => ?_) fun e s' hs => hs
  have fin : ∀ {σ' : L2.St} {H' : Hp} {v : V} {u : Value}, Inv (L2H.cxH (L2.CX G.prog G.w) G.prog G.w G.K G.mg base N qual scope (G.fA f) cdv A outer s H (fun _ _ _ => False) (a, oe)) [] σ' H' s' → RelV v u → Q v H' → CE outer G.prog G.w H s Q u s' :=
    fun {σ' H' v u} J rv q => ⟨v, H', J.os, J.bare, J.base, J.hok, rv, q⟩
  cases fl with
  | ret u =>
    obtain ⟨v, σ', H', J, rv, q⟩ := hs
    exact fin J rv q
  | next =>
    obtain ⟨σ', H', J, q⟩ := hs
    exact fin (v := V.non) (u := Value.none) J rfl q
  | brk =>
    obtain ⟨_, _, _, q⟩ := hs
    exact False.elim q
  | cont =>
    obtain ⟨_, _, _, q⟩ := hs
    exact False.elim q
/-- all defs, at any depth of calls -/
theorem all_facts {G : Gd} (hG : G.hs = none) {glF : Nat → Bool} {base : Heap} (g : GOk G glF) (hd : ∀ f d, G.tab.fn f = some d → DefOk G glF f d) : ∀ n, Callees G base (2 * n) (callF G.tab n)
  | 0 => ⟨fun f d hf _ => by
    refine ⟨fun _ _ => .bad, fun _ _ => rfl, ?_⟩
    obtain ⟨x, qual, params, body, scope, dvs, fd, N, ps, F, Sc, hps, hN, hc, hb⟩ := (hd f d hf).ex
    exact ⟨fd, ps, ⟨fun vs H Q E ⟨W, S, ds, s, r, hl, _⟩ => by rw [Paired.length r, hl, hps], fun A outer s H args us vs Q E _ _ _ _ ⟨W, S, ds, _, _, _, p⟩ => (show False from p).elim⟩, hb⟩, fun f d hf h => by
    refine ⟨fun _ _ => .bad, fun _ _ => rfl, ⟨fun h1 => ?_⟩⟩
    obtain ⟨x, qual, params, body, scope, dvs, fd, N, ps, F, Sc, hps, hN, hc, hb⟩ := (hd f d hf).ex
    obtain ⟨q, rfl⟩ : ∃ q, ps = [q] := by
      rw [h1] at hps
      cases ps with
      | nil => cases hps
      | cons q ps =>
        cases ps with
        | nil => exact ⟨q, rfl⟩
        | cons _ _ => cases hps
    exact ⟨fd, q, binds_np hb, fun h A outer s H args W S a oe c l Q _ _ _ _ _ _ _ _ p => (show False from p).elim⟩⟩
  | n + 1 => by
    have cl : ∀ (f : Nat) (d : Fn), G.tab.fn f = some d → ∀ vs S, callF G.tab (n + 1) f vs S = runFn G.tab (callF G.tab n) d (vs ++ dflV d vs.length) S := fun f d hf vs S => by
      show (match G.tab.fn f with
        | none => R.bad
        | some d => runFn G.tab (callF G.tab n) d (vs ++ (d.dfl.drop (d.dfl.length - (d.np - vs.length))).map Val.t) S) = _
      rw [hf]
      rfl
    exact ⟨fun f d hf h => ⟨_, cl f d hf, fn_fact hG g h (hd f d hf) (all_facts hG g hd n)⟩, fun f d hf h => ⟨_, cl f d hf, fn_hot g h (hd f d hf) (all_facts hG g hd n)⟩⟩
end Rw

namespace Rw
open PySem PySem.Spec PyProof.Rows L2
/-! ### how arguments bind -/
theorem seqItems_none : seqItems? Value.none = (pure none : Sem (Option (Array Value))) := rfl
theorem zip_lookup {β : Type} : ∀ {ps : List Str} {us : List β}, us.length = ps.length → ∀ n ∈ ps, ((ps.zip us).lookup n).isSome = true
  | [], _, _, n, h => by cases h
  | p :: ps, u :: us, hl, n, h => by
    rw [List.zip_cons_cons, List.lookup_cons]
    cases q : n == p with
    | true => rfl
    | false =>
      rcases List.mem_cons.mp h with e | h
      · rw [e, beq_self_eq_true] at q
        cases q
      · exact zip_lookup (by simpa using hl) n h
  | _ :: _, [], hl, _, _ => by cases hl
theorem fm_congr {α β : Type} {f g : α → Option β} : ∀ {l : List α}, (∀ x ∈ l, f x = g x) → l.filterMap f = l.filterMap g
  | [], _ => rfl
  | x :: l, h => by
    rw [List.filterMap_cons, List.filterMap_cons, h x List.mem_cons_self, fm_congr fun y hy => h y (List.mem_cons_of_mem _ hy)]
theorem zip_binds {β : Type} : ∀ {ps : List Str} {us : List β}, ps.Nodup → us.length = ps.length → (ps.filterMap fun n => ((ps.zip us).lookup n).map (n, ·)) = ps.zip us
  | [], [], _, _ => rfl
  | p :: ps, u :: us, hn, hl => by
    obtain ⟨h1, h2⟩ := List.nodup_cons.mp hn
    have ih := zip_binds (us := us) h2 (by simpa using hl)
    rw [List.zip_cons_cons, List.filterMap_cons, List.lookup_cons, beq_self_eq_true]
    show (p, u) :: _ = _
    refine congrArg ((p, u) :: ·) ?_
    refine Eq.trans (fm_congr fun n hm => ?_) ih
    rw [List.lookup_cons]
    have q : (n == p) = false := by
      rw [beq_eq_false_iff_ne]
      intro e
      rw [e] at hm
      exact h1 hm
    rw [q]
  | _ :: _, [], _, hl => by cases hl
  | [], _ :: _, _, hl => by cases hl
/-- plain parameters -/
def argsB (a : Arguments) (ps : List Str) : Bool := a.posonlyargs.isEmpty && (a.kwonlyargs.isEmpty && (a.vararg.isNone && (a.kwarg.isNone && decide (a.args.map (·.arg) = ps))))
theorem bind_plain {x qual : Str} {a : Arguments} {body : List Stmt} {sc : Scope} {kV doc pm cdv ct : Value} {an : Option Addr} {ps : List Str} {us : List Value} (h : argsB a ps = true) (hn : ps.Nodup) (hl : us.length = ps.length) :
    bindArgs (PySem.W.fnOf x qual a body sc .none kV doc pm an cdv ct) ⟨us, []⟩ = pure (ps.zip us) := by
  obtain ⟨po, as, va, ko, kd, kw, df⟩ := a
  obtain ⟨h1, h⟩ := ba h
  obtain ⟨h2, h⟩ := ba h
  obtain ⟨h3, h⟩ := ba h
  obtain ⟨h4, h5⟩ := ba h
  have e1 : po = [] := List.isEmpty_iff.mp h1
  have e2 : ko = [] := List.isEmpty_iff.mp h2
  have e3 : va = none := Option.isNone_iff_eq_none.mp h3
  have e4 : kw = none := Option.isNone_iff_eq_none.mp h4
  have e5 : as.map (·.arg) = ps := of_decide_eq_true h5
  subst e1 e2 e3 e4
  have m0 : (ps.take ps.length).filter (fun n => ((ps.zip us).lookup n).isNone) = [] := by
    rw [List.take_length]
    refine List.filter_eq_nil_iff.mpr fun n hm => ?_
    have z := zip_lookup hl n hm
    cases q : (ps.zip us).lookup n with
    | none => rw [q] at z; cases z
    | some _ => simp
  unfold bindArgs
  simp only [List.map_nil, List.nil_append, e5, seqItems_none, pure_bind, Option.getD_none, Array.toList_empty, List.forIn_nil, hl, List.drop_nil, List.length_nil, Nat.sub_zero, List.zip_nil_right, m0, List.isEmpty_nil, List.append_nil, zip_binds hn hl,
    gt_iff_lt, Nat.lt_irrefl, decide_false, Bool.false_and, Bool.not_true, if_false, Bool.false_eq_true]

theorem lookup_zip {β : Type} : ∀ {ps : List Str} {us : List β} {n : Str} {i : Nat}, ps.Nodup → ps[i]? = some n → (ps.zip us).lookup n = us[i]?
  | [], _, _, _, _, h => by simp at h
  | p :: ps, [], n, i, _, h => by simp
  | p :: ps, u :: us, n, 0, _, h => by
    simp at h
    subst h
    rw [List.zip_cons_cons, List.lookup_cons, beq_self_eq_true]
    rfl
  | p :: ps, u :: us, n, i + 1, hn, h => by
    obtain ⟨h1, h2⟩ := List.nodup_cons.mp hn
    have h : ps[i]? = some n := by simpa using h
    have q : (n == p) = false := by
      rw [beq_eq_false_iff_ne]
      intro e
      exact h1 (by rw [← e]; exact List.mem_of_getElem? h)
    rw [List.zip_cons_cons, List.lookup_cons, q]
    show (ps.zip us).lookup n = _
    rw [lookup_zip h2 h]
    rfl
theorem lookup_app {β : Type} (n : Str) : ∀ (s t : List (Str × β)), (s ++ t).lookup n = (s.lookup n).or (t.lookup n)
  | [], t => rfl
  | (m, v) :: s, t => by
    rw [List.cons_append, List.lookup_cons, List.lookup_cons]
    cases n == m with
    | true => rfl
    | false => exact lookup_app n s t
theorem lookup_fil {β : Type} (P : Str → Bool) (n : Str) : ∀ (l : List (Str × β)), (l.filter fun p => P p.1).lookup n = if P n = true then l.lookup n else none
  | [] => by split <;> rfl
  | (m, v) :: l => by
    have ih := lookup_fil P n l
    by_cases hm : P m = true
    · rw [List.filter_cons_of_pos (by exact hm), List.lookup_cons, List.lookup_cons, ih]
      cases q : n == m with
      | true =>
        have e : n = m := beq_iff_eq.mp q
        subst e
        exact (if_pos hm).symm
      | false => rfl
    · rw [List.filter_cons_of_neg (by exact hm), List.lookup_cons, ih]
      cases q : n == m with
      | true =>
        have e : n = m := beq_iff_eq.mp q
        rw [e, if_neg hm, if_neg hm]
      | false => rfl
theorem dfl_loop : ∀ (l s : List (Str × Value)), (l.map (·.1)).Nodup →
    (forIn l s fun x r => if (List.lookup x.fst r).isNone = true then (pure (ForInStep.yield (r ++ [(x.fst, x.snd)])) : Sem (ForInStep (List (Str × Value)))) else pure (ForInStep.yield r)) = pure (s ++ l.filter fun p => (s.lookup p.1).isNone)
  | [], s, _ => by
    rw [List.forIn_nil, List.filter_nil, List.append_nil]
  | (n, d) :: l, s, hn => by
    obtain ⟨h1, h2⟩ := List.nodup_cons.mp (show (n :: l.map (·.1)).Nodup from hn)
    rw [List.forIn_cons]
    by_cases q : (s.lookup n).isNone = true
    · rw [if_pos (by exact q), pure_bind]
      show (forIn l (s ++ [(n, d)]) _) = _
      rw [dfl_loop l _ h2, List.filter_cons_of_pos (by exact q), List.append_assoc]
      refine congrArg (fun z => pure (s ++ ((n, d) :: z))) (List.filter_congr fun p hp => ?_)
      rw [lookup_app]
      have e : (p.1 == n) = false := by
        rw [beq_eq_false_iff_ne]
        intro e
        exact h1 (by rw [← e]; exact List.mem_map_of_mem hp)
      have e2 : List.lookup p.1 [(n, d)] = none := by
        rw [List.lookup_cons, e]
        rfl
      rw [e2, Option.or_none]
    · rw [if_neg (by exact q), pure_bind]
      show (forIn l s _) = _
      rw [dfl_loop l s h2, List.filter_cons_of_neg (by exact q)]
theorem bind_dfl {x qual : Str} {a : Arguments} {body : List Stmt} {sc : Scope} {kV doc pm cdv ct : Value} {an : Option Addr} {ps : List Str} {us its : List Value} {Ta : Addr} (h : argsB a ps = true) (hn : ps.Nodup) (hle : us.length ≤ ps.length) (hd : ps.length ≤ us.length + its.length) (hd2 : its.length ≤ ps.length) :
    ∃ k, bindArgs (PySem.W.fnOf x qual a body sc (.ref Ta) kV doc pm an cdv ct) ⟨us, []⟩ = seqItems? (.ref Ta) >>= k ∧ k (some its.toArray) = pure (ps.zip (us ++ its.drop (us.length - (ps.length - its.length)))) := by
  obtain ⟨po, as, va, ko, kd, kw, df⟩ := a
  obtain ⟨h1, h⟩ := ba h
  obtain ⟨h2, h⟩ := ba h
  obtain ⟨h3, h⟩ := ba h
  obtain ⟨h4, h5⟩ := ba h
  have e1 : po = [] := List.isEmpty_iff.mp h1
  have e2 : ko = [] := List.isEmpty_iff.mp h2
  have e3 : va = none := Option.isNone_iff_eq_none.mp h3
  have e4 : kw = none := Option.isNone_iff_eq_none.mp h4
  have e5 : as.map (·.arg) = ps := of_decide_eq_true h5
  subst e1 e2 e3 e4
  unfold bindArgs
  simp only [List.map_nil, List.nil_append, e5, pure_bind, List.forIn_nil]
  refine ⟨_, rfl, ?_⟩
  simp only [Option.getD_some, List.toList_toArray]
  have g1 : ¬ us.length > ps.length := by omega
  simp only [g1, decide_false, Bool.false_and, Bool.false_eq_true, if_false]
  rw [show its.length - ps.length = 0 by omega, List.drop_zero]
  generalize hj : ps.length - its.length = j0
  have look : ∀ (i : Nat) (n : Str), ps[i]? = some n → (ps.zip us).lookup n = us[i]? := fun i n h => lookup_zip hn h
  have mis : (ps.take j0).filter (fun n => ((ps.zip us).lookup n).isNone) = [] := by
    refine List.filter_eq_nil_iff.mpr fun n hm => ?_
    obtain ⟨i, hi⟩ := List.getElem?_of_mem hm
    have hi2 : i < j0 := by
      have := (List.getElem?_eq_some_iff.mp hi).1
      rw [List.length_take] at this
      omega
    rw [List.getElem?_take_of_lt hi2] at hi
    rw [look i n hi, List.getElem?_eq_getElem (by omega)]
    exact Bool.false_ne_true
  rw [mis]
  simp only [List.isEmpty_nil, Bool.not_true, Bool.false_eq_true, if_false, List.append_nil]
  have nd : (((ps.drop j0).zip its).map (·.1)).Nodup := by
    rw [List.map_fst_zip (by rw [List.length_drop]; omega)]
    exact hn.sublist (List.drop_sublist _ _)
  rw [dfl_loop _ _ nd, pure_bind]
  refine congrArg pure (Eq.trans (fm_congr fun n hm => ?_) (zip_binds (us := us ++ its.drop (us.length - j0)) hn (by rw [List.length_append, List.length_drop]; omega)))
  refine congrArg (Option.map _) ?_
  obtain ⟨i, hi⟩ := List.getElem?_of_mem hm
  have hil := (List.getElem?_eq_some_iff.mp hi).1
  rw [lookup_app, lookup_fil fun m => ((ps.zip us).lookup m).isNone, look i n hi, lookup_zip (us := us ++ its.drop (us.length - j0)) hn hi]
  by_cases hu : i < us.length
  · rw [List.getElem?_append_left hu, List.getElem?_eq_getElem hu]
    rfl
  · rw [List.getElem?_append_right (by omega), List.getElem?_eq_none (by omega)]
    show (none : Option Value).or (if (none : Option Value).isNone = true then _ else none) = _
    rw [if_pos (show (none : Option Value).isNone = true from rfl), Option.none_or, lookup_zip (i := i - j0) (hn.sublist (List.drop_sublist _ _)) (by rw [List.getElem?_drop]; rw [show j0 + (i - j0) = i by omega]; exact hi), List.getElem?_drop]
    congr 1
    omega
/-! ### a law's data -/
structure DefX where
  at_ : Str × Option Str
  name : Str
  qual : Str
  st : Stmt
  N : List Str
  ps : List Str
  fn : Fn
structure LawD where
  defs : List DefX
  cls : List (Str × Cl)
  con : List (Str × T)
  ats : List Str
  exc : List (Str × List Nat) := []
  exi : List Nat := []
  dcs : List (Str × List (Str × T)) := []
def LawD.tab (L : LawD) : Tab := ⟨fun i => (L.defs[i]?).map (·.fn), fun i => (L.cls[i]?).map (·.2), fun i => (L.con[i]?).map (·.2), fun i => (L.exc[i]?).map (·.2), fun i => !L.exi.contains i, fun i => (L.dcs[i]?).map (·.2)⟩
def LawD.nm (L : LawD) : Nm := ⟨fun i => ((L.defs[i]?).map (·.at_.1)).getD Str.empty, fun i => ((L.cls[i]?).map (·.1)).getD Str.empty, fun i => ((L.con[i]?).map (·.1)).getD Str.empty, fun i => L.ats.getD i Str.empty, fun i => ((L.exc[i]?).map (·.1)).getD Str.empty, fun i => ((L.dcs[i]?).map (·.1)).getD Str.empty⟩
def LawD.glF (L : LawD) (f : Nat) : Bool := match L.defs[f]? with
  | some d => d.at_.2.isNone
  | none => false
/-- a default as the kit says it -/
def dvT : T → He.Dv
  | .bl b => .bl b
  | .int i => .int i
  | .str z => .str z
  | _ => .non
def dvOk : T → Bool
  | .non => true
  | .bl _ => true
  | .int _ => true
  | .str _ => true
  | _ => false
def DefX.dd (x : DefX) : He.DefD := ⟨x.at_, x.name, x.qual, defArgs x.st, defBody x.st, defScope x.st, x.fn.dfl.map dvT, []⟩
def nodupB : List Str → Bool
  | [] => true
  | x :: xs => !xs.contains x && nodupB xs
theorem nodupB_ok : ∀ {l : List Str}, nodupB l = true → l.Nodup
  | [], _ => List.nodup_nil
  | x :: xs, h => by
    obtain ⟨h1, h2⟩ := ba h
    refine List.nodup_cons.mpr ⟨fun hm => ?_, nodupB_ok h2⟩
    have z := nb h1
    rw [List.contains_iff_mem.mpr hm] at z
    cases z
def scB (N P : List Str) (sc : Scope) : Bool := decide (sc.kind = .function) && (!sc.isCoroutine && (!sc.isGenerator && (nodupB N && (decide (N.take P.length = P) && (P.all (locB sc) && sc.names.all fun y => decide (y.2 ≠ .free))))))
theorem scB_ok {N P : List Str} {sc : Scope} (h : scB N P sc = true) : FnScope N P sc := by
  obtain ⟨h1, h⟩ := ba h
  obtain ⟨h2, h⟩ := ba h
  obtain ⟨h3, h⟩ := ba h
  obtain ⟨h4, h⟩ := ba h
  obtain ⟨h5, h⟩ := ba h
  obtain ⟨h6, h7⟩ := ba h
  exact ⟨of_decide_eq_true h1, nb h2, nb h3, nodupB_ok h4, of_decide_eq_true h5, fun x hx => locB_ok (List.all_eq_true.mp h6 x hx), fun y hy => of_decide_eq_true (List.all_eq_true.mp h7 y hy)⟩
def defB (L : LawD) (x : DefX) : Bool := scB x.N x.ps (defScope x.st) && (decide (x.ps.length = x.fn.np) && (decide (x.N.length = x.fn.ns) && (chkSs (ckOf x.fn.hot x.N (defScope x.st) L.nm L.tab L.glF) x.fn.body (defBody x.st) && (argsB (defArgs x.st) x.ps && (x.fn.dfl.all dvOk && decide (x.fn.dfl.length ≤ x.fn.np))))))
/-! ### what the head finds -/
def freeN : List Str := ["len", "int", "str", "min", "max", "abs", "list", "tuple", "all", "any", "sum", "divmod", "sorted", "bool", "isinstance", "range", "enumerate", "zip", "dict", "set", "ValueError"].map Str.ofString
def tysA : List Ty := [Ty.int, Ty.bool, Ty.str, Ty.list, Ty.tuple, Ty.dict]
def tysS : List String := ["NoneType", "bool", "int", "str", "tuple", "list", "dict"]
def tyC0 : Ty → Value
  | .int => .type "int" | .bool => .type "bool" | .str => .type "str" | .list => .type "list" | .tuple => .type "tuple" | .dict => .type "dict" | .cls _ => .none
def eqB (a b : Option Bool) : Bool := decide (a = b)
/-- a class's method is this def -/
def mAdB (L : LawD) (K : PySem.W.Frag) (x m : Str) (g : Nat) : Bool := match L.defs[g]? with
  | some d => decide (He.ma K (He.ga K x) m = He.fAd K d.at_)
  | none => false
/-- a constant's item -/
def vB : T → Value → Bool
  | .str x, .str y _ => decide (x = y)
  | .int i, .int j _ => decide (i = j)
  | .bl b, .bool c => b == c
  | .non, .none => true
  | _, _ => false
def vsB : List T → List Value → Bool
  | [], [] => true
  | x :: xs, v :: vs => vB x v && vsB xs vs
  | _, _ => false
def tupF (K : PySem.W.Frag) (x : Str) (ts : List T) : Bool := match PySem.W.nsIn K mainGlobals x with
  | some (some (.ref a)) => (match K.lookup a with
    | some o => decide (o.cls = .type "tuple") && (o.dict.isNone && match o.data with
      | .seq its _ => decide (its.size ≤ sizeLine) && vsB ts its.toList
      | _ => false)
    | none => false)
  | _ => false
theorem vB_ok {G : Gd} {F : Hp} {x : T} {u : Value} (h : vB x u = true) : ∃ v, RelV v u ∧ Rep G F v x := by
  cases x with
  | str a =>
    cases u with
    | str b t =>
      have e : a = b := of_decide_eq_true h
      subst e
      exact ⟨.str a, ⟨t, rfl⟩, .str a⟩
    | _ => cases h
  | int a =>
    cases u with
    | int b t =>
      have e : a = b := of_decide_eq_true h
      subst e
      exact ⟨.int a, ⟨t, rfl⟩, .int a⟩
    | _ => cases h
  | bl a =>
    cases u with
    | bool b =>
      have e : a = b := eq_of_beq h
      subst e
      exact ⟨.bl a, rfl, .bl a⟩
    | _ => cases h
  | non =>
    cases u with
    | none => exact ⟨.non, rfl, .non⟩
    | _ => cases h
  | _ => cases h
theorem vsB_ok {G : Gd} : ∀ {xs : List T} {us : List Value}, vsB xs us = true → ∃ vs, Vals vs us ∧ ∀ F, RepL G F vs xs
  | [], [], _ => ⟨[], .nil, fun _ => .nil⟩
  | x :: xs, u :: us, h => by
    obtain ⟨h1, h2⟩ := ba h
    obtain ⟨vs, a1, a2⟩ := vsB_ok (G := G) h2
    obtain ⟨v, b1, b2⟩ := vB_ok (G := G) (F := fun _ => none) h1
    refine ⟨v :: vs, .cons b1 a1, fun F => .cons (Rep.mono (fun a o e => by cases e) x v b2) (a2 F)⟩
  | [], _ :: _, h => by cases h
  | _ :: _, [], h => by cases h
theorem tup_ok {K : PySem.W.Frag} {x : Str} {ts : List T} (h : tupF K x ts = true) : ∃ a o its n, PySem.W.nsIn K mainGlobals x = some (some (.ref a)) ∧ K.lookup a = some o ∧ o.cls = .type "tuple" ∧ o.data = .seq its n ∧ its.size ≤ sizeLine ∧ vsB ts its.toList = true ∧ o.dict = none := by
  unfold tupF at h
  split at h
  · rename_i a e
    split at h
    · rename_i o e2
      obtain ⟨h1, h2⟩ := ba h
      obtain ⟨h0, h2⟩ := ba h2
      split at h2
      · rename_i its n e3
        obtain ⟨h3, h4⟩ := ba h2
        exact ⟨a, o, its, n, e, e2, of_decide_eq_true h1, e3, of_decide_eq_true h3, h4, Option.isNone_iff_eq_none.mp h0⟩
      · cases h2
    · cases h
  · cases h
def conF (K : PySem.W.Frag) (x : Str × T) : Bool := match x.2 with
  | .tup ts => tupF K x.1 ts
  | .int i => (He.Fa.int x.1 i).ok K
  | .str z => (He.Fa.str x.1 z).ok K
  | _ => false
def clsB (L : LawD) (K : PySem.W.Frag) (x : Str × Cl) : Bool := (He.Fa.cls x.1).ok K && ((He.Fa.glo x.1).ok K && (He.eqO (PySem.W.findIn K (.ref (He.ga K x.1)) "__class__") (some (some (.builtin "object.__class__"))) &&
  (He.eqO (PySem.W.specialIn K (.builtin "object.__class__") "__get__") (some (some (.builtin "getset_descriptor.__get__"))) && (eqB (PySem.W.takesIn K (.builtin "object.__class__")) (some true) && (eqB (PySem.W.mroIn K (He.ga K x.1) (.type "object")) (some true) &&
  (tysA.all (fun t => eqB (PySem.W.kitOne K (.ref (He.ga K x.1)) (tyC0 t)) (some false)) && (L.cls.zipIdx.all (fun y => eqB (PySem.W.kitOne K (.ref (He.ga K x.1)) (.ref (He.ga K y.1.1))) (some (x.2.sup.contains y.2))) &&
  (tysS.all (fun t => eqB (PySem.W.kitOne K (.type t) (.ref (He.ga K x.1))) (some false)) && (x.2.flds.all (fun f => decide (f < L.ats.length) && (He.Fa.noat x.1 (L.nm.atN f)).ok K) && (x.2.meths.all (fun p => decide (p.1 < L.ats.length) && ((He.Fa.meth x.1 (L.nm.atN p.1)).ok K && mAdB L K x.1 (L.nm.atN p.1) p.2)) && (match x.2.init with
    | some f => (He.Fa.mkr x.1).ok K && mAdB L K x.1 (Str.ofString "__init__") f
    | none => PySem.W.makesIn K (He.ga K x.1) && (He.eqO (PySem.W.findIn K (.ref (He.ga K x.1)) "__init__") (some (some (.builtin "object.__init__"))) && PySem.W.keepIn K (.ref (He.ga K x.1))))))))))))))
/-- an exception's class -/
def excB (L : LawD) (K : PySem.W.Frag) (x : Str × List Nat) (i : Nat) : Bool := (L.exi.contains i || (He.Fa.exc x.1).ok K) && ((He.Fa.glo x.1).ok K && (eqB (PySem.W.subIn K (.ref (He.ga K x.1)) (.type "BaseException")) (some true) && (decide (PySem.W.typeIn K (.ref (He.ga K x.1)) = some (.type "type")) &&
  (He.eqO (PySem.W.findIn K (.ref (He.ga K x.1)) "__getattribute__") (some (some (.builtin "BaseException.__getattribute__"))) && (He.eqO (PySem.W.findIn K (.ref (He.ga K x.1)) "__getattr__") (some none) && (PySem.W.hasDictIn K (He.ga K x.1) &&
  (He.eqO (PySem.W.findIn K (.ref (He.ga K x.1)) "__class__") (some (some (.builtin "object.__class__"))) && (He.eqO (PySem.W.specialIn K (.builtin "object.__class__") "__get__") (some (some (.builtin "getset_descriptor.__get__"))) && (eqB (PySem.W.takesIn K (.builtin "object.__class__")) (some true) &&
  (eqB (PySem.W.mroIn K (He.ga K x.1) (.type "object")) (some true) && (eqB (PySem.W.kitOne K (.ref (He.ga K x.1)) (.type "ValueError")) (some true) &&
  L.exc.zipIdx.all (fun y => eqB (PySem.W.kitOne K (.ref (He.ga K x.1)) (.ref (He.ga K y.1.1))) (some (x.2.contains y.2)) && eqB (PySem.W.exmOne K (.ref (He.ga K x.1)) (.ref (He.ga K y.1.1))) (some (x.2.contains y.2))))))))))))))
/-- a written dict's entries -/
def esB : List (Str × T) → List DictEntry → Bool
  | [], [] => true
  | (k, t) :: kvs, e :: es => (match e.key with
      | .str x _ => decide (x = k)
      | _ => false) && (vB t e.val && esB kvs es)
  | _, _ => false
def dcB (K : PySem.W.Frag) (x : Str × List (Str × T)) : Bool := (He.Fa.glo x.1).ok K && (match K.lookup (He.ga K x.1) with
  | some ⟨_, _, .dict es _, _⟩ => esB x.2 es.toList
  | _ => false)
def factsB (L : LawD) (K : PySem.W.Frag) : Bool := L.dcs.all (dcB K) && (freeN.all (fun x => (He.Fa.free x).ok K) && (L.defs.all (fun d => d.at_.2.isSome || (He.Fa.glo d.at_.1).ok K) && (L.cls.all (clsB L K) && (nodupB L.ats && (L.con.all (conF K) && L.exc.zipIdx.all fun x => excB L K x.1 x.2)))))
abbrev AlR : Type := He.AlD × (Bool × List (Option (List (Option (Str × Int)))))
def obsR (L : LawD) (K : PySem.W.Frag) : AlR := (He.obsD [] (L.defs.map DefX.dd) K, factsB L K, L.dcs.map fun x => He.dicW K (He.ga K x.1))
def valR (L : LawD) (w : World) : AlR := (He.valD (L.defs.map DefX.dd), true, L.dcs.map fun x => some (He.keysIn w.params (x.2.map (·.1))))
def obsRG (n : Nat) (L : LawD) (g : Addr → Option Obj) : AlR := obsR L (He.frG g (He.asD g n))
def hookR (n : Nat) (L : LawD) : PySem.W.Hook where
  α := AlR
  obs := fun s => obsRG n L s.heap.get?
  val := fun w => valR L w
  says := fun w h => ∃ K : PySem.W.Frag, K.In h ∧ obsR L K = valR L w
  of := fun _ _ e => ⟨_, He.frG_in, e⟩
  keeps := fun _ _ _ ⟨K, hK, c⟩ k => ⟨K, PySem.W.Frag.In.keeps hK k, c⟩
theorem obsRG_eq {n : Nat} {L : LawD} {g : Addr → Option Obj} {s : Shared} (h : ∀ a, g a = s.heap.get? a) : obsRG n L g = (hookR n L).obs s := by
  have e : g = s.heap.get? := funext h
  rw [e]
  rfl
/-! the same with the addresses written out -/
def obsLG (as : List Addr) (L : LawD) (g : Addr → Option Obj) : AlR := obsR L (He.frG g as)
def hookL (as : List Addr) (L : LawD) : PySem.W.Hook where
  α := AlR
  obs := fun s => obsLG as L s.heap.get?
  val := fun w => valR L w
  says := fun w h => ∃ K : PySem.W.Frag, K.In h ∧ obsR L K = valR L w
  of := fun _ _ e => ⟨_, He.frG_in, e⟩
  keeps := fun _ _ _ ⟨K, hK, c⟩ k => ⟨K, PySem.W.Frag.In.keeps hK k, c⟩
theorem obsLG_eq {as : List Addr} {L : LawD} {g : Addr → Option Obj} {s : Shared} (h : ∀ a, g a = s.heap.get? a) : obsLG as L g = (hookL as L).obs s := by
  have e : g = s.heap.get? := funext h
  rw [e]
  rfl
theorem obsR_of {L : LawD} {K : PySem.W.Frag} {w : World} (h1 : He.obsD [] (L.defs.map DefX.dd) K = He.valD (L.defs.map DefX.dd)) (h2 : (freeN.all fun x => (He.Fa.free x).ok K) = true) (h3 : (L.defs.all fun d => d.at_.2.isSome || (He.Fa.glo d.at_.1).ok K) = true)
    (h4 : L.cls.all (clsB L K) = true) (h5 : nodupB L.ats = true) (h6 : L.con.all (conF K) = true) (h7 : (L.exc.zipIdx.all fun x => excB L K x.1 x.2) = true) (h8 : L.dcs.all (dcB K) = true) (h9 : (L.dcs.map fun x => He.dicW K (He.ga K x.1)) = L.dcs.map fun x => some (He.keysIn w.params (x.2.map (·.1)))) : obsR L K = valR L w := by
  unfold obsR valR factsB
  rw [h1, h2, h3, h4, h5, h6, h7, h8, h9]
  rfl
theorem all_cut {α : Type} {l : List α} {p : α → Bool} (n : Nat) (h1 : (l.take n).all p = true) (h2 : (l.drop n).all p = true) : l.all p = true := by
  rw [← List.take_append_drop n l, List.all_append, h1, h2]
  rfl
theorem vB_fl {t : T} {u : Value} (h : vB t u = true) : ∃ v, RelV v u ∧ flV t = some v := by
  cases t with
  | str a => cases u with
    | str b k =>
      have e : a = b := of_decide_eq_true h
      subst e
      exact ⟨.str a, ⟨k, rfl⟩, rfl⟩
    | _ => cases h
  | int a => cases u with
    | int b k =>
      have e : a = b := of_decide_eq_true h
      subst e
      exact ⟨.int a, ⟨k, rfl⟩, rfl⟩
    | _ => cases h
  | bl a => cases u with
    | bool b =>
      have e : a = b := eq_of_beq h
      subst e
      exact ⟨.bl a, rfl, rfl⟩
    | _ => cases h
  | non => cases u with
    | none => exact ⟨.non, rfl, rfl⟩
    | _ => cases h
  | _ => cases h
/-- what a written dict says of a text -/
theorem es_find : ∀ {kvs : List (Str × T)} {l : List DictEntry}, esB kvs l = true → l.any (·.refKey) = false ∧ ∀ z : Str, (match kvs.lookup z with
    | none => l.find? (·.key.isStr z) = none
    | some t => ∃ e v, l.find? (·.key.isStr z) = some e ∧ RelV v e.val ∧ flV t = some v)
  | [], [], _ => ⟨rfl, fun z => rfl⟩
  | [], _ :: _, h => by cases h
  | _ :: _, [], h => by cases h
  | (k, t) :: kvs, e :: l, h => by
    obtain ⟨h1, h⟩ := ba h
    obtain ⟨h2, h3⟩ := ba h
    obtain ⟨i1, i2⟩ := es_find h3
    obtain ⟨eh, ek, ev⟩ := e
    cases ek with
    | str x tk =>
      have ex : x = k := of_decide_eq_true h1
      subst ex
      refine ⟨?_, fun z => ?_⟩
      · rw [List.any_cons, i1]
        rfl
      · by_cases c : z = x
        · subst c
          have e1 : ((z, t) :: kvs).lookup z = some t := by simp [List.lookup]
          rw [e1]
          obtain ⟨v, r1, r2⟩ := vB_fl h2
          refine ⟨_, v, ?_, r1, r2⟩
          rw [List.find?_cons_of_pos (by show (z == z) = true; exact beq_self_eq_true z)]
        · have c2 : (z == x) = false := beq_eq_false_iff_ne.mpr c
          have c3 : (x == z) = false := beq_eq_false_iff_ne.mpr (Ne.symm c)
          have e1 : ((x, t) :: kvs).lookup z = kvs.lookup z := by simp [List.lookup, c2]
          have e2 : (DictEntry.mk eh (.str x tk) ev :: l).find? (·.key.isStr z) = l.find? (·.key.isStr z) := List.find?_cons_of_neg (by
            show ¬ (x == z) = true
            rw [c3]
            decide)
          rw [e1, e2]
          exact i2 z
    | _ => cases h1
/-- the ground of a law -/
def gdOf (L : LawD) (P : Program) (w : World) (K : PySem.W.Frag) (mg : Str → Option Value) : Gd where
  prog := P
  w := w
  K := K
  mg := mg
  fA := fun i => match L.defs[i]? with
    | some d => He.fAd K d.at_
    | none => 0
  cA := fun i => He.ga K (L.nm.clN i)
  eA := fun i => He.ga K (L.nm.exN i)
  nm := L.nm
  tab := L.tab
  nAt := L.ats.length
section
variable {L : LawD} {P : Program} {w : World} {K : PySem.W.Frag} {mg : Str → Option Value} {h : Heap}
theorem eqB_ok {a b : Option Bool} (h : eqB a b = true) : a = b := of_decide_eq_true h
theorem tab_fn {f : Nat} {d : Fn} (e : L.tab.fn f = some d) : ∃ x, L.defs[f]? = some x ∧ x.fn = d := Option.map_eq_some_iff.mp e
theorem tab_cl {c : Nat} {d : Cl} (e : L.tab.cl c = some d) : ∃ x, L.cls[c]? = some x ∧ x.2 = d := Option.map_eq_some_iff.mp e
theorem mem_of_look {α : Type} {f : Nat} {g : α} : ∀ {l : List (Nat × α)}, l.lookup f = some g → (f, g) ∈ l
  | [], h => by cases h
  | (k, v) :: l, h => by
    by_cases z : f = k
    · subst z
      have e : ((f, v) :: l).lookup f = some v := by simp [List.lookup]
      rw [e] at h
      cases h
      exact List.mem_cons_self
    · have e : ((k, v) :: l).lookup f = l.lookup f := by
        have : (f == k) = false := beq_eq_false_iff_ne.mpr z
        simp [List.lookup, this]
      rw [e] at h
      exact List.mem_cons_of_mem _ (mem_of_look h)
theorem nodup_at {l : List Str} (h : l.Nodup) {f g : Nat} (hf : f < l.length) (hg : g < l.length) (e : l.getD f Str.empty = l.getD g Str.empty) : f = g := by
  induction l generalizing f g with
  | nil => cases hf
  | cons x l ih =>
    obtain ⟨h1, h2⟩ := List.nodup_cons.mp h
    have mem : ∀ {i : Nat}, i < l.length → l.getD i Str.empty ∈ l := fun {i} hi => by
      rw [show l.getD i Str.empty = l[i] by simp [hi]]
      exact List.getElem_mem hi
    cases f with
    | zero =>
      cases g with
      | zero => rfl
      | succ g =>
        have e : x = l.getD g Str.empty := e
        exact absurd (by rw [e]; exact mem (Nat.lt_of_succ_lt_succ hg)) h1
    | succ f =>
      cases g with
      | zero =>
        have e : l.getD f Str.empty = x := e
        exact absurd (by rw [← e]; exact mem (Nat.lt_of_succ_lt_succ hf)) h1
      | succ g => exact congrArg Nat.succ (ih h2 (Nat.lt_of_succ_lt_succ hf) (Nat.lt_of_succ_lt_succ hg) e)
theorem mAd_ok {x m : Str} {g : Nat} (h : mAdB L K x m g = true) : He.ma K (He.ga K x) m = (gdOf L P w K mg).fA g ∧ ((gdOf L P w K mg).tab.fn g).isSome = true := by
  unfold mAdB at h
  cases q : L.defs[g]? with
  | none => rw [q] at h; cases h
  | some d =>
    rw [q] at h
    refine ⟨(of_decide_eq_true h).trans ?_, ?_⟩
    · show _ = (match L.defs[g]? with
        | some d => He.fAd K d.at_
        | none => 0)
      rw [q]
    · show ((L.defs[g]?).map (·.fn)).isSome = true
      rw [q]
      rfl
theorem gOk_of (X : K.In h) (Gn : h.Ns mainGlobals mg) (c : obsR L K = valR L w) : GOk (gdOf L P w K mg) L.glF := by
  have hf : factsB L K = true := congrArg (fun z : AlR => z.2.1) c
  have hdc : (L.dcs.map fun x => He.dicW K (He.ga K x.1)) = L.dcs.map fun x => some (He.keysIn w.params (x.2.map (·.1))) := congrArg (fun z : AlR => z.2.2) c
  have hd : He.SaysD [] (L.defs.map DefX.dd) K := congrArg (fun z : AlR => z.1) c
  obtain ⟨h0, hf⟩ := ba hf
  obtain ⟨h1, h2⟩ := ba hf
  obtain ⟨h2, h3⟩ := ba h2
  obtain ⟨h3, h4⟩ := ba h3
  obtain ⟨h4, h5⟩ := ba h4
  obtain ⟨h5, h6⟩ := ba h5
  refine ⟨fun x hx => He.free_ok X Gn (List.all_eq_true.mp h1 x hx), fun f hg => ?_, fun i cl hi => ?_, fun f g hf hg e => ?_, fun g t hg => ?_, fun c l hc => ?_, fun g kvs hg => ?_⟩
  · unfold LawD.glF at hg
    cases q : L.defs[f]? with
    | none => rw [q] at hg; cases hg
    | some d =>
      rw [q] at hg
      have e : d.at_ = (d.at_.1, none) := by
        have hg : d.at_.2.isNone = true := hg
        exact Prod.ext rfl (Option.isNone_iff_eq_none.mp hg)
      have hA : (gdOf L P w K mg).fA f = He.ga K d.at_.1 := by
        show (match L.defs[f]? with
          | some d => He.fAd K d.at_
          | none => 0) = _
        rw [q]
        show He.fAd K d.at_ = _
        rw [e]
        rfl
      have hN : (gdOf L P w K mg).nm.fnN f = d.at_.1 := by
        show ((L.defs[f]?).map (·.at_.1)).getD Str.empty = _
        rw [q]
        rfl
      rw [hA, hN]
      have z := List.all_eq_true.mp h2 d (List.mem_of_getElem? q)
      rw [show d.at_.2 = none from by rw [e]] at z
      refine ⟨He.glo_ok X Gn z, ?_⟩
      obtain ⟨fd, F⟩ := hd.def_ f (d := d.dd) (by rw [List.getElem?_map, q]; rfl)
      have kp := F.kp
      rw [show He.fAd K d.dd.at_ = He.ga K d.at_.1 from by show He.fAd K d.at_ = _; rw [e]; rfl] at kp
      exact kp
  · obtain ⟨x, hx, e⟩ := tab_cl hi
    have hcl : (gdOf L P w K mg).cA i = He.ga K x.1 := by
      show He.ga K (((L.cls[i]?).map (·.1)).getD Str.empty) = _
      rw [hx]
      rfl
    have hcn : (gdOf L P w K mg).nm.clN i = x.1 := by
      show ((L.cls[i]?).map (·.1)).getD Str.empty = _
      rw [hx]
      rfl
    have z := List.all_eq_true.mp h3 x (List.mem_of_getElem? hx)
    obtain ⟨z1, z⟩ := ba z
    obtain ⟨z2, z⟩ := ba z
    obtain ⟨z3, z⟩ := ba z
    obtain ⟨z4, z⟩ := ba z
    obtain ⟨z5, z⟩ := ba z
    obtain ⟨z6, z⟩ := ba z
    obtain ⟨z7, z⟩ := ba z
    obtain ⟨z8, z⟩ := ba z
    obtain ⟨z9, z⟩ := ba z
    obtain ⟨z10, z⟩ := ba z
    obtain ⟨z11, z12⟩ := ba z
    subst e
    refine ⟨by rw [hcl]; exact He.cls_ok z1, by rw [hcl]; exact He.eqO_ok z3, He.eqO_ok z4, eqB_ok z5, by rw [hcl]; exact eqB_ok z6, fun t ht => ?_, fun j cd hj => ?_, fun t ht => by rw [hcl]; exact eqB_ok (List.all_eq_true.mp z9 t ht), by rw [hcl, hcn]; exact He.glo_ok X Gn z2, fun f hf => ?_, fun f g hf => ?_, ?_⟩
    · rw [hcl]
      have y := eqB_ok (List.all_eq_true.mp z7 t ht)
      have e : tyC (gdOf L P w K mg) t = tyC0 t := by
        cases t with
        | cls c => exact absurd ht (by simp)
        | _ => rfl
      rw [e]
      exact y
    · obtain ⟨y, hy, e⟩ := tab_cl hj
      have hcj : (gdOf L P w K mg).cA j = He.ga K y.1 := by
        show He.ga K (((L.cls[j]?).map (·.1)).getD Str.empty) = _
        rw [hy]
        rfl
      rw [hcl, hcj]
      have m : (y, j) ∈ L.cls.zipIdx := by
        rw [List.mem_zipIdx_iff_getElem?]
        exact hy
      exact eqB_ok (List.all_eq_true.mp z8 (y, j) m)
    · obtain ⟨y1, y2⟩ := ba (List.all_eq_true.mp z10 f hf)
      exact ⟨of_decide_eq_true y1, by rw [hcl]; exact He.noat_ok y2⟩
    · obtain ⟨y1, y⟩ := ba (List.all_eq_true.mp z11 (f, g) (mem_of_look hf))
      obtain ⟨y2, y3⟩ := ba y
      obtain ⟨e1, e2⟩ := mAd_ok (P := P) (w := w) (mg := mg) y3
      refine ⟨of_decide_eq_true y1, ?_, e2⟩
      rw [hcl, ← e1]
      exact He.meth_ok y2
    · cases q : x.2.init with
      | none =>
        rw [q] at z12
        obtain ⟨y1, y⟩ := ba z12
        obtain ⟨y2, y3⟩ := ba y
        show Mk0 K (He.ga K (L.nm.clN i))
        rw [show He.ga K (L.nm.clN i) = He.ga K x.1 from hcl]
        exact ⟨y1, He.eqO_ok y2, y3⟩
      | some f =>
        rw [q] at z12
        obtain ⟨y1, y2⟩ := ba z12
        obtain ⟨e1, e2⟩ := mAd_ok (P := P) (w := w) (mg := mg) y2
        show Mk K (He.ga K (L.nm.clN i)) ((gdOf L P w K mg).fA f)
        rw [← e1, show He.ga K (L.nm.clN i) = He.ga K x.1 from hcl]
        exact He.mkr_ok y1
  · exact nodup_at (nodupB_ok h4) hf hg e
  · obtain ⟨x, hx, e⟩ := Option.map_eq_some_iff.mp (show (L.con[g]?).map (·.2) = some t from hg)
    have z := List.all_eq_true.mp h5 x (List.mem_of_getElem? hx)
    have hn : (gdOf L P w K mg).nm.coN g = x.1 := by
      show ((L.con[g]?).map (·.1)).getD Str.empty = _
      rw [hx]
      rfl
    unfold conF at z
    subst e
    rw [hn]
    cases q : x.2 with
    | int i =>
      rw [q] at z
      obtain ⟨t, e⟩ := He.int_ok X Gn z
      exact ⟨.int i, _, e, ⟨t, rfl⟩, fun F => .int i, fun ts z => by cases z⟩
    | str y =>
      rw [q] at z
      obtain ⟨t, e⟩ := He.str_ok X Gn z
      exact ⟨.str y, _, e, ⟨t, rfl⟩, fun F => .str y, fun ts z => by cases z⟩
    | tup ts =>
      rw [q] at z
      obtain ⟨a, o, its, n, e1, e2, e3, e4, e5, e6, e7⟩ := tup_ok z
      obtain ⟨vs, w1, w2⟩ := vsB_ok (G := gdOf L P w K mg) e6
      exact ⟨.ref a, _, PySem.W.mg_of X Gn e1, rfl, fun F => .tup (.inr ⟨o, its, n, e2, e3, e4, e5, w1⟩) (w2 F), fun ts z => by cases z; exact ⟨a, o, rfl, e2, e3, e7⟩⟩
    | _ => rw [q] at z; cases z
  · obtain ⟨x, hx, e⟩ := Option.map_eq_some_iff.mp (show (L.exc[c]?).map (·.2) = some l from hc)
    have m : (x, c) ∈ L.exc.zipIdx := by
      rw [List.mem_zipIdx_iff_getElem?]
      exact hx
    obtain ⟨z1, z⟩ := ba (List.all_eq_true.mp h6 (x, c) m)
    obtain ⟨z2, z⟩ := ba z
    obtain ⟨z3, z⟩ := ba z
    obtain ⟨z4, z⟩ := ba z
    obtain ⟨z5, z⟩ := ba z
    obtain ⟨z6, z⟩ := ba z
    obtain ⟨z7, z⟩ := ba z
    obtain ⟨z8, z⟩ := ba z
    obtain ⟨z9, z⟩ := ba z
    obtain ⟨z10, z⟩ := ba z
    obtain ⟨z11, z⟩ := ba z
    obtain ⟨z12, z13⟩ := ba z
    have hn : (gdOf L P w K mg).nm.exN c = x.1 := by
      show ((L.exc[c]?).map (·.1)).getD Str.empty = _
      rw [hx]
      rfl
    have hA : ∀ (d : Nat) (y : Str × List Nat), L.exc[d]? = some y → (gdOf L P w K mg).eA d = He.ga K y.1 := fun d y hy => by
      show He.ga K (((L.exc[d]?).map (·.1)).getD Str.empty) = _
      rw [hy]
      rfl
    have hAx := hA c x hx
    refine ⟨by rw [hn, hAx]; exact He.glo_ok X Gn z2, fun hr => ?_, by rw [hAx]; exact eqB_ok z3, by rw [hAx]; exact of_decide_eq_true z4, ?_, by rw [hAx]; exact eqB_ok z12, fun lc hlc d l' hd => ?_⟩
    · have hr : (!L.exi.contains c) = true := hr
      have z1 : (L.exi.contains c || (He.Fa.exc x.1).ok K) = true := z1
      rw [nb hr] at z1
      obtain ⟨e1, e2, e3, e4⟩ := He.exc_ok (show (He.Fa.exc x.1).ok K = true from z1)
      rw [hAx]
      exact ⟨e1, e2⟩
    · rw [hAx]
      exact ⟨He.eqO_ok z5, He.eqO_ok z6, eqB_ok z3, z7, He.eqO_ok z8, He.eqO_ok z9, eqB_ok z10, eqB_ok z11⟩
    · obtain ⟨y, hy, ey⟩ := Option.map_eq_some_iff.mp (show (L.exc[d]?).map (·.2) = some l' from hd)
      have my : (y, d) ∈ L.exc.zipIdx := by
        rw [List.mem_zipIdx_iff_getElem?]
        exact hy
      have hlc : (L.exc[c]?).map (·.2) = some lc := hlc
      rw [hx] at hlc
      cases hlc
      obtain ⟨w1, w2⟩ := ba (List.all_eq_true.mp z13 (y, d) my)
      rw [hAx, hA d y hy]
      exact ⟨eqB_ok w1, eqB_ok w2⟩
  · obtain ⟨x, hx, e⟩ := Option.map_eq_some_iff.mp (show (L.dcs[g]?).map (·.2) = some kvs from hg)
    subst e
    obtain ⟨z1, z2⟩ := ba (List.all_eq_true.mp h0 x (List.mem_of_getElem? hx))
    have hn : (gdOf L P w K mg).nm.dcN g = x.1 := by
      show ((L.dcs[g]?).map (·.1)).getD Str.empty = _
      rw [hx]
      rfl
    have hw : He.dicW K (He.ga K x.1) = some (He.keysIn w.params (x.2.map (·.1))) := by
      have z : (L.dcs.map fun x => He.dicW K (He.ga K x.1))[g]? = (L.dcs.map fun x => some (He.keysIn w.params (x.2.map (·.1))))[g]? := by rw [hdc]
      rw [List.getElem?_map, List.getElem?_map, hx] at z
      exact Option.some.inj z
    obtain ⟨es, n, D⟩ := He.dicW_ok hw
    refine ⟨_, es, n, by rw [hn]; exact He.glo_ok X Gn z1, D, fun z => ?_⟩
    rw [D.at_] at z2
    obtain ⟨i1, i2⟩ := es_find (show esB x.2 es.toList = true from z2)
    have i2 := i2 z
    show ∃ r, PySem.W.nsIn K (He.ga K x.1) z = some r ∧ _
    unfold PySem.W.nsIn
    rw [D.at_]
    cases hk : x.2.lookup z with
    | none =>
      rw [hk] at i2
      exact ⟨none, by show (match es.toList.find? (·.key.isStr z) with
        | some e => some (some e.val)
        | none => if es.toList.any (·.refKey) then none else some none) = _; rw [i2, i1]; rfl, rfl⟩
    | some t =>
      rw [hk] at i2
      obtain ⟨e, v, q1, q2, q3⟩ := i2
      exact ⟨some e.val, by show (match es.toList.find? (·.key.isStr z) with
        | some e => some (some e.val)
        | none => if es.toList.any (·.refKey) then none else some none) = _; rw [q1], _, v, rfl, q2, q3⟩
theorem def_of (c : obsR L K = valR L w) (hb : L.defs.all (defB L) = true) {f : Nat} {x : DefX} (hx : L.defs[f]? = some x) : ∃ fd, FunD K x.name x.qual (defArgs x.st) (defBody x.st) (defScope x.st) ((x.fn.dfl.map dvT).map (He.Dv.v K)) [] ((gdOf L P w K mg).fA f) fd ∧ FnScope x.N x.ps (defScope x.st) ∧
    x.ps.length = x.fn.np ∧ x.N.length = x.fn.ns ∧ chkSs (ckOf x.fn.hot x.N (defScope x.st) L.nm L.tab L.glF) x.fn.body (defBody x.st) = true ∧ argsB (defArgs x.st) x.ps = true ∧ x.fn.dfl.all dvOk = true ∧ x.fn.dfl.length ≤ x.fn.np := by
  have hd : He.SaysD [] (L.defs.map DefX.dd) K := congrArg (fun z : AlR => z.1) c
  obtain ⟨fd, F⟩ := hd.def_ f (d := x.dd) (by rw [List.getElem?_map, hx]; rfl)
  have z := List.all_eq_true.mp hb x (List.mem_of_getElem? hx)
  obtain ⟨z1, z⟩ := ba z
  obtain ⟨z2, z⟩ := ba z
  obtain ⟨z3, z⟩ := ba z
  obtain ⟨z4, z⟩ := ba z
  obtain ⟨z5, z6⟩ := ba z
  refine ⟨fd, ?_, scB_ok z1, of_decide_eq_true z2, of_decide_eq_true z3, z4, z5, (ba z6).1, of_decide_eq_true (ba z6).2⟩
  have hA : (gdOf L P w K mg).fA f = He.fAd K x.at_ := by
    show (match L.defs[f]? with
      | some d => He.fAd K d.at_
      | none => 0) = _
    rw [hx]
  rw [hA]
  exact F
theorem binds_of {x qual : Str} {a : Arguments} {body : List Stmt} {sc : Scope} {f : Addr} {fd : FuncData} {N ps : List Str} (F : FunD K x qual a body sc [] [] f fd) (S : FnScope N ps sc) (h : argsB a ps = true) : Binds K fd ps [] :=
  F.bindsN fun kV doc pm an cdv ct us hl => bind_plain h (by rw [← S.pre]; exact S.nd.sublist (List.take_sublist _ _)) hl
theorem defOk_of (c : obsR L K = valR L w) (hb : L.defs.all (defB L) = true) : ∀ f d, (gdOf L P w K mg).tab.fn f = some d → DefOk (gdOf L P w K mg) L.glF f d := fun f d hf => by
  obtain ⟨x, hx, e⟩ := tab_fn hf
  subst e
  obtain ⟨fd, F, Sc, h1, h2, h3, h4, h5, h6⟩ := def_of (P := P) (w := w) (mg := mg) c hb hx
  refine ⟨x.name, x.qual, _, _, _, _, fd, x.N, x.ps, F, Sc, h1, h2, h3, fun m hm hd => ?_⟩
  have nd : x.ps.Nodup := by rw [← Sc.pre]; exact Sc.nd.sublist (List.take_sublist _ _)
  have rep : ∀ (W : Wd) (l : List T), l.all dvOk = true → Paired (RepV (gdOf L P w K mg) W) ((l.map dvT).map (He.Dv.v K)) (l.map .t) := fun W l => by
    induction l with
    | nil => exact fun _ => .nil
    | cons t l ih =>
      intro h
      obtain ⟨g1, g2⟩ := ba h
      refine .cons ?_ (ih g2)
      show Rep _ W.F ((dvT t).v K) t
      cases t with
      | non => exact .non
      | bl b => exact .bl b
      | int i => exact .int i
      | str z => exact .str z
      | _ => cases g1
  cases hq : x.fn.dfl with
  | nil =>
    rw [hq] at F
    refine ⟨[], [], binds_of F Sc h4, .nil, fun W => ?_⟩
    have e : dflV x.fn m = [] := by
      unfold dflV
      rw [hq, List.drop_nil]
      rfl
    rw [e]
    exact .nil
  | cons t ts =>
    have hne : (x.fn.dfl.map dvT).map (He.Dv.v K) ≠ [] := by rw [hq]; exact fun z => nomatch z
    have hlen : ((x.fn.dfl.map dvT).map (He.Dv.v K)).length = x.fn.dfl.length := by rw [List.length_map, List.length_map]
    obtain ⟨ds, h7, h8⟩ := F.binds1 (ps := x.ps) m (x.fn.dfl.length - (x.fn.np - m)) hne (by rw [hlen, h1]; omega) fun Ta kV doc pm an cdv ct us its hu hi => by
      have z := bind_dfl (x := x.name) (qual := x.qual) (body := defBody x.st) (sc := defScope x.st) (kV := kV) (doc := doc) (pm := pm) (an := an) (cdv := cdv) (ct := ct) (us := us) (its := its) (Ta := Ta) h4 nd (by omega) (by omega) (by omega)
      rw [show us.length - (x.ps.length - its.length) = x.fn.dfl.length - (x.fn.np - m) by omega] at z
      exact z
    refine ⟨ds, _, h8, h7, fun W => ?_⟩
    unfold dflV
    rw [List.map_drop]
    exact Paired.drop' _ (rep W x.fn.dfl h5)
end
/-- a law, by the small language -/
theorem walk_rw {l : PySem.W.OpenLaw} {L : LawD} {q : Program} {loose : List Str} {XP : (Str → Option Value) → Heap → Prop} {d : DefRec} {m n lawId : Nat} {dx : DefX} (hn : l.most = some 63) (hdf : d.params.defaults = []) (hx : L.defs[lawId]? = some dx) (hname : d.name = dx.at_.1) (hat : dx.at_.2 = none)
    (hnp : dx.fn.np = 1) (hdl : dx.fn.dfl = []) (hnh : dx.fn.hot = false) (hb : L.defs.all (defB L) = true) (hm : m ≤ 100) (main : ∀ ns : List Int, ns.length ≤ 63 → ∃ S, callF L.tab m lawId [Val.t (.scr ns)] [] = .ok (.t (.bl true)) S) :
    PySem.W.WalkO q loose XP (hookR n L).says l.row.toRowW d [] (fun f vs => PySem.call f vs) := by
  refine Att.attach_call hn hdf fun w s0 s1 mg mb fa o pm cd doc a vs ns Gr Y ho hd hcd hmg hobj hints hlen hg => ?_
  obtain ⟨K, KX, c⟩ := Y
  have g := gOk_of (P := l.prog) (w := w) KX Gr.T.g c
  obtain ⟨fd, F, Sc, h1, h2, h3, h4, _, _⟩ := def_of (P := l.prog) (w := w) (mg := mg) c hb hx
  have h5 := hdl
  rw [hdl] at F
  rw [hnh] at h3
  have hgl : L.glF lawId = true := by
    unfold LawD.glF
    rw [hx]
    show dx.at_.2.isNone = true
    rw [hat]
    rfl
  have efa : (gdOf L l.prog w K mg).fA lawId = fa := by
    have z := (g.gl lawId hgl).1
    have hN : (gdOf L l.prog w K mg).nm.fnN lawId = dx.at_.1 := by
      show ((L.defs[lawId]?).map (·.at_.1)).getD Str.empty = _
      rw [hx]
      rfl
    rw [hN, ← hname] at z
    have z : mg d.name = some (.ref _) := z
    rw [hmg] at z
    cases z
    rfl
  rw [efa] at F
  obtain ⟨x, hps⟩ : ∃ x, dx.ps = [x] := by
    have z := h1.trans hnp
    cases q : dx.ps with
    | nil => rw [q] at z; cases z
    | cons x xs =>
      rw [q] at z
      cases xs with
      | nil => exact ⟨x, rfl⟩
      | cons _ _ => cases z
  cases m with
  | zero =>
    obtain ⟨S, z⟩ := main ns hlen
    cases z
  | succ m =>
    have hr : Room (2 * m + 2) callerA := Room.mono (j := 2 * m + 2) (k := 210) ⟨rfl, by decide, by decide⟩ (by omega)
    refine law_call (x := x) (fd := fd) (k := 2 * m + 2) (CX := L2.CX l.prog w) (sp := spR (gdOf L l.prog w K mg) dx.fn.np (runFn L.tab (callF L.tab m) dx.fn)) KX Gr.T.g Gr.T.b Gr.T.builtins Gr.T.nolimit hg hobj hints (Nat.le_trans hlen (by decide)) hr (fun base hK hN => ?_) (fun s u => ?_) (fun H hO hS => ?_) (fun H e s' hc => ?_)
    · rw [← hps]
      exact fn_ok_of (G := gdOf L l.prog w K mg) rfl (k := 2 * m) g F Sc h1 h2 h3 (all_facts rfl g (defOk_of c hb) m)
    · have z := F.bindsA (ps := dx.ps) (fun kV doc pm an cdv ct us hl => bind_plain h4 (by rw [← Sc.pre]; exact Sc.nd.sublist (List.take_sublist _ _)) hl) s [u] (by rw [hps]; rfl)
      rw [hps] at z
      exact z
    · obtain ⟨S, z⟩ := main ns hlen
      refine ⟨⟨H, fun _ => none, 0, fun _ => 0⟩, [], [Val.t (.scr ns)], ⟨Same.refl _, rfl, fun k c e => by simp at e, fun j k c d e => by simp at e, fun a o e => by cases e⟩, .cons (.scr hS) .nil, hnp.symm ▸ rfl, ?_⟩
      have z : runFn L.tab (callF L.tab m) dx.fn [Val.t (.scr ns)] [] = .ok (.t (.bl true)) S := by
        have z : (match L.tab.fn lawId with
          | none => R.bad
          | some d => runFn L.tab (callF L.tab m) d ([Val.t (.scr ns)] ++ (d.dfl.drop (d.dfl.length - (d.np - 1))).map Val.t) []) = .ok (.t (.bl true)) S := z
        rw [show L.tab.fn lawId = some dx.fn from by show (L.defs[lawId]?).map (·.fn) = _; rw [hx]; rfl] at z
        have z : runFn L.tab (callF L.tab m) dx.fn ([Val.t (.scr ns)] ++ (dx.fn.dfl.drop (dx.fn.dfl.length - (dx.fn.np - 1))).map Val.t) [] = .ok (.t (.bl true)) S := z
        rw [h5, List.drop_nil, List.map_nil, List.append_nil] at z
        exact z
      show Post _ _ _ _ _ (runFn L.tab (callF L.tab m) dx.fn [Val.t (.scr ns)] []) _
      rw [z]
      intro W' b H' lw sw rw'
      cases rw'
      rfl
    · obtain ⟨_, _, _, _, _, _, _, _, _, _, _, _, z⟩ := hc
      exact z
end Rw

namespace Rw
open PySem PySem.Spec PyProof.Rows L2
/-! ### short ways through the small language -/
theorem callF_s (tab : Tab) (n f : Nat) (vs : List Val) (S : Store) : callF tab (n + 1) f vs S = (match tab.fn f with
    | none => .bad
    | some d => runFn tab (callF tab n) d (vs ++ (d.dfl.drop (d.dfl.length - (d.np - vs.length))).map .t) S) := rfl
theorem callF_d {tab : Tab} {n f : Nat} {d : Fn} {vs : List Val} {S : Store} (h : tab.fn f = some d) (hd : d.dfl = []) : callF tab (n + 1) f vs S = runFn tab (callF tab n) d vs S := by
  rw [callF_s, h]
  show runFn tab (callF tab n) d (vs ++ (d.dfl.drop (d.dfl.length - (d.np - vs.length))).map .t) S = _
  rw [hd, List.drop_nil, List.map_nil, List.append_nil]
/-- a pure def's value -/
def resP (m : RS) (S : Store) : R Val := match m with
  | .nx _ _ => .ok (.t .non) S
  | .rt v S1 => (match toT S1 v with
    | some (x, _) => .ok (.t x) S
    | none => .bad)
  | .ex x _ _ => .ex x S
  | _ => .bad
@[simp] theorem resP_nx (env : Env) (S1 S : Store) : resP (.nx env S1) S = .ok (.t .non) S := rfl
@[simp] theorem resP_rt (x : T) (S1 S : Store) : resP (.rt (.t x) S1) S = .ok (.t x) S := rfl
@[simp] theorem resP_ex (x : Exn) (env : Env) (S1 S : Store) : resP (.ex x env S1) S = .ex x S := rfl
theorem runFn_p {tab : Tab} {call : Call} {d : Fn} {xs : List T} {S : Store} (hp : d.pure = true) (hl : xs.length = d.np) :
    runFn tab call d (xs.map .t) S = resP (dSs tab call d.body (xs.map (fun x => some (.t x)) ++ List.replicate (d.ns - d.np) none) []) S := by
  have ha : ∀ xs : List T, allT (xs.map .t) = some xs := fun xs => by
    induction xs with
    | nil => rfl
    | cons x xs ih =>
      show (allT (xs.map .t)).map (x :: ·) = _
      rw [ih]
      rfl
  unfold runFn
  rw [if_pos (by rw [List.length_map, hl]), if_pos hp, ha, List.map_map]
  rfl
/-- a call of a pure def without defaults -/
theorem callP {tab : Tab} {n f : Nat} {d : Fn} (xs : List T) {S : Store} (h : tab.fn f = some d) (hd : d.dfl = []) (hp : d.pure = true) (hl : xs.length = d.np) :
    callF tab (n + 1) f (xs.map .t) S = resP (dSs tab (callF tab n) d.body (xs.map (fun x => some (.t x)) ++ List.replicate (d.ns - d.np) none) []) S := by
  rw [callF_d h hd, runFn_p hp hl]
/-- .. its letters, and its text, at hand -/
theorem callQ {tab : Tab} {n f np ns : Nat} {hh : Bool} {ss : ISs} (xs : List T) (env : Env) {S : Store} (h : tab.fn f = some ⟨true, np, ns, [], ss, hh⟩) (hl : xs.length = np)
    (he : xs.map (fun x => some (.t x)) ++ List.replicate (ns - np) none = env) :
    callF tab (n + 1) f (xs.map .t) S = resP (dSs tab (callF tab n) ss env []) S := by
  subst he
  exact callP xs h rfl rfl hl
@[simp] theorem seq_nx (env : Env) (S : Store) (k : Env → Store → RS) : (RS.nx env S).seq k = k env S := rfl
@[simp] theorem seq_rt (v : Val) (S : Store) (k : Env → Store → RS) : (RS.rt v S).seq k = .rt v S := rfl
@[simp] theorem seq_ex (x : Exn) (env : Env) (S : Store) (k : Env → Store → RS) : (RS.ex x env S).seq k = .ex x env S := rfl
@[simp] theorem seq_ct (env : Env) (S : Store) (k : Env → Store → RS) : (RS.ct env S).seq k = .ct env S := rfl
@[simp] theorem seq_bk (env : Env) (S : Store) (k : Env → Store → RS) : (RS.bk env S).seq k = .bk env S := rfl
@[simp] theorem seq_ite {c : Prop} [Decidable c] (a b : RS) (k : Env → Store → RS) : (if c then a else b).seq k = if c then a.seq k else b.seq k := by split <;> rfl
@[simp] theorem bind_ite {α β : Type} {c : Prop} [Decidable c] (a b : R α) (k : α → Store → R β) : (if c then a else b).bind k = if c then a.bind k else b.bind k := by split <;> rfl
@[simp] theorem st_ite {α : Type} {c : Prop} [Decidable c] (a b : R α) (env : Env) (k : α → Store → RS) : (if c then a else b).st env k = if c then a.st env k else b.st env k := by split <;> rfl
@[simp] theorem resP_ite {c : Prop} [Decidable c] (a b : RS) (S : Store) : resP (if c then a else b) S = if c then resP a S else resP b S := by split <;> rfl
/-! values -/
@[simp] theorem eqT_int (i j : Int) : eqT (.int i) (.int j) = some (decide (i = j)) := by
  show some (i == j) = _
  rw [Bool.beq_eq_decide_eq]
theorem pys_ints (ns : List Int) : T.pys (ns.map .int) = some (ns.map .int) := by
  induction ns with
  | nil => rfl
  | cons n ns ih =>
    show (match T.py (.int n) with
      | some d => (T.pys (ns.map .int)).map (d :: ·)
      | none => none) = _
    rw [ih]
    rfl
theorem eqvAll_nil (ns : List Int) : PyData.eqvAll (ns.map .int) [] = decide (ns = []) := by
  cases ns <;> rfl
@[simp] theorem eqT_scr_nil (ns : List Int) : eqT (.scr ns) (.lst []) = some (decide (ns = [])) := by
  show (if min (PyData.depth (.list (ns.map .int))) 1 ≤ 60 then some (PyData.eqvAll (ns.map .int) []) else none) = _
  rw [if_pos (by omega), eqvAll_nil]
@[simp] theorem cmpV_t (op : CmpOp) (x y : T) (S : Store) : cmpV op (.t x) (.t y) S = ofT ((cmpT op x y).map .bl) S := by cases op <;> rfl
@[simp] theorem cmpV_isr (n : Nat) (S : Store) : cmpV .Is (.r n) (.t .non) S = .ok (.t (.bl false)) S := rfl
@[simp] theorem cmpV_isnr (n : Nat) (S : Store) : cmpV .IsNot (.r n) (.t .non) S = .ok (.t (.bl true)) S := rfl
@[simp] theorem cmpT_isnn : cmpT .Is .non .non = some true := rfl
@[simp] theorem cmpT_innn : cmpT .IsNot .non .non = some false := rfl
@[simp] theorem cmpT_eq (x y : T) : cmpT .Eq x y = eqT x y := rfl
@[simp] theorem cmpT_ne (x y : T) : cmpT .NotEq x y = (eqT x y).map not := rfl
@[simp] theorem cmpT_lt (i j : Int) : cmpT .Lt (.int i) (.int j) = some (decide (i < j)) := rfl
@[simp] theorem cmpT_le (i j : Int) : cmpT .LtE (.int i) (.int j) = some (decide (i ≤ j)) := rfl
@[simp] theorem cmpT_gt (i j : Int) : cmpT .Gt (.int i) (.int j) = some (decide (j < i)) := rfl
@[simp] theorem cmpT_ge (i j : Int) : cmpT .GtE (.int i) (.int j) = some (decide (j ≤ i)) := rfl
@[simp] theorem binV_int (op : Operator) (i j : Int) (S : Store) : binV op (.t (.int i)) (.t (.int j)) S = ofT ((binI op i j).map .int) S := rfl
@[simp] theorem binI_add (i j : Int) : binI .Add i j = some (i + j) := rfl
@[simp] theorem binI_sub (i j : Int) : binI .Sub i j = some (i - j) := rfl
theorem binI_mul {i j : Int} (h : (bigI i || bigI j) = true) : binI .Mult i j = some (i * j) := if_pos h
theorem binI_mulL {i j : Int} (h : bigI i = true) : binI .Mult i j = some (i * j) := if_pos (by rw [h]; rfl)
theorem binI_mulR {i j : Int} (h : bigI j = true) : binI .Mult i j = some (i * j) := if_pos (by rw [h, Bool.or_true])
theorem binI_div {i j : Int} (h : 0 < j) (h2 : j < 1073741824) : binI .FloorDiv i j = some (i / j) := if_pos ⟨h, by omega⟩
theorem binI_mod {i j : Int} (h : 0 < j) : binI .Mod i j = some (i % j) := if_pos h
theorem binI_shl {i j : Int} (h : 0 ≤ j) (h2 : j ≤ 1000000) (h3 : i.natAbs < 18446744073709551616) : binI .LShift i j = some (i * 2 ^ j.toNat) := if_pos ⟨⟨h, by omega⟩, h3⟩
theorem binI_shr {i j : Int} (h : 0 ≤ j) : binI .RShift i j = some (i / 2 ^ j.toNat) := if_pos h
theorem binI_pow {i j : Int} (h : 0 ≤ j) (h2 : j ≤ 1000000) (h3 : i.natAbs < 18446744073709551616) : binI .Pow i j = some (i ^ j.toNat) := if_pos ⟨⟨h, by omega⟩, h3⟩
@[simp] theorem pow_20 : binI .Pow 2 20 = some 1048576 := by decide
@[simp] theorem pow_21 : binI .Pow 2 21 = some 2097152 := by decide
@[simp] theorem pow_24 : binI .Pow 2 24 = some 16777216 := by decide
@[simp] theorem pow_40 : binI .Pow 2 40 = some 1099511627776 := by decide
@[simp] theorem binI_and (i j : Int) : binI .BitAnd i j = some (Builtin.bitAnd i j) := rfl
theorem bigI_of {i : Int} (h : -18446744073709551616 < i) (h2 : i < 18446744073709551616) : bigI i = true := by
  unfold bigI
  exact decide_eq_true (by omega)
@[simp] theorem truV_bl (b : Bool) (S : Store) : truV (.t (.bl b)) S = .ok b S := rfl
@[simp] theorem lenV_scr (ns : List Int) (S : Store) : lenV (.t (.scr ns)) S = .ok (.t (.int ns.length)) S := rfl
@[simp] theorem lenV_lst (xs : List T) (S : Store) : lenV (.t (.lst xs)) S = .ok (.t (.int xs.length)) S := rfl
@[simp] theorem lenV_tup (xs : List T) (S : Store) : lenV (.t (.tup xs)) S = .ok (.t (.int xs.length)) S := rfl
@[simp] theorem blt_len (m : Bool) (a : Val) (S : Store) : bltV .len m [a] S = lenV a S := rfl
@[simp] theorem blt_min (m : Bool) (i j : Int) (S : Store) : bltV .min2 m [.t (.int i), .t (.int j)] S = .ok (.t (.int (min i j))) S := by
  show R.ok (Val.t (.int (if j < i then j else i))) S = _
  rw [show (if j < i then j else i) = min i j by split <;> omega]
@[simp] theorem blt_max (m : Bool) (i j : Int) (S : Store) : bltV .max2 m [.t (.int i), .t (.int j)] S = .ok (.t (.int (max i j))) S := by
  show R.ok (Val.t (.int (if j > i then j else i))) S = _
  rw [show (if j > i then j else i) = max i j by split <;> omega]
@[simp] theorem blt_int_b (m : Bool) (b : Bool) (S : Store) : bltV .int m [.t (.bl b)] S = .ok (.t (.int (if b then 1 else 0))) S := rfl
@[simp] theorem allT_cons (x : T) (vs : List Val) : allT (.t x :: vs) = (allT vs).map (x :: ·) := rfl
@[simp] theorem allT_nil : allT [] = some [] := rfl
@[simp] theorem alloc_f (vs : List Val) (S : Store) (h : vs.length ≤ szLine) : alloc false vs S = ofT ((allT vs).map .lst) S := by
  unfold alloc
  rw [if_pos h, if_neg (by decide)]
  cases allT vs <;> rfl
/-- an item by an index from nought on -/
theorem atL_nat {α : Type} {xs : List α} {i : Int} (h : 0 ≤ i) (h2 : i < xs.length) : atL xs i = xs[i.toNat]? := by
  unfold atL ix
  rw [if_pos h, if_pos h2]
  rfl
@[simp] theorem sub_lst (xs : List T) (i : Int) (S : Store) : subV (.t (.lst xs)) (.t (.int i)) S = ofT (atL xs i) S := rfl
@[simp] theorem sub_tup (xs : List T) (i : Int) (S : Store) : subV (.t (.tup xs)) (.t (.int i)) S = ofT (atL xs i) S := rfl
@[simp] theorem sub_scr (ns : List Int) (i : Int) (S : Store) : subV (.t (.scr ns)) (.t (.int i)) S = ofT ((atL ns i).map .int) S := rfl
theorem isi_int (tab : Tab) (t : Ty) (i : Int) (S : Store) (h : ∀ c, t ≠ .cls c) : isiV tab [t] (.t (.int i)) S = .ok (.t (.bl (t == .int))) S := by
  cases t with
  | cls c => exact absurd rfl (h c)
  | _ => rfl
@[simp] theorem isi_int_int (tab : Tab) (i : Int) (S : Store) : isiV tab [.int] (.t (.int i)) S = .ok (.t (.bl true)) S := rfl
@[simp] theorem isi_int_bool (tab : Tab) (i : Int) (S : Store) : isiV tab [.bool] (.t (.int i)) S = .ok (.t (.bl false)) S := rfl
/-! one statement, then the others -/
section
variable {tab : Tab} {call : Call} {i : Nat} {e : IE} {ss : ISs} {env : Env} {S S1 : Store} {v : Val}
theorem step_set (v : Val) (h : dE tab call e env S = .ok v S1) : dSs tab call (.cons (.set i e) ss) env S = dSs tab call ss (env.set i (some v)) S1 := by
  show (dS tab call (.set i e) env S).seq _ = _
  rw [show dS tab call (.set i e) env S = .nx (env.set i (some v)) S1 from by show (dE tab call e env S).st env _ = _; rw [h]; rfl]
  rfl
theorem step_ret (v : Val) (h : dE tab call e env S = .ok v S1) : dSs tab call (.cons (.ret e) ss) env S = .rt v S1 := by
  show (dS tab call (.ret e) env S).seq _ = _
  rw [show dS tab call (.ret e) env S = .rt v S1 from by show (dE tab call e env S).st env _ = _; rw [h]; rfl]
  rfl
theorem step_expr (v : Val) (h : dE tab call e env S = .ok v S1) : dSs tab call (.cons (.expr e) ss) env S = dSs tab call ss env S1 := by
  show (dS tab call (.expr e) env S).seq _ = _
  rw [show dS tab call (.expr e) env S = .nx env S1 from by show (dE tab call e env S).st env _ = _; rw [h]; rfl]
  rfl
theorem step_if {t : IC} {a b : ISs} (k : Bool) (h : dB tab call t env S = .ok k S1) : dSs tab call (.cons (.ife t a b) ss) env S = (if k then dSs tab call a env S1 else dSs tab call b env S1).seq fun env S => dSs tab call ss env S := by
  show (dS tab call (.ife t a b) env S).seq _ = _
  rw [show dS tab call (.ife t a b) env S = (if k then dSs tab call a env S1 else dSs tab call b env S1) from by show (dB tab call t env S).st env _ = _; rw [h]; rfl]
theorem step_ifF {t : IC} {a : ISs} (h : dB tab call t env S = .ok false S1) : dSs tab call (.cons (.ife t a .nil) ss) env S = dSs tab call ss env S1 := by
  rw [step_if false h]
  rfl
theorem step_for {k : ItK} {src : IEs} {many : Bool} {tg : List Nat} {body : ISs} {vs its : List Val} {w : Wk} {S2 : Store} (h : dEs tab call src env S = .ok vs S1) (h2 : items k vs S1 = .ok (its, w) S2) :
    dSs tab call (.cons (.for_ k src many tg body) ss) env S = (forL w many tg (fun env S => dSs tab call body env S) its env S2).seq fun env S => dSs tab call ss env S := by
  show (dS tab call (.for_ k src many tg body) env S).seq _ = _
  rw [show dS tab call (.for_ k src many tg body) env S = forL w many tg (fun env S => dSs tab call body env S) its env S2 from by
    show (dEs tab call src env S).st env _ = _
    rw [h]
    show (items k vs S1).st env _ = _
    rw [h2]
    rfl]
/-! .. where the store stays -/
theorem stay_set (v : Val) (h : dE tab call e env S = .ok v S) : dSs tab call (.cons (.set i e) ss) env S = dSs tab call ss (env.set i (some v)) S := step_set v h
theorem stay_if {t : IC} {a b : ISs} (k : Bool) (h : dB tab call t env S = .ok k S) : dSs tab call (.cons (.ife t a b) ss) env S = (if k then dSs tab call a env S else dSs tab call b env S).seq fun env S => dSs tab call ss env S := step_if k h
theorem stay_ifF {t : IC} {a : ISs} (h : dB tab call t env S = .ok false S) : dSs tab call (.cons (.ife t a .nil) ss) env S = dSs tab call ss env S := step_ifF h
@[simp] theorem dSs_nil : dSs tab call .nil env S = .nx env S := rfl
end
@[simp] theorem atL_2 (x y : T) (i : Int) (h : 0 ≤ i) (h2 : i < 2) : atL [x, y] i = some (if i = 0 then x else y) := by
  have : i = 0 ∨ i = 1 := by omega
  rcases this with rfl | rfl <;> rfl
@[simp] theorem atL_3 (x y z : T) (i : Int) (h : 0 ≤ i) (h2 : i < 3) : atL [x, y, z] i = some (if i = 0 then x else if i = 1 then y else z) := by
  have : i = 0 ∨ i = 1 ∨ i = 2 := by omega
  rcases this with rfl | rfl | rfl <;> rfl
@[simp] theorem ite_int (c : Prop) [Decidable c] (i j : Int) : (if c then T.int i else T.int j) = T.int (if c then i else j) := by split <;> rfl
theorem mod_bd (i : Int) {j : Int} (h : 0 < j) : 0 ≤ i % j ∧ i % j < j := ⟨Int.emod_nonneg _ (by omega), Int.emod_lt_of_pos _ h⟩
/-! ### impure defs -/
def resI (m : RS) : R Val := match m with
  | .nx _ S1 => .ok (.t .non) S1
  | .rt v S1 => .ok v S1
  | .ex x _ S1 => .ex x S1
  | _ => .bad
@[simp] theorem resI_nx (env : Env) (S1 : Store) : resI (.nx env S1) = .ok (.t .non) S1 := rfl
@[simp] theorem resI_rt (v : Val) (S1 : Store) : resI (.rt v S1) = .ok v S1 := rfl
@[simp] theorem resI_ex (x : Exn) (env : Env) (S1 : Store) : resI (.ex x env S1) = .ex x S1 := rfl
@[simp] theorem resI_ite {c : Prop} [Decidable c] (a b : RS) : resI (if c then a else b) = if c then resI a else resI b := by split <;> rfl
/-- a call of a def that runs in its caller's store -/
theorem callI {tab : Tab} {n f np ns : Nat} {hh : Bool} {ss : ISs} (xs : List Val) (env : Env) {S : Store} (h : tab.fn f = some ⟨false, np, ns, [], ss, hh⟩) (hl : xs.length = np)
    (he : xs.map some ++ List.replicate (ns - np) none = env) : callF tab (n + 1) f xs S = resI (dSs tab (callF tab n) ss env S) := by
  subst he
  rw [callF_d h rfl]
  unfold runFn
  rw [if_pos hl]
  rfl
/-! ### lists -/
@[simp] theorem allT_map (xs : List T) : allT (xs.map .t) = some xs := by
  induction xs with
  | nil => rfl
  | cons x xs ih =>
    show (allT (xs.map .t)).map (x :: ·) = _
    rw [ih]
    rfl
theorem alloc_t (xs : List T) (S : Store) (h : xs.length ≤ szLine) : alloc false (xs.map .t) S = .ok (.t (.lst xs)) S := by
  rw [alloc_f _ _ (by rw [List.length_map]; exact h), allT_map]
  rfl
theorem alloc_r (vs : List Val) (S : Store) (h : vs.length ≤ szLine) : alloc true vs S = .ok (.r S.length) (S ++ [.lst vs]) := by
  unfold alloc
  rw [if_pos h]
  rfl
@[simp] theorem binV_cat (xs ys : List T) (S : Store) : binV .Add (.t (.lst xs)) (.t (.lst ys)) S = alloc false ((xs ++ ys).map .t) S := by
  show alloc false (xs.map .t ++ ys.map .t) S = _
  rw [← List.map_append]
theorem rep_map (xs : List T) (k : Nat) : (List.replicate k (xs.map Val.t)).flatten = (List.replicate k xs).flatten.map .t := by
  induction k with
  | zero => rfl
  | succ k ih => rw [List.replicate_succ, List.flatten_cons, ih, List.replicate_succ, List.flatten_cons, List.map_append]
theorem binV_rep (xs : List T) (k : Int) (S : Store) (h : -9223372036854775808 < k) (h2 : k < 9223372036854775808) : binV .Mult (.t (.lst xs)) (.t (.int k)) S = alloc false ((List.replicate k.toNat xs).flatten.map .t) S := by
  show (if k.natAbs < 9223372036854775808 then alloc false (List.replicate k.toNat (xs.map Val.t)).flatten S else _) = _
  rw [if_pos (by omega), rep_map]
theorem binL_rep (m : Bool) (xs : List T) (k : Int) (S : Store) (h : -9223372036854775808 < k) (h2 : k < 9223372036854775808) : binL m .Mult (.t (.lst xs)) (.t (.int k)) S = alloc m ((List.replicate k.toNat xs).flatten.map .t) S := by
  show (if k.natAbs < 9223372036854775808 then alloc m (List.replicate k.toNat (xs.map Val.t)).flatten S else _) = _
  rw [if_pos (by omega), rep_map]
@[simp] theorem okW_none (S : Store) : okW none S := trivial
/-- a comprehension's loop whose turns leave the store -/
theorem compL_gen {w : Wk} {α : Type} {f : Val → Store → R (Option Val)} {S : Store} (hw : okW w S) (vv : α → Val) (gg : α → Val) (pp : α → Bool) : ∀ (l : List α) (acc : List Val), (∀ x ∈ l, f (vv x) S = .ok (if pp x then some (gg x) else none) S) → acc.length + l.length ≤ szLine →
    compL w f (l.map vv) acc S = .ok (acc ++ (l.filter pp).map gg) S
  | [], acc, _, _ => by
    rw [List.map_nil, compL_nil hw, List.filter_nil, List.map_nil, List.append_nil]
  | x :: l, acc, h, hl => by
    rw [List.length_cons] at hl
    rw [List.map_cons, compL_cons hw, h x List.mem_cons_self]
    cases q : pp x with
    | false =>
      show compL w f (l.map vv) acc S = _
      rw [compL_gen hw vv gg pp l acc (fun y hy => h y (List.mem_cons_of_mem _ hy)) (by omega), List.filter_cons_of_neg (by rw [q]; decide)]
    | true =>
      show (if acc.length < szLine then compL w f (l.map vv) (acc ++ [gg x]) S else .bad) = _
      rw [if_pos (by omega), compL_gen hw vv gg pp l (acc ++ [gg x]) (fun y hy => h y (List.mem_cons_of_mem _ hy)) (by rw [List.length_append, List.length_singleton]; omega), List.filter_cons_of_pos q, List.map_cons, List.append_assoc]
      rfl
theorem bind_as {α β γ : Type} (m : R α) (f : α → Store → R β) (g : β → Store → R γ) : (m.bind fun a S => (f a S).bind g) = (m.bind f).bind g := by cases m <;> rfl
/-- a comprehension whose parts leave the store -/
theorem comp_V {α : Type} {tab : Tab} {call : Call} {m : Bool} {kk : ItK} {src : IEs} {many : Bool} {tg : List Nat} {ifs : ICs} {elt : IE} {env : Env} {S : Store} {w : Wk} (xs : List α) (vv : α → Val) (gg : α → Val) (pp : α → Bool) (hz : xs.length ≤ szLine)
    (hs : (dEs tab call src env S).bind (fun vs S => items kk vs S) = .ok (xs.map vv, w) S) (hw : okW w S) (hf : ∀ x ∈ xs, ∃ env2, target many tg (vv x) (wipeE env tg) S = some env2 ∧ dAnd tab call ifs env2 S = .ok (pp x) S ∧ (pp x = true → dE tab call elt env2 S = .ok (gg x) S)) :
    dE tab call (.comp m kk src many tg ifs elt) env S = alloc m ((xs.filter pp).map gg) S := by
  show ((dEs tab call src env S).bind fun vs S => (items kk vs S).bind fun its S => (compL its.2 (compF tab call env many tg ifs elt) its.1 [] S).bind fun ys S => alloc m ys S) = _
  rw [bind_as (dEs tab call src env S) (fun vs S => items kk vs S), hs]
  show (compL w (compF tab call env many tg ifs elt) (xs.map vv) [] S).bind _ = _
  rw [compL_gen hw vv gg pp xs [] (fun x hx => ?_) (by simpa using hz)]
  · rfl
  · obtain ⟨env2, h1, h2, h3⟩ := hf x hx
    show (match target many tg (vv x) (wipeE env tg) S with
      | some env2 => (dAnd tab call ifs env2 S).bind fun k S => if k then (dE tab call elt env2 S).bind fun y S => .ok (some y) S else .ok none S
      | none => .bad) = _
    rw [h1]
    show (dAnd tab call ifs env2 S).bind _ = _
    rw [h2]
    cases q : pp x with
    | false => rfl
    | true =>
      show (dE tab call elt env2 S).bind _ = _
      rw [h3 q]
      rfl
/-- a comprehension of trees -/
theorem comp_some {α : Type} {tab : Tab} {call : Call} {kk : ItK} {src : IEs} {many : Bool} {tg : List Nat} {ifs : ICs} {elt : IE} {env : Env} {S : Store} {w : Wk} (xs : List α) (vv : α → Val) (gg : α → T) (pp : α → Bool) (hz : xs.length ≤ szLine)
    (hs : (dEs tab call src env S).bind (fun vs S => items kk vs S) = .ok (xs.map vv, w) S) (hw : okW w S) (hf : ∀ x ∈ xs, ∃ env2, target many tg (vv x) (wipeE env tg) S = some env2 ∧ dAnd tab call ifs env2 S = .ok (pp x) S ∧ (pp x = true → dE tab call elt env2 S = .ok (.t (gg x)) S)) :
    dE tab call (.comp false kk src many tg ifs elt) env S = .ok (.t (.lst ((xs.filter pp).map gg))) S := by
  rw [comp_V xs vv (fun x => .t (gg x)) pp hz hs hw hf]
  show alloc false ((xs.filter pp).map (Val.t ∘ gg)) S = _
  rw [← List.map_map, alloc_t]
  rw [List.length_map]
  exact Nat.le_trans (List.length_filter_le _ _) hz
theorem comp_map {α : Type} {tab : Tab} {call : Call} {kk : ItK} {src : IEs} {many : Bool} {tg : List Nat} {elt : IE} {env : Env} {S : Store} (xs : List α) (vv : α → Val) (gg : α → T) (hz : xs.length ≤ szLine)
    {w : Wk} (hs : (dEs tab call src env S).bind (fun vs S => items kk vs S) = .ok (xs.map vv, w) S) (hw : okW w S) (hf : ∀ x ∈ xs, ∃ env2, target many tg (vv x) (wipeE env tg) S = some env2 ∧ dE tab call elt env2 S = .ok (.t (gg x)) S) :
    dE tab call (.comp false kk src many tg .nil elt) env S = .ok (.t (.lst (xs.map gg))) S := by
  have z := comp_some (tab := tab) (call := call) (kk := kk) (src := src) (many := many) (tg := tg) (ifs := .nil) (elt := elt) (env := env) (S := S) xs vv gg (fun _ => true) hz hs hw (fun x hx => by
    obtain ⟨env2, h1, h2⟩ := hf x hx
    exact ⟨env2, h1, rfl, fun _ => h2⟩)
  rw [List.filter_eq_self.mpr (fun _ _ => rfl)] at z
  exact z
/-! alike -/
mutual
theorem py_refl : ∀ (x : T) (d : PyData), x.py = some d → PyData.eqv d d = true
  | .non, _, e => by cases e; rfl
  | .bl b, _, e => by cases e; show (b == b) = true; exact beq_self_eq_true b
  | .int i, _, e => by cases e; show (i == i) = true; exact beq_self_eq_true i
  | .str z, _, e => by cases e; show (z == z) = true; exact beq_self_eq_true z
  | .tup xs, _, e => by
    obtain ⟨ds, e2, e3⟩ := Option.map_eq_some_iff.mp (show (T.pys xs).map PyData.tuple = some _ from e)
    subst e3
    exact pys_refl xs ds e2
  | .lst xs, _, e => by
    obtain ⟨ds, e2, e3⟩ := Option.map_eq_some_iff.mp (show (T.pys xs).map PyData.list = some _ from e)
    subst e3
    exact pys_refl xs ds e2
  | .scr ns, _, e => by
    cases e
    show PyData.eqvAll (ns.map PyData.int) (ns.map PyData.int) = true
    induction ns with
    | nil => rfl
    | cons n ns ih =>
      show ((n == n) && PyData.eqvAll (ns.map PyData.int) (ns.map PyData.int)) = true
      rw [ih, beq_self_eq_true]
      rfl
  | .ins _ _, _, e => by cases e
  | .dct _, _, e => by cases e
  | .fn _, _, e => by cases e
theorem pys_refl : ∀ (xs : List T) (ds : List PyData), T.pys xs = some ds → PyData.eqvAll ds ds = true
  | [], _, e => by cases e; rfl
  | x :: xs, ds, e => by
    have e1 : (match T.py x with
      | some d => (T.pys xs).map (d :: ·)
      | none => none) = some ds := e
    cases q : T.py x with
    | none => rw [q] at e1; cases e1
    | some d =>
      rw [q] at e1
      obtain ⟨es, e2, e3⟩ := Option.map_eq_some_iff.mp e1
      subst e3
      show (PyData.eqv d d && PyData.eqvAll es es) = true
      rw [py_refl x d q, pys_refl xs es e2]
      rfl
end
theorem eqT_refl {x : T} {d : PyData} (h : x.py = some d) (hd : d.depth ≤ 60) : eqT x x = some true := by
  unfold eqT
  rw [h]
  show (if min d.depth d.depth ≤ 60 then some (PyData.eqv d d) else none) = _
  rw [if_pos (by omega), py_refl x d h]
theorem depth_ints (ns : List Int) : PyData.depthAll (ns.map .int) = 0 := by
  induction ns with
  | nil => rfl
  | cons n ns ih =>
    show max 0 (PyData.depthAll (ns.map .int)) = 0
    rw [ih]
    rfl
theorem eqT_lst_nil {xs : List T} {ds : List PyData} (h : T.pys xs = some ds) : eqT (.lst xs) (.lst []) = some xs.isEmpty := by
  have e1 : (T.lst xs).py = some (.list ds) := by
    show (T.pys xs).map PyData.list = _
    rw [h]
    rfl
  unfold eqT
  rw [e1]
  show (if min (PyData.depthAll ds + 1) (0 + 1) ≤ 60 then some (PyData.eqvAll ds []) else none) = _
  rw [if_pos (by omega)]
  cases xs with
  | nil => cases h; rfl
  | cons x xs =>
    have h1 : (match T.py x with
      | some d => (T.pys xs).map (d :: ·)
      | none => none) = some ds := h
    cases q : T.py x with
    | none => rw [q] at h1; cases h1
    | some d =>
      rw [q] at h1
      obtain ⟨es, e2, e3⟩ := Option.map_eq_some_iff.mp h1
      subst e3
      rfl
theorem pys_map {α : Type} (f : α → T) (g : α → PyData) (h : ∀ a, (f a).py = some (g a)) : ∀ l : List α, T.pys (l.map f) = some (l.map g)
  | [] => rfl
  | a :: l => by
    show (match (f a).py with
      | some d => (T.pys (l.map f)).map (d :: ·)
      | none => none) = _
    rw [h a, pys_map f g h l]
    rfl
theorem depth_map {α : Type} (g : α → PyData) (m : Nat) (h : ∀ a, (g a).depth ≤ m) : ∀ l : List α, PyData.depthAll (l.map g) ≤ m
  | [] => Nat.zero_le _
  | a :: l => by
    show max (g a).depth (PyData.depthAll (l.map g)) ≤ m
    have := h a
    have := depth_map g m h l
    omega
/-! builtins on lists -/
theorem allB_map (bs : List Bool) : allB ((bs.map T.bl).map .t) = some bs := by
  induction bs with
  | nil => rfl
  | cons b bs ih =>
    show (allB ((bs.map T.bl).map .t)).map (b :: ·) = _
    rw [ih]
    rfl
theorem blt_all {α : Type} (xs : List α) (p : α → Bool) (m : Bool) (S : Store) : bltV .all m [.t (.lst (xs.map fun x => T.bl (p x)))] S = .ok (.t (.bl (xs.all p))) S := by
  show ofT ((allB ((xs.map fun x => T.bl (p x)).map .t)).map fun bs => T.bl (bs.all id)) S = _
  rw [show (xs.map fun x => T.bl (p x)) = (xs.map p).map T.bl by rw [List.map_map]; rfl, allB_map]
  show R.ok (Val.t (.bl ((xs.map p).all id))) S = _
  rw [List.all_map]
  rfl
theorem blt_tuple (xs : List T) (m : Bool) (S : Store) (h : xs.length ≤ szLine) : bltV .tuple m [.t (.lst xs)] S = .ok (.t (.tup xs)) S := by
  show (if (xs.map Val.t).length ≤ szLine then ofT ((allT (xs.map .t)).map .tup) S else .bad) = _
  rw [if_pos (by rw [List.length_map]; exact h), allT_map]
  rfl
theorem dB_ands2 {tab : Tab} {call : Call} {c d : IC} {env : Env} {S : Store} {k : Bool} (h : dB tab call c env S = .ok true S) (h2 : dB tab call d env S = .ok k S) : dB tab call (.ands (.cons c (.cons d .nil))) env S = .ok k S := by
  show R.bind (dB tab call c env S) _ = _
  rw [h]
  show R.bind (dB tab call d env S) _ = _
  rw [h2]
  cases k <;> rfl
theorem dB_cmp {tab : Tab} {call : Call} {op : CmpOp} {a b : IE} {env : Env} {S : Store} {x y : T} {k : Bool} (h : dE tab call a env S = .ok (.t x) S) (h2 : dE tab call b env S = .ok (.t y) S) (h3 : cmpT op x y = some k) : dB tab call (.val (.cmp op a b)) env S = .ok k S := by
  show R.bind (R.bind (dE tab call a env S) _) _ = _
  rw [h]
  show R.bind (R.bind (dE tab call b env S) _) _ = _
  rw [h2]
  show R.bind (cmpV op (.t x) (.t y) S) _ = _
  rw [cmpV_t, h3]
  rfl
/-- a call of a builtin, its one argument known -/
theorem dE_blt {tab : Tab} {call : Call} {b : Blt} {m : Bool} {e : IE} {env : Env} {S S1 : Store} {v : Val} (h : dE tab call e env S = .ok v S1) : dE tab call (.blt b m (.cons e .nil)) env S = bltV b m [v] S1 := by
  show R.bind (R.bind (dE tab call e env S) _) _ = _
  rw [h]
  rfl
theorem rev_lst (xs : List T) (S : Store) (h : xs.length ≤ szLine) : revV false (.t (.lst xs)) S = .ok (.t (.lst xs.reverse)) S := by
  show alloc false (xs.map Val.t).reverse S = _
  rw [← List.map_reverse, alloc_t _ _ (by rw [List.length_reverse]; exact h)]
theorem cut_take {α : Type} (xs : List α) {k : Int} (h : 0 ≤ k) : cutL xs none (some k) = xs.take k.toNat := by
  have e1 : HT.sIx xs.length 0 none = 0 := rfl
  have e2 : HT.sIx xs.length xs.length (some k) = min k.toNat xs.length := by
    unfold HT.sIx
    simp only []
    split <;> omega
  unfold cutL
  rw [e1, e2, List.drop_zero, Nat.sub_zero]
  by_cases z : k.toNat ≤ xs.length
  · rw [Nat.min_eq_left z]
  · rw [Nat.min_eq_right (by omega), List.take_length, List.take_of_length_le (by omega)]
theorem slc_take (xs : List T) {k : Int} (S : Store) (h : 0 ≤ k) (hz : xs.length ≤ szLine) : slcV false (.t (.lst xs)) none (some k) S = .ok (.t (.lst (xs.take k.toNat))) S := by
  show alloc false (cutL (xs.map Val.t) none (some k)) S = _
  rw [cut_take _ h, ← List.map_take, alloc_t _ _ (by rw [List.length_take]; omega)]
theorem blt_listR (xs : List T) (S : Store) (h : xs.length ≤ szLine) : bltV .list true [.t (.lst xs)] S = .ok (.r S.length) (S ++ [.lst (xs.map .t)]) := alloc_r _ _ (by rw [List.length_map]; exact h)
theorem set_same {S : Store} {c : Nat} {x : Cell} (h : S[c]? = some x) : S.set c x = S := by
  have hl := (List.getElem?_eq_some_iff.mp h).1
  have e : S[c] = x := (List.getElem?_eq_some_iff.mp h).2
  rw [← e]
  exact List.set_getElem_self hl
theorem blt_list (xs : List T) (S : Store) (h : xs.length ≤ szLine) : bltV .list false [.t (.lst xs)] S = .ok (.t (.lst xs)) S := alloc_t xs S h
theorem blt_listT (xs : List T) (S : Store) (h : xs.length ≤ szLine) : bltV .list false [.t (.tup xs)] S = .ok (.t (.lst xs)) S := alloc_t xs S h
theorem blt_tupleT (xs : List T) (m : Bool) (S : Store) : bltV .tuple m [.t (.tup xs)] S = .ok (.t (.tup xs)) S := rfl
theorem blt_tupleR (xs : List T) (n : Nat) (m : Bool) (S : Store) (h : listV S (.r n) = some (xs.map .t)) (hz : xs.length ≤ szLine) : bltV .tuple m [.r n] S = .ok (.t (.tup xs)) S := by
  show (match Val.r n, listV S (.r n) with
    | .t (.tup xs), _ => R.ok (Val.t (.tup xs)) S
    | _, some vs => if vs.length ≤ szLine then ofT ((allT vs).map .tup) S else .bad
    | _, none => .bad) = _
  rw [h]
  show (if (xs.map Val.t).length ≤ szLine then ofT ((allT (xs.map .t)).map .tup) S else .bad) = _
  rw [if_pos (by rw [List.length_map]; exact hz), allT_map]
  rfl
theorem listV_r {S : Store} {n : Nat} {vs : List Val} (h : S[n]? = some (.lst vs)) : listV S (.r n) = some vs := by
  show (match S[n]? with
    | some (.lst vs) => some vs
    | _ => none) = _
  rw [h]
theorem fld_r {tab : Tab} {S : Store} {n c f : Nat} {fs : List (Nat × Val)} {v : Val} (h : S[n]? = some (.ins c fs)) (hb : fldB tab c f = true) (hv : fs.lookup f = some v) : fldV tab (.r n) f S = .ok v S := by
  show (match S[n]? with
    | some (.ins c fs) => if fldB tab c f then ofO (fs.lookup f) S else .bad
    | _ => .bad) = _
  rw [h]
  show (if fldB tab c f then ofO (fs.lookup f) S else .bad) = _
  rw [if_pos hb, hv]
  rfl
theorem len_r {S : Store} {n : Nat} {vs : List Val} (h : S[n]? = some (.lst vs)) : lenV (.r n) S = .ok (.t (.int vs.length)) S := by
  show (match S[n]? with
    | some (.lst vs) => R.ok (Val.t (.int vs.length)) S
    | _ => .bad) = _
  rw [h]
theorem sub_r {S : Store} {n : Nat} {vs : List Val} (h : S[n]? = some (.lst vs)) (i : Int) : subV (.r n) (.t (.int i)) S = ofO (atL vs i) S := by
  show (match S[n]? with
    | some (.lst vs) => ofO (atL vs i) S
    | some (.dct kvs) => ofO (lookK kvs (.inl i)) S
    | _ => .bad) = _
  rw [h]
theorem setS_r {S : Store} {n j : Nat} {vs : List Val} {i : Int} {v : Val} (h : S[n]? = some (.lst vs)) (hi : ix vs.length i = some j) : setSV (.r n) (.t (.int i)) v S = some (S.set n (.lst (vs.set j v))) := by
  show (match S[n]? with
    | some (.lst ws) => (ix ws.length i).map fun j => S.set n (.lst (ws.set j v))
    | some (.dct kvs) => if kvs.length < 1000 then some (S.set n (.dct (putKV kvs (.inl i) v))) else none
    | _ => none) = _
  rw [h]
  show (ix vs.length i).map _ = _
  rw [hi]
  rfl
theorem ix_mod {n : Nat} (h : 0 < n) (i : Int) : ix n (i % n) = some (i % n).toNat := by
  have := mod_bd i (j := n) (by omega)
  unfold ix
  rw [if_pos this.1, if_pos this.2]
/-- a cell of the store: its place -/
@[simp] theorem get_len (S : Store) (c : Cell) : (S ++ [c])[S.length]? = some c := by simp
/-! loops -/
/-- a loop whose turns are counted -/
theorem forL_idx {w : Wk} {many : Bool} {tg : List Nat} {body : Env → Store → RS} (P : Nat → Env → Store → Prop) (hw : ∀ i env S, P i env S → okW w S) : ∀ (its : List Val) (j : Nat) (env : Env) (S : Store), P j env S →
    (∀ i v env S, its[i]? = some v → P (j + i) env S → ∃ env1 env2 S2, target many tg v env S = some env1 ∧ body env1 S = .nx env2 S2 ∧ P (j + i + 1) env2 S2) → ∃ env2 S2, forL w many tg body its env S = .nx env2 S2 ∧ P (j + its.length) env2 S2
  | [], j, env, S, h, _ => ⟨env, S, forL_nil (hw _ _ _ h), h⟩
  | v :: vs, j, env, S, h, hs => by
    obtain ⟨e1, e2, S2, t1, b1, p1⟩ := hs 0 v env S rfl h
    obtain ⟨e3, S3, f3, p3⟩ := forL_idx P hw vs (j + 1) e2 S2 p1 fun i w env S hw p => by
      have z := hs (i + 1) w env S (by simpa using hw) (by rw [show j + (i + 1) = j + 1 + i by omega]; exact p)
      rw [show j + (i + 1) + 1 = j + 1 + i + 1 by omega] at z
      exact z
    refine ⟨e3, S3, ?_, by rw [List.length_cons, show j + (vs.length + 1) = j + 1 + vs.length by omega]; exact p3⟩
    rw [forL_cons (hw _ _ _ h), t1]
    show (match body e1 S with
        | .nx env2 S2 => forL w many tg body vs env2 S2
        | .ct env2 S2 => forL w many tg body vs env2 S2
        | .bk env2 S2 => .nx env2 S2
        | m => m) = _
    rw [b1]
    exact f3
/-- a loop that always goes on -/
theorem forL_keep {many : Bool} {tg : List Nat} {body : Env → Store → RS} (P : Env → Store → Prop) (its : List Val) (env : Env) (S : Store) (h : P env S)
    (hs : ∀ v ∈ its, ∀ env S, P env S → ∃ env1 env2 S2, target many tg v env S = some env1 ∧ body env1 S = .nx env2 S2 ∧ P env2 S2) : ∃ env2 S2, forL none many tg body its env S = .nx env2 S2 ∧ P env2 S2 :=
  forL_idx (fun _ => P) (fun _ _ S _ => okW_none S) its 0 env S h fun i v env S hi p => hs v (List.mem_of_getElem? hi) env S p
theorem mem_rng {lo hi : Int} {v : Val} (h : v ∈ rng lo hi) : ∃ k : Int, v = .t (.int k) ∧ lo ≤ k ∧ k < hi := by
  unfold rng at h
  obtain ⟨i, hi2, e⟩ := List.mem_map.mp h
  rw [List.mem_range] at hi2
  exact ⟨lo + (i : Int), e.symm, by omega, by omega⟩
@[simp] theorem items_rng1 (n : Int) (S : Store) (h : rngOk n = true) : items .range [.t (.int n)] S = .ok (rng 0 n, none) S := if_pos h
@[simp] theorem items_rng2 (a b : Int) (S : Store) (h : (rngOk a && rngOk b) = true) : items .range [.t (.int a), .t (.int b)] S = .ok (rng a b, none) S := if_pos h
theorem rngOk_of {i : Int} (h : -4611686018427387904 < i) (h2 : i < 4611686018427387904) : rngOk i = true := by
  unfold rngOk
  exact decide_eq_true (by omega)
end Rw

namespace Rw
open PySem PySem.Spec PyProof.Rows L2
/-! ### pieces of the store that stand apart -/
abbrev Fr : Type := List (Nat × Cell)
structure Hs (S : Store) (h : Fr) : Prop where
  at_ : ∀ p ∈ h, S[p.1]? = some p.2
  nd : (h.map (·.1)).Nodup
theorem Hs.get {S : Store} {h : Fr} (H : Hs S h) {i : Nat} {c : Cell} (m : (i, c) ∈ h) : S[i]? = some c := H.at_ _ m
theorem Hs.lt {S : Store} {h : Fr} (H : Hs S h) {p : Nat × Cell} (m : p ∈ h) : p.1 < S.length := (List.getElem?_eq_some_iff.mp (H.at_ p m)).1
theorem Hs.perm {S : Store} {h h' : Fr} (H : Hs S h) (p : h.Perm h') : Hs S h' := ⟨fun q m => H.at_ q (p.mem_iff.mpr m), (p.map _).nodup_iff.mp H.nd⟩
theorem Hs.push {S : Store} {h : Fr} (H : Hs S h) (c : Cell) : Hs (S ++ [c]) ((S.length, c) :: h) := by
  refine ⟨fun p m => ?_, ?_⟩
  · rcases List.mem_cons.mp m with e | m
    · subst e
      exact get_len S c
    · rw [List.getElem?_append_left (H.lt m)]
      exact H.at_ p m
  · rw [List.map_cons, List.nodup_cons]
    refine ⟨fun m => ?_, H.nd⟩
    obtain ⟨p, hp, e⟩ := List.mem_map.mp m
    have := H.lt hp
    omega
theorem Hs.more {S : Store} {h : Fr} (H : Hs S h) (T : Store) : Hs (S ++ T) h := ⟨fun p m => by rw [List.getElem?_append_left (H.lt m)]; exact H.at_ p m, H.nd⟩
theorem Hs.tail {S : Store} {p : Nat × Cell} {h : Fr} (H : Hs S (p :: h)) : Hs S h := ⟨fun q m => H.at_ q (List.mem_cons_of_mem _ m), (List.nodup_cons.mp (by simpa using H.nd)).2⟩
theorem Hs.left {S : Store} {a b : Fr} (H : Hs S (a ++ b)) : Hs S a := ⟨fun q m => H.at_ q (List.mem_append_left _ m), by
  have := H.nd
  rw [List.map_append] at this
  exact (List.nodup_append.mp this).1⟩
theorem Hs.right {S : Store} {a b : Fr} (H : Hs S (a ++ b)) : Hs S b := ⟨fun q m => H.at_ q (List.mem_append_right _ m), by
  have := H.nd
  rw [List.map_append] at this
  exact (List.nodup_append.mp this).2.1⟩
/-- the k-th piece is changed -/
theorem Hs.setk {S : Store} {h : Fr} (H : Hs S h) (k : Nat) {i : Nat} {c : Cell} (e : h[k]? = some (i, c)) (c' : Cell) : Hs (S.set i c') (h.set k (i, c')) := by
  have hk := (List.getElem?_eq_some_iff.mp e).1
  have ek : h[k] = (i, c) := (List.getElem?_eq_some_iff.mp e).2
  have hi : i < S.length := H.lt (p := (i, c)) (ek ▸ List.getElem_mem hk)
  have keys : (h.set k (i, c')).map (·.1) = h.map (·.1) := by
    rw [List.map_set]
    have : (h.map (·.1))[k]? = some i := by rw [List.getElem?_map, e]; rfl
    obtain ⟨hk2, e2⟩ := List.getElem?_eq_some_iff.mp this
    have z := List.set_getElem_self (as := h.map (·.1)) hk2
    rw [e2] at z
    exact z
  refine ⟨fun p m => ?_, by rw [keys]; exact H.nd⟩
  obtain ⟨j, hj, ej⟩ := List.mem_iff_getElem.mp m
  rw [List.length_set] at hj
  rw [List.getElem_set] at ej
  split at ej
  · subst ej
    exact List.getElem?_set_self hi
  · rename_i hne
    have : p.1 ≠ i := fun z => by
      have nd := H.nd
      have h1 : (h.map (·.1))[j]? = some i := by rw [List.getElem?_map, List.getElem?_eq_getElem hj, ej]; exact congrArg some z
      have h2 : (h.map (·.1))[k]? = some i := by rw [List.getElem?_map, e]; rfl
      have hj' : j < (h.map (·.1)).length := by rw [List.length_map]; exact hj
      have this := List.pairwise_iff_getElem.mp (show (h.map (·.1)).Pairwise (· ≠ ·) from nd)
      have hk' : k < (h.map (·.1)).length := by rw [List.length_map]; exact hk
      have a1 := (List.getElem?_eq_some_iff.mp h1).2
      have a2 := (List.getElem?_eq_some_iff.mp h2).2
      rcases Nat.lt_trichotomy k j with q | q | q
      · exact this k j hk' hj' q (a2.trans a1.symm)
      · exact hne q
      · exact this j k hj' hk' q (a1.trans a2.symm)
    rw [List.getElem?_set_ne (fun z => this z.symm)]
    exact H.at_ p (ej ▸ List.getElem_mem hj)
/-- pieces picked by their places -/
theorem Hs.sel {S : Store} {A X : Fr} (H : Hs S (A ++ X)) : ∀ (is : List Nat), is.Nodup → Hs S (is.filterMap (fun i => A[i]?) ++ X)
  | [], _ => H.right
  | i :: is, hn => by
    obtain ⟨h1, h2⟩ := List.nodup_cons.mp hn
    have ih := Hs.sel H is h2
    cases e : A[i]? with
    | none =>
      rw [List.filterMap_cons, e]
      exact ih
    | some p =>
      rw [List.filterMap_cons, e]
      obtain ⟨hi, ei⟩ := List.getElem?_eq_some_iff.mp e
      have mA : p ∈ A := ei ▸ List.getElem_mem hi
      refine ⟨fun q m => ?_, ?_⟩
      · rcases List.mem_cons.mp m with z | m
        · subst z
          exact H.at_ _ (List.mem_append_left _ mA)
        · exact ih.at_ q m
      · rw [List.cons_append, List.map_cons, List.nodup_cons]
        refine ⟨fun m => ?_, ih.nd⟩
        obtain ⟨q, hq, eq⟩ := List.mem_map.mp m
        have nd := H.nd
        rw [List.map_append] at nd
        obtain ⟨na, nx, dj⟩ := List.nodup_append.mp nd
        rcases List.mem_append.mp hq with hq | hq
        · obtain ⟨j, hj, ej⟩ := List.mem_filterMap.mp hq
          have hij : i ≠ j := fun z => h1 (z ▸ hj)
          obtain ⟨hj2, ej2⟩ := List.getElem?_eq_some_iff.mp ej
          have this := List.pairwise_iff_getElem.mp (show (A.map (·.1)).Pairwise (· ≠ ·) from na)
          have b1 : i < (A.map (·.1)).length := by rw [List.length_map]; exact hi
          have b2 : j < (A.map (·.1)).length := by rw [List.length_map]; exact hj2
          have a1 : (A.map (·.1))[i] = p.1 := by rw [List.getElem_map, ei]
          have a2 : (A.map (·.1))[j] = q.1 := by rw [List.getElem_map, ej2]
          rcases Nat.lt_or_gt_of_ne hij with z | z
          · exact this i j b1 b2 z (a1.trans (eq.symm.trans a2.symm))
          · exact this j i b2 b1 z (a2.trans (eq.trans a1.symm))
        · exact dj p.1 (List.mem_map.mpr ⟨p, mA, rfl⟩) q.1 (List.mem_map.mpr ⟨q, hq, rfl⟩) eq.symm
/-! the cells by which objects are read and written -/
theorem fld_h {tab : Tab} {S : Store} {n c f : Nat} {fs : List (Nat × Val)} {v : Val} (h : S[n]? = some (.ins c fs)) (hb : fldB tab c f = true) (hv : fs.lookup f = some v) : fldV tab (.r n) f S = .ok v S := fld_r h hb hv
theorem setF_h {tab : Tab} {S : Store} {n c f : Nat} {fs : List (Nat × Val)} {v : Val} (h : S[n]? = some (.ins c fs)) (hb : fldB tab c f = true) (hl : fs.length < 1000) : setFV tab (.r n) f v S = some (S.set n (.ins c (putN f v fs))) := by
  show (match S[n]? with
    | some (.ins c fs) => if fldB tab c f && decide (fs.length < 1000) then some (S.set n (.ins c (putN f v fs))) else none
    | _ => none) = _
  rw [h]
  show (if fldB tab c f && decide (fs.length < 1000) then _ else none) = _
  rw [hb, decide_eq_true hl]
  rfl
theorem meth_h {tab : Tab} {S : Store} {n c f g m : Nat} {fs : List (Nat × Val)} (h : S[n]? = some (.ins c fs)) (hn : fs.lookup f = none) (hg : ((tab.cl c).bind fun k => k.meths.lookup f) = some g) (ha : arity tab g m = true) :
    methV tab f m (.r n) S = .ok g S := by
  show (match S[n]? with
    | some (.ins c fs) => if (fs.lookup f).isNone then ariV tab m ((tab.cl c).bind fun k => k.meths.lookup f) S else .bad
    | _ => .bad) = _
  rw [h]
  show (if (fs.lookup f).isNone then ariV tab m ((tab.cl c).bind fun k => k.meths.lookup f) S else .bad) = _
  rw [hn, hg]
  show (if arity tab g m then R.ok g S else .bad) = _
  rw [if_pos ha]
theorem pop_h {S : Store} {n : Nat} {ws : List Val} {v : Val} (h : S[n]? = some (.lst ws)) (hv : ws[ws.length - 1]? = some v) : bmV .pop (.r n) [] S = .ok v (S.set n (.lst ws.dropLast)) := by
  show (match S[n]? with
    | some (.lst ws) => (match ws[ws.length - 1]? with
        | some v => R.ok v (S.set n (.lst ws.dropLast))
        | none => .bad)
    | _ => .bad) = _
  rw [h]
  show (match ws[ws.length - 1]? with
        | some v => R.ok v (S.set n (.lst ws.dropLast))
        | none => .bad) = _
  rw [hv]
theorem cellB_h {S : Store} {n : Nat} {ws : List Val} (h : S[n]? = some (.lst ws)) : cellB (.r n) S = true := by
  show (match S[n]? with
    | some (.lst _) => true
    | _ => false) = _
  rw [h]
theorem app_h {S : Store} {n : Nat} {ws : List Val} {v : Val} (h : S[n]? = some (.lst ws)) (hl : ws.length < szLine) : bmV .append (.r n) [v] S = .ok (Val.t .non) (S.set n (.lst (ws ++ [v]))) := by
  show (match S[n]? with
    | some (.lst ws) => if ws.length < szLine then R.ok (Val.t .non) (S.set n (.lst (ws ++ [v]))) else .bad
    | _ => .bad) = _
  rw [h]
  exact if_pos hl
theorem items_h {S : Store} {n : Nat} {ws : List Val} (h : S[n]? = some (.lst ws)) : items .seq [.r n] S = .ok (ws, some (n, ws)) S := by
  show (match S[n]? with
    | some (.lst ws) => R.ok (ws, some (n, ws)) S
    | _ => .bad) = _
  rw [h]
theorem sub_h {S : Store} {n : Nat} {vs : List Val} {i : Int} {v : Val} (h : S[n]? = some (.lst vs)) (hv : atL vs i = some v) : subV (.r n) (.t (.int i)) S = .ok v S := by
  rw [sub_r h, hv]
  rfl
theorem ix_nat {n : Nat} {i : Int} (h : 0 ≤ i) (h2 : i < n) : ix n i = some i.toNat := by
  unfold ix
  rw [if_pos h, if_pos h2]
theorem setS_h {S : Store} {n : Nat} {vs : List Val} {i : Int} {v : Val} (h : S[n]? = some (.lst vs)) (h0 : 0 ≤ i) (h1 : i < vs.length) : setSV (.r n) (.t (.int i)) v S = some (S.set n (.lst (vs.set i.toNat v))) := setS_r h (ix_nat h0 h1)
theorem lstV_h {S : Store} {n : Nat} {vs : List Val} (h : S[n]? = some (.lst vs)) : lstV S (.r n) = some vs := by
  show (match S[n]? with
    | some (.lst vs) => some vs
    | _ => none) = _
  rw [h]
theorem cut_two {α : Type} (xs : List α) {k : Int} (h0 : 0 ≤ k) (h1 : k + 4 ≤ xs.length) : cutL xs (some k) (some (k + 4)) = (xs.drop k.toNat).take 4 := by
  unfold cutL
  have e1 : HT.sIx xs.length 0 (some k) = k.toNat := by
    unfold HT.sIx
    simp only []
    split <;> omega
  have e2 : HT.sIx xs.length xs.length (some (k + 4)) = k.toNat + 4 := by
    unfold HT.sIx
    simp only []
    split <;> omega
  rw [e1, e2, Nat.add_sub_cancel_left]
theorem slc_two (xs : List T) (k : Int) (S : Store) (h0 : 0 ≤ k) (h1 : k + 4 ≤ xs.length) (hz : xs.length ≤ szLine) : slcV false (.t (.lst xs)) (some k) (some (k + 4)) S = .ok (.t (.lst ((xs.drop k.toNat).take 4))) S := by
  show alloc false (cutL (xs.map Val.t) (some k) (some (k + 4))) S = _
  rw [cut_two _ h0 (by rw [List.length_map]; exact h1), ← List.map_drop, ← List.map_take, alloc_t _ _ (by rw [List.length_take]; omega)]
theorem cut_drop {α : Type} (xs : List α) {k : Int} (h : 0 ≤ k) (h1 : k ≤ xs.length) : cutL xs (some k) none = xs.drop k.toNat := by
  unfold cutL
  have e1 : HT.sIx xs.length 0 (some k) = k.toNat := by
    unfold HT.sIx
    simp only []
    split <;> omega
  have e2 : HT.sIx xs.length xs.length none = xs.length := rfl
  rw [e1, e2, List.take_of_length_le (by rw [List.length_drop]; omega)]
theorem slc_drop (xs : List T) {k : Int} (S : Store) (h : 0 ≤ k) (h1 : k ≤ xs.length) (hz : xs.length ≤ szLine) : slcV false (.t (.lst xs)) (some k) none S = .ok (.t (.lst (xs.drop k.toNat))) S := by
  show alloc false (cutL (xs.map Val.t) (some k) none) S = _
  rw [cut_drop _ h (by rw [List.length_map]; exact h1), ← List.map_drop, alloc_t _ _ (by rw [List.length_drop]; omega)]
end Rw

namespace Rw
open PySem PySem.Spec PyProof.Rows L2
/-! ### how a term is told, part by part: the store is handed on -/
section
variable {tab : Tab} {call : Call} {env : Env} {S S1 S2 S3 S4 : Store} {a b c e : IE} {es : IEs} {v w x y z : Val} {vs ws : List Val} {k k1 k2 : Bool}
theorem ev_var {i : Nat} (h : env[i]? = some (some v)) : dE tab call (.var i) env S = .ok v S := by
  show (match env[i]? with
    | some (some v) => R.ok v S
    | _ => .bad) = _
  rw [h]
theorem ev_con (t : T) : dE tab call (.con t) env S = .ok (.t t) S := rfl
theorem ev_glob {g : Nat} {t : T} (h : tab.con g = some t) : dE tab call (.glob g) env S = .ok (.t t) S := by
  show ofT (tab.con g) S = _
  rw [h]
  rfl
theorem ev_bin {op : Operator} {r : R Val} (h1 : dE tab call a env S = .ok x S1) (h2 : dE tab call b env S1 = .ok y S2) (h3 : binV op x y S2 = r) : dE tab call (.bin op a b) env S = r := by
  show (dE tab call a env S).bind _ = _
  rw [h1]
  show (dE tab call b env S1).bind _ = _
  rw [h2]
  exact h3
theorem ev_binM {op : Operator} {r : R Val} (h1 : dE tab call a env S = .ok x S1) (h2 : dE tab call b env S1 = .ok y S2) (h3 : binL true op x y S2 = r) : dE tab call (.binM op a b) env S = r := by
  show (dE tab call a env S).bind _ = _
  rw [h1]
  show (dE tab call b env S1).bind _ = _
  rw [h2]
  exact h3
theorem ev_neg {i : Int} (h1 : dE tab call a env S = .ok (.t (.int i)) S1) : dE tab call (.neg a) env S = .ok (.t (.int (-i))) S1 := by
  show (dE tab call a env S).bind _ = _
  rw [h1]
  rfl
theorem ev_cmp {op : CmpOp} {r : R Val} (h1 : dE tab call a env S = .ok x S1) (h2 : dE tab call b env S1 = .ok y S2) (h3 : cmpV op x y S2 = r) : dE tab call (.cmp op a b) env S = r := by
  show (dE tab call a env S).bind _ = _
  rw [h1]
  show (dE tab call b env S1).bind _ = _
  rw [h2]
  exact h3
theorem ev_cmp2 {o p : CmpOp} (h1 : dE tab call a env S = .ok x S1) (h2 : dE tab call b env S1 = .ok y S2) (h3 : cmpV o x y S2 = .ok (.t (.bl k1)) S2) (h4 : dE tab call c env S2 = .ok z S2) (h5 : cmpV p y z S2 = .ok (.t (.bl k2)) S2) : dE tab call (.cmp2 o p a b c) env S = .ok (.t (.bl (k1 && k2))) S2 := by
  show (dE tab call a env S).bind _ = _
  rw [h1]
  show (dE tab call b env S1).bind _ = _
  rw [h2]
  show (cmpV o x y S2).bind _ = _
  rw [h3]
  show (if k1 then (dE tab call c env S2).bind fun w S => cmpV p y w S else .ok (.t (.bl false)) S2) = _
  cases k1 with
  | true =>
    show (dE tab call c env S2).bind _ = _
    rw [h4]
    exact h5
  | false => rfl
theorem ev_not (h1 : dE tab call a env S = .ok (.t (.bl k)) S1) : dE tab call (.not a) env S = .ok (.t (.bl (!k))) S1 := by
  show (dE tab call a env S).bind _ = _
  rw [h1]
  rfl
theorem ev_and1 {r : R Val} (h : dE tab call e env S = r) : dE tab call (.ands (.cons e .nil)) env S = r := h
theorem ev_andT {r : R Val} {f : IE} {fs : IEs} (h : dE tab call e env S = .ok (.t (.bl true)) S1) (h2 : dE tab call (.ands (.cons f fs)) env S1 = r) : dE tab call (.ands (.cons e (.cons f fs))) env S = r := by
  show (dE tab call e env S).bind _ = _
  rw [h]
  exact h2
theorem ev_andF {f : IE} {fs : IEs} (h : dE tab call e env S = .ok (.t (.bl false)) S1) : dE tab call (.ands (.cons e (.cons f fs))) env S = .ok (.t (.bl false)) S1 := by
  show (dE tab call e env S).bind _ = _
  rw [h]
  rfl
theorem ev_and {f : IE} {fs : IEs} (h : dE tab call e env S = .ok (.t (.bl k1)) S1) (h2 : dE tab call (.ands (.cons f fs)) env S1 = .ok (.t (.bl k2)) S1) : dE tab call (.ands (.cons e (.cons f fs))) env S = .ok (.t (.bl (k1 && k2))) S1 := by
  cases k1 with
  | true => exact ev_andT h h2
  | false => exact ev_andF h
theorem ev_or1 {r : R Val} (h : dE tab call e env S = r) : dE tab call (.ors (.cons e .nil)) env S = r := h
theorem ev_orF {r : R Val} {f : IE} {fs : IEs} (h : dE tab call e env S = .ok (.t (.bl false)) S1) (h2 : dE tab call (.ors (.cons f fs)) env S1 = r) : dE tab call (.ors (.cons e (.cons f fs))) env S = r := by
  show (dE tab call e env S).bind _ = _
  rw [h]
  exact h2
theorem ev_orT {f : IE} {fs : IEs} (h : dE tab call e env S = .ok (.t (.bl true)) S1) : dE tab call (.ors (.cons e (.cons f fs))) env S = .ok (.t (.bl true)) S1 := by
  show (dE tab call e env S).bind _ = _
  rw [h]
  rfl
theorem ev_or {f : IE} {fs : IEs} (h : dE tab call e env S = .ok (.t (.bl k1)) S1) (h2 : dE tab call (.ors (.cons f fs)) env S1 = .ok (.t (.bl k2)) S1) : dE tab call (.ors (.cons e (.cons f fs))) env S = .ok (.t (.bl (k1 || k2))) S1 := by
  cases k1 with
  | true => exact ev_orT h
  | false => exact ev_orF h h2
theorem ev_ifeT {t : IC} {r : R Val} (h : dB tab call t env S = .ok true S1) (h2 : dE tab call a env S1 = r) : dE tab call (.ife t a b) env S = r := by
  show (dB tab call t env S).bind _ = _
  rw [h]
  exact h2
theorem ev_ifeF {t : IC} {r : R Val} (h : dB tab call t env S = .ok false S1) (h2 : dE tab call b env S1 = r) : dE tab call (.ife t a b) env S = r := by
  show (dB tab call t env S).bind _ = _
  rw [h]
  exact h2
theorem ev_ife {t : IC} (h : dB tab call t env S = .ok k S1) (h2 : dE tab call a env S1 = .ok v S2) (h3 : dE tab call b env S1 = .ok w S2) : dE tab call (.ife t a b) env S = .ok (if k then v else w) S2 := by
  cases k with
  | true => exact ev_ifeT h h2
  | false => exact ev_ifeF h h3
theorem ev_tup {r : R Val} (h : dEs tab call es env S = .ok vs S1) (h2 : (if vs.length ≤ szLine then tupV vs S1 else .bad) = r) : dE tab call (.tup es) env S = r := by
  show (dEs tab call es env S).bind _ = _
  rw [h]
  exact h2
theorem ev_lst {m : Bool} {r : R Val} (h : dEs tab call es env S = .ok vs S1) (h2 : dispL m vs S1 = r) : dE tab call (.lst m es) env S = r := by
  show (dEs tab call es env S).bind _ = _
  rw [h]
  exact h2
theorem ev_sub {r : R Val} (h1 : dE tab call a env S = .ok x S1) (h2 : dE tab call b env S1 = .ok y S2) (h3 : subV x y S2 = r) : dE tab call (.sub a b) env S = r := by
  show (dE tab call a env S).bind _ = _
  rw [h1]
  show (dE tab call b env S1).bind _ = _
  rw [h2]
  exact h3
theorem ev_slcU {m : Bool} {r : R Val} {i : Int} (h1 : dE tab call a env S = .ok x S1) (hn : isNo b = false) (h2 : dE tab call b env S1 = .ok (.t (.int i)) S2) (h3 : slcV m x none (some i) S2 = r) : dE tab call (.slc m a (.con .non) b) env S = r := by
  show (dE tab call a env S).bind _ = _
  rw [h1]
  show ((if isNo b then R.ok none S1 else (dE tab call b env S1).bind fun y S => optI y S)).bind _ = _
  rw [hn, if_neg Bool.false_ne_true, h2]
  exact h3
theorem ev_slcL {m : Bool} {r : R Val} {i : Int} (h1 : dE tab call a env S = .ok x S1) (hn : isNo b = false) (h2 : dE tab call b env S1 = .ok (.t (.int i)) S2) (h3 : slcV m x (some i) none S2 = r) : dE tab call (.slc m a b (.con .non)) env S = r := by
  show (dE tab call a env S).bind _ = _
  rw [h1]
  show ((if isNo b then R.ok none S1 else (dE tab call b env S1).bind fun y S => optI y S)).bind _ = _
  rw [hn, if_neg Bool.false_ne_true, h2]
  exact h3
theorem ev_slcB {m : Bool} {r : R Val} {i j : Int} (h1 : dE tab call a env S = .ok x S1) (hn : isNo b = false) (h2 : dE tab call b env S1 = .ok (.t (.int i)) S2) (hn2 : isNo c = false) (h4 : dE tab call c env S2 = .ok (.t (.int j)) S3) (h3 : slcV m x (some i) (some j) S3 = r) : dE tab call (.slc m a b c) env S = r := by
  show (dE tab call a env S).bind _ = _
  rw [h1]
  show ((if isNo b then R.ok none S1 else (dE tab call b env S1).bind fun y S => optI y S)).bind _ = _
  rw [hn, if_neg Bool.false_ne_true, h2]
  show ((if isNo c then R.ok none S2 else (dE tab call c env S2).bind fun y S => optI y S)).bind _ = _
  rw [hn2, if_neg Bool.false_ne_true, h4]
  exact h3
theorem ev_rev {m : Bool} {r : R Val} (h1 : dE tab call a env S = .ok x S1) (h2 : revV m x S1 = r) : dE tab call (.rev m a) env S = r := by
  show (dE tab call a env S).bind _ = _
  rw [h1]
  exact h2
theorem ev_fld {f : Nat} {r : R Val} (h1 : dE tab call a env S = .ok x S1) (h2 : fldV tab x f S1 = r) : dE tab call (.fld a f) env S = r := by
  show (dE tab call a env S).bind _ = _
  rw [h1]
  exact h2
theorem ev_call {f : Nat} {r : R Val} (h1 : dEs tab call es env S = .ok vs S1) (h2 : call f vs S1 = r) : dE tab call (.call f es) env S = r := by
  show (dEs tab call es env S).bind _ = _
  rw [h1]
  exact h2
theorem ev_new {c : Nat} {r : R Val} (h1 : dEs tab call es env S = .ok vs S1) (h2 : newV tab call c vs S1 = r) : dE tab call (.new c es) env S = r := by
  show (dEs tab call es env S).bind _ = _
  rw [h1]
  exact h2
theorem ev_meth {f g : Nat} {r : R Val} (h1 : dE tab call a env S = .ok x S1) (h2 : methV tab f (es.len + 1) x S1 = .ok g S2) (h3 : dEs tab call es env S2 = .ok vs S3) (h4 : call g (x :: vs) S3 = r) : dE tab call (.meth a f es) env S = r := by
  show (dE tab call a env S).bind _ = _
  rw [h1]
  show (methV tab f (es.len + 1) x S1).bind _ = _
  rw [h2]
  show (dEs tab call es env S2).bind _ = _
  rw [h3]
  exact h4
theorem ev_bm {q : BM} {m : Bool} {r : R Val} (h1 : dE tab call a env S = .ok x S1) (h2 : cellB x S1 = true) (h3 : dEs tab call es env S1 = .ok vs S2) (h4 : bmV q x vs S2 = r) : dE tab call (.bm q m a es) env S = r := by
  show (dE tab call a env S).bind _ = _
  rw [h1]
  show (if cellB x S1 then (dEs tab call es env S1).bind fun vs S => bmV q x vs S else .bad) = _
  rw [h2, if_pos rfl, h3]
  exact h4
theorem ev_blt {q : Blt} {m : Bool} {r : R Val} (h1 : dEs tab call es env S = .ok vs S1) (h2 : bltV q m vs S1 = r) : dE tab call (.blt q m es) env S = r := by
  show (dEs tab call es env S).bind _ = _
  rw [h1]
  exact h2
theorem ev_isi {m : Bool} {ts : List Ty} {r : R Val} (h1 : dE tab call a env S = .ok x S1) (h2 : isiV tab ts x S1 = r) : dE tab call (.isi a m ts) env S = r := by
  show (dE tab call a env S).bind _ = _
  rw [h1]
  exact h2
theorem ev_cix {g : Nat} {r : R Val} (h1 : dE tab call a env S = .ok x S1) (h2 : cixV (tab.con g) x S1 = r) : dE tab call (.cix g a) env S = r := by
  show (dE tab call a env S).bind _ = _
  rw [h1]
  exact h2
theorem ev_inRg {neg : Bool} {r : R Val} (h1 : dE tab call a env S = .ok x S1) (h2 : dE tab call b env S1 = .ok y S2) (h3 : inRgV neg x y S2 = r) : dE tab call (.inRg neg a b) env S = r := by
  show (dE tab call a env S).bind _ = _
  rw [h1]
  show (dE tab call b env S1).bind _ = _
  rw [h2]
  exact h3
theorem ev_lenSet {r : R Val} (h1 : dE tab call a env S = .ok x S1) (h2 : lenSetV x S1 = r) : dE tab call (.lenSet a) env S = r := by
  show (dE tab call a env S).bind _ = _
  rw [h1]
  exact h2
theorem ev_dct {m : Bool} {ks : List Key} {r : R Val} (h : dEs tab call es env S = .ok vs S1) (h2 : dctV m ks vs S1 = r) : dE tab call (.dctD m ks es) env S = r := by
  show (dEs tab call es env S).nob _ = _
  rw [h]
  exact h2
theorem ev_upd {o : IE} {r : R Val} (h1 : dE tab call o env S = .ok x S1) (h2 : dctB x S1 = true) (h3 : dE tab call a env S1 = .ok y S2) (h4 : updV x y S2 = r) : dE tab call (.upd o a) env S = r := by
  show (dE tab call o env S).bind _ = _
  rw [h1]
  show (if dctB x S1 then (dE tab call a env S1).bind fun y S => updV x y S else .bad) = _
  rw [h2, if_pos rfl, h3]
  exact h4
theorem evs_nil : dEs tab call .nil env S = .ok [] S := rfl
theorem evs_cons (h1 : dE tab call e env S = .ok v S1) (h2 : dEs tab call es env S1 = .ok vs S2) : dEs tab call (.cons e es) env S = .ok (v :: vs) S2 := by
  show (dE tab call e env S).bind _ = _
  rw [h1]
  show (dEs tab call es env S1).bind _ = _
  rw [h2]
  rfl
/-! tests -/
variable {t u : IC} {ts : ICs}
theorem evB_val (h : dE tab call e env S = .ok (.t (.bl k)) S1) : dB tab call (.val e) env S = .ok k S1 := by
  show (dE tab call e env S).bind _ = _
  rw [h]
  rfl
theorem evB_not (h : dB tab call t env S = .ok k S1) : dB tab call (.not t) env S = .ok (!k) S1 := by
  show (dB tab call t env S).bind _ = _
  rw [h]
  rfl
theorem evB_ands {r : R Bool} (h : dAnd tab call ts env S = r) : dB tab call (.ands ts) env S = r := h
theorem evB_ors {r : R Bool} (h : dOr tab call ts env S = r) : dB tab call (.ors ts) env S = r := h
theorem evA_nil : dAnd tab call .nil env S = .ok true S := rfl
theorem evA_T {r : R Bool} (h : dB tab call t env S = .ok true S1) (h2 : dAnd tab call ts env S1 = r) : dAnd tab call (.cons t ts) env S = r := by
  show (dB tab call t env S).bind _ = _
  rw [h]
  exact h2
theorem evA_F (h : dB tab call t env S = .ok false S1) : dAnd tab call (.cons t ts) env S = .ok false S1 := by
  show (dB tab call t env S).bind _ = _
  rw [h]
  rfl
theorem evA (h : dB tab call t env S = .ok k1 S1) (h2 : dAnd tab call ts env S1 = .ok k2 S1) : dAnd tab call (.cons t ts) env S = .ok (k1 && k2) S1 := by
  cases k1 with
  | true => exact evA_T h h2
  | false => exact evA_F h
/-- the last one: nothing is added -/
theorem evA_1 (h : dB tab call t env S = .ok k S1) : dAnd tab call (.cons t .nil) env S = .ok k S1 := by
  show (dB tab call t env S).bind _ = _
  rw [h]
  cases k <;> rfl
theorem evO_nil : dOr tab call .nil env S = .ok false S := rfl
theorem evO_F {r : R Bool} (h : dB tab call t env S = .ok false S1) (h2 : dOr tab call ts env S1 = r) : dOr tab call (.cons t ts) env S = r := by
  show (dB tab call t env S).bind _ = _
  rw [h]
  exact h2
theorem evO_T (h : dB tab call t env S = .ok true S1) : dOr tab call (.cons t ts) env S = .ok true S1 := by
  show (dB tab call t env S).bind _ = _
  rw [h]
  rfl
theorem evO (h : dB tab call t env S = .ok k1 S1) (h2 : dOr tab call ts env S1 = .ok k2 S1) : dOr tab call (.cons t ts) env S = .ok (k1 || k2) S1 := by
  cases k1 with
  | true => exact evO_T h
  | false => exact evO_F h h2
theorem evO_1 (h : dB tab call t env S = .ok k S1) : dOr tab call (.cons t .nil) env S = .ok k S1 := by
  show (dB tab call t env S).bind _ = _
  rw [h]
  cases k <;> rfl
/-! statements -/
variable {ss : ISs} {r : RS} {env2 : Env}
theorem sx_set {i : Nat} (h : dE tab call e env S = .ok v S1) (h2 : dSs tab call ss (env.set i (some v)) S1 = r) : dSs tab call (.cons (.set i e) ss) env S = r := (step_set v h).trans h2
theorem sx_setT {is : List Nat} (h : dE tab call e env S = .ok v S1) (ht : target true is v env S1 = some env2) (h2 : dSs tab call ss env2 S1 = r) : dSs tab call (.cons (.setT is e) ss) env S = r := by
  show (R.st (dE tab call e env S) env _).seq _ = _
  rw [h]
  show (RS.seq (match target true is v env S1 with
    | some env2 => .nx env2 S1
    | none => .bad) _) = _
  rw [ht]
  exact h2
theorem sx_expr (h : dE tab call e env S = .ok v S1) (h2 : dSs tab call ss env S1 = r) : dSs tab call (.cons (.expr e) ss) env S = r := (step_expr v h).trans h2
theorem sx_ret (h : dE tab call e env S = .ok v S1) : dSs tab call (.cons (.ret e) ss) env S = .rt v S1 := step_ret v h
theorem sx_retN : dSs tab call (.cons .retN ss) env S = .rt (.t .non) S := rfl
theorem sx_setF {o : IE} {f : Nat} (h : dE tab call e env S = .ok v S1) (h1 : dE tab call o env S1 = .ok x S2) (hs : setFV tab x f v S2 = some S3) (h2 : dSs tab call ss env S3 = r) : dSs tab call (.cons (.setF o f e) ss) env S = r := by
  show (R.st (dE tab call e env S) env _).seq _ = _
  rw [h]
  show (R.st (dE tab call o env S1) env _).seq _ = _
  rw [h1]
  show (RS.seq (match setFV tab x f v S2 with
    | some S1 => .nx env S1
    | none => .bad) _) = _
  rw [hs]
  exact h2
theorem sx_setS {o i : IE} (h : dE tab call e env S = .ok v S1) (h1 : dE tab call o env S1 = .ok x S2) (h3 : dE tab call i env S2 = .ok y S3) (hs : setSV x y v S3 = some S4) (h2 : dSs tab call ss env S4 = r) : dSs tab call (.cons (.setS o i e) ss) env S = r := by
  show (R.st (dE tab call e env S) env _).seq _ = _
  rw [h]
  show (R.st (dE tab call o env S1) env _).seq _ = _
  rw [h1]
  show (R.st (dE tab call i env S2) env _).seq _ = _
  rw [h3]
  show (RS.seq (match setSV x y v S3 with
    | some S1 => .nx env S1
    | none => .bad) _) = _
  rw [hs]
  exact h2
theorem sx_aug {i : Nat} {op : Operator} (h0 : env[i]? = some (some x)) (h : dE tab call e env S = .ok y S1) (h1 : binA op x y S1 = .ok z S2) (h2 : dSs tab call ss (env.set i (some z)) S2 = r) : dSs tab call (.cons (.aug i op e) ss) env S = r := by
  show (RS.seq (match env[i]? with
    | some (some x) => (dE tab call e env S).st env fun y S => (binA op x y S).st env fun z S => .nx (env.set i (some z)) S
    | _ => .bad) _) = _
  rw [h0]
  show (R.st (dE tab call e env S) env _).seq _ = _
  rw [h]
  show (R.st (binA op x y S1) env _).seq _ = _
  rw [h1]
  exact h2
theorem sx_ifT {a b : ISs} (h : dB tab call t env S = .ok true S1) (h2 : (dSs tab call a env S1).seq (fun env S => dSs tab call ss env S) = r) : dSs tab call (.cons (.ife t a b) ss) env S = r := by
  rw [step_if true h]
  exact h2
theorem sx_ifF {a b : ISs} (h : dB tab call t env S = .ok false S1) (h2 : (dSs tab call b env S1).seq (fun env S => dSs tab call ss env S) = r) : dSs tab call (.cons (.ife t a b) ss) env S = r := by
  rw [step_if false h]
  exact h2
theorem sx_ifF0 {a : ISs} (h : dB tab call t env S = .ok false S1) (h2 : dSs tab call ss env S1 = r) : dSs tab call (.cons (.ife t a .nil) ss) env S = r := by
  rw [step_ifF h]
  exact h2
theorem seq_nil {k : Env → Store → RS} : (dSs tab call .nil env S).seq k = k env S := rfl
theorem sx_pass (h2 : dSs tab call ss env S = r) : dSs tab call (.cons .pass ss) env S = r := h2
/-- a block that ends, then what follows -/
theorem sx_seq {b : ISs} {S1 : Store} (h : dSs tab call b env S = .nx env2 S1) (h2 : dSs tab call ss env2 S1 = r) : (dSs tab call b env S).seq (fun env S => dSs tab call ss env S) = r := by
  rw [h]
  exact h2
theorem sx_seq_rt {b : ISs} {k : Env → Store → RS} (h : dSs tab call b env S = .rt v S1) : (dSs tab call b env S).seq k = .rt v S1 := by
  rw [h]
  rfl
theorem sx_tryAs {b su : ISs} {cs : List Nat} {i : Nat} {x : Exn} {env1 : Env} {S1 : Store} {ss : ISs} {r : RS} (h : dSs tab call b env S = .ex x env1 S1) (hc : excIn tab x.c cs = some true) (hf : x.fs = [])
    (h2 : ((dSs tab call su (env1.set i (some (.t (.exn x.c [])))) S1).gone i).seq (fun env S => dSs tab call ss env S) = r) : dSs tab call (.cons (.try_ b cs (some i) su) ss) env S = r := by
  rw [← h2]
  show (RS.seq (match dSs tab call b env S with
    | .ex x env1 S1 => (match excIn tab x.c cs with
      | some true => if x.fs.isEmpty then (dSs tab call su (env1.set i (some (.t (.exn x.c [])))) S1).gone i else .bad
      | some false => .ex x env1 S1
      | none => .bad)
    | m => m) _) = _
  rw [h]
  show (RS.seq (match excIn tab x.c cs with
      | some true => if x.fs.isEmpty then (dSs tab call su (env1.set i (some (.t (.exn x.c [])))) S1).gone i else .bad
      | some false => .ex x env1 S1
      | none => .bad) _) = _
  rw [hc, hf]
  rfl
theorem sx_tryRt {b su : ISs} {cs : List Nat} {nm : Option Nat} {v : Val} {S1 : Store} {ss : ISs} (h : dSs tab call b env S = .rt v S1) : dSs tab call (.cons (.try_ b cs nm su) ss) env S = .rt v S1 := by
  show (RS.seq (match dSs tab call b env S with
    | .ex x env1 S1 => (match excIn tab x.c cs with
      | some true => if x.fs.isEmpty then (match nm with
        | some i => (dSs tab call su (env1.set i (some (.t (.exn x.c [])))) S1).gone i
        | none => (dSs tab call su env1 S1).noex) else .bad
      | some false => .ex x env1 S1
      | none => .bad)
    | m => m) _) = _
  rw [h]
  rfl
theorem sx_tryNx {b su : ISs} {cs : List Nat} {nm : Option Nat} {env1 : Env} {S1 : Store} {ss : ISs} {r : RS} (h : dSs tab call b env S = .nx env1 S1) (h2 : dSs tab call ss env1 S1 = r) : dSs tab call (.cons (.try_ b cs nm su) ss) env S = r := by
  rw [← h2]
  show (RS.seq (match dSs tab call b env S with
    | .ex x env1 S1 => (match excIn tab x.c cs with
      | some true => if x.fs.isEmpty then (match nm with
        | some i => (dSs tab call su (env1.set i (some (.t (.exn x.c [])))) S1).gone i
        | none => (dSs tab call su env1 S1).noex) else .bad
      | some false => .ex x env1 S1
      | none => .bad)
    | m => m) _) = _
  rw [h]
  rfl
theorem sx_exprEx {x : Exn} {S1 : Store} {ss : ISs} (h : dE tab call e env S = .ex x S1) : dSs tab call (.cons (.expr e) ss) env S = .ex x env S1 := by
  show (R.st (dE tab call e env S) _ _).seq _ = _
  rw [h]
  rfl
theorem sx_setL {o lo hi : IE} {y z : Val} {S3 S4 S5 : Store} {ss : ISs} {r : RS} (h : dE tab call e env S = .ok v S1) (h1 : dE tab call o env S1 = .ok x S2) (h3 : dE tab call lo env S2 = .ok y S3) (h4 : dE tab call hi env S3 = .ok z S4) (hs : setLV x y z v S4 = some S5) (h2 : dSs tab call ss env S5 = r) : dSs tab call (.cons (.setL o lo hi e) ss) env S = r := by
  show (R.st (dE tab call e env S) env fun v S => (dE tab call o env S).st env fun x S => (dE tab call lo env S).st env fun y S => (dE tab call hi env S).st env fun z S => (match setLV x y z v S with
    | some S1 => .nx env S1
    | none => .bad)).seq _ = _
  rw [h, R.st_ok, h1, R.st_ok, h3, R.st_ok, h4, R.st_ok, hs]
  exact h2
end
theorem slc_r {S : Store} {n : Nat} {vs : List Val} {m : Bool} {lo hi : Option Int} (h : S[n]? = some (.lst vs)) : slcV m (.r n) lo hi S = alloc m (cutL vs lo hi) S := by
  show (match Val.r n, listV S (.r n) with
    | .t (.tup xs), _ => R.ok (Val.t (.tup (cutL xs lo hi))) S
    | _, some vs => alloc m (cutL vs lo hi) S
    | _, none => .bad) = _
  rw [listV_r h]
/-! dicts in cells -/
theorem subK_h {S : Store} {n : Nat} {kvs : List (Key × Val)} {x : Str} {v : Val} (h : S[n]? = some (.dct kvs)) (hv : lookK kvs (.inr x) = some v) : subV (.r n) (.t (.str x)) S = .ok v S := by
  show (match S[n]? with
    | some (.dct kvs) => ofO (lookK kvs (.inr x)) S
    | _ => .bad) = _
  rw [h]
  show ofO (lookK kvs (.inr x)) S = _
  rw [hv]
  rfl
theorem setK_h {S : Store} {n : Nat} {kvs : List (Key × Val)} {x : Str} {v : Val} (h : S[n]? = some (.dct kvs)) (hl : kvs.length < 1000) : setSV (.r n) (.t (.str x)) v S = some (S.set n (.dct (putKV kvs (.inr x) v))) := by
  show (match S[n]? with
    | some (.dct kvs) => if kvs.length < 1000 then some (S.set n (.dct (putKV kvs (.inr x) v))) else none
    | _ => none) = _
  rw [h]
  exact if_pos hl
end Rw

/-! The top's run cut into pieces: each piece is a theorem of its own, the state between two pieces is written out. -/
namespace Rw
open PySem PySem.W PySem.Calls PyProof.Rows
open L2 (defArgs defBody defScope inClass)
/-! short words for what stands in a state -/
abbrev zS (x : String) (t : Nat) : Value := .str (Str.ofString x) t
abbrev zI (i : Int) (t : Nat) : Value := .int i t
abbrev zF (t : Nat) : Value := .str (Str.ofString "/claim/cut.py") t
abbrev zR (a : Nat) : Value := .ref a
abbrev zN : Value := .none
abbrev zE (P : Params) (k : String) (t : Nat) (v : Value) : DictEntry := ⟨PyData.keyHash P (Str.ofString k), zS k t, v⟩
abbrev oT (l : List Value) : Obj := { cls := .type "tuple", data := .seq ⟨l⟩ 0 }
abbrev oF (l : List Value) : Obj := { cls := .none, data := .fields ⟨l⟩ }
abbrev oC (c : String) (l : List Value) : Obj := { cls := .type c, data := .fields ⟨l⟩ }
abbrev oP (c : String) (l : List (Option Value)) : Obj := { cls := .type c, data := .plain, slots := ⟨l⟩ }
abbrev oD (l : List DictEntry) (n : Nat) : Obj := { cls := .type "dict", data := .dict ⟨l⟩ n }
abbrev oG (f : FuncData) : Obj := { cls := .none, data := .func f }
abbrev oH (f : FuncData) : Obj := { cls := .type "function", data := .func f }
abbrev oK (c : ClassData) (l : List (Option Value)) : Obj := { cls := .type "type", data := .cls c, slots := ⟨l⟩ }
abbrev fG (s : Stmt) (name qual : String) : FuncData := { name := Str.ofString name, qualname := Str.ofString qual, params := defArgs s, body := .stmts (defBody s), scope := defScope s, globals := 0, closure := [], defaults := .none, kwdefaults := .none }
abbrev fH (s : Stmt) (name qual : String) (dfl doc mod code : Value) : FuncData := { name := Str.ofString name, qualname := Str.ofString qual, params := defArgs s, body := .stmts (defBody s), scope := defScope s, globals := 3, closure := [], defaults := dfl, kwdefaults := .none, doc := doc, pyModule := mod, code := code }
abbrev stT (t : BT) (n toks : Nat) (os : OsState) : SharedT := ⟨t, n, {}, #[], {}, toks, os⟩
/-! the runs -/
section
variable (st : SharedT → Thread → Option (SharedT × Thread)) (n0 : Nat) (ann : Option Value)
def segF : Nat → SharedT → Thread → Option (Flow × SharedT × Code × Pos)
  | 0, _, _ => none
  | m + 1, s, t => match endAt 1 t with
    | some f => some (f, s, t.code, t.pos)
    | none => match stepOk n0 ann t with
      | false => none
      | true => match st s t with
        | some (s', t') => HandSHeadRun.frS s' fun s' => segF m s' t'
        | none => none
def goG : Nat → SharedT → Thread → Option (SharedT × Thread)
  | 0, s, t => some (s, t)
  | m + 1, s, t => match through t with
    | true => none
    | false => match stepOk n0 ann t with
      | false => none
      | true => match st s t with
        | some (s', t') => HandSHeadRun.frS s' fun s' => goG m s' t'
        | none => none
end
section
variable {tb : String → Option Builtin} {p : Program} {w : World} {n0 : Nat} {ann : Option Value}
theorem segF_ok : ∀ {m : Nat} {s s' : SharedT} {t : Thread} {f : Flow} {c : Code} {q : Pos}, segF (stepT (denote tb) p w) n0 ann m s t = some (f, s', c, q) → segRun tb p w n0 ann 1 m s.abs t = some (f, s'.abs, c, q)
  | 0, _, _, _, _, _, _, h => by cases h
  | m + 1, s, s', t, f, c, q, h => by
    have h1 : (match endAt 1 t with
      | some f => some (f, s, t.code, t.pos)
      | none => match stepOk n0 ann t with
        | false => none
        | true => match stepT (denote tb) p w s t with
          | some (s', t') => HandSHeadRun.frS s' fun s' => segF (stepT (denote tb) p w) n0 ann m s' t'
          | none => none) = some (f, s', c, q) := h
    unfold segRun
    cases he : endAt 1 t with
    | some x =>
      rw [he] at h1
      cases h1
      rfl
    | none =>
      rw [he] at h1
      cases hk : stepOk n0 ann t with
      | false =>
        rw [hk] at h1
        cases h1
      | true =>
        rw [hk] at h1
        have h2 : (match stepT (denote tb) p w s t with
          | some (s', t') => HandSHeadRun.frS s' fun s' => segF (stepT (denote tb) p w) n0 ann m s' t'
          | none => none) = some (f, s', c, q) := h1
        cases hs : stepT (denote tb) p w s t with
        | none =>
          rw [hs] at h2
          cases h2
        | some r =>
          obtain ⟨s2, t2⟩ := r
          rw [hs] at h2
          have h3 : (HandSHeadRun.frS s2 fun s' => segF (stepT (denote tb) p w) n0 ann m s' t2) = some (f, s', c, q) := h2
          rw [HandSHeadRun.frS_eq] at h3
          have k := segF_ok h3
          show (match step (denote tb) p w s.abs t with
            | .go s' t' => segRun tb p w n0 ann 1 m s' t'
            | .halt _ _ => none) = _
          rw [stepT_spec hs]
          exact k
theorem goG_ok : ∀ {m : Nat} {s s' : SharedT} {t t' : Thread}, goG (stepT (denote tb) p w) n0 ann m s t = some (s', t') → topGo tb p w n0 ann m s.abs t = some (s'.abs, t')
  | 0, _, _, _, _, h => by
    cases h
    rfl
  | m + 1, s, s', t, t', h => by
    have h1 : (match through t with
      | true => none
      | false => match stepOk n0 ann t with
        | false => none
        | true => match stepT (denote tb) p w s t with
          | some (s', t') => HandSHeadRun.frS s' fun s' => goG (stepT (denote tb) p w) n0 ann m s' t'
          | none => none) = some (s', t') := h
    unfold topGo
    cases ht : through t with
    | true =>
      rw [ht] at h1
      cases h1
    | false =>
      rw [ht] at h1
      cases hk : stepOk n0 ann t with
      | false =>
        rw [hk] at h1
        cases h1
      | true =>
        rw [hk] at h1
        have h2 : (match stepT (denote tb) p w s t with
          | some (s', t') => HandSHeadRun.frS s' fun s' => goG (stepT (denote tb) p w) n0 ann m s' t'
          | none => none) = some (s', t') := h1
        cases hs : stepT (denote tb) p w s t with
        | none =>
          rw [hs] at h2
          cases h2
        | some r =>
          obtain ⟨s2, t2⟩ := r
          rw [hs] at h2
          have h3 : (HandSHeadRun.frS s2 fun s' => goG (stepT (denote tb) p w) n0 ann m s' t2) = some (s', t') := h2
          rw [HandSHeadRun.frS_eq] at h3
          have k := goG_ok h3
          show (match step (denote tb) p w s.abs t with
            | .go s' t' => topGo tb p w n0 ann m s' t'
            | .halt _ _ => none) = _
          rw [stepT_spec hs]
          exact k
end
noncomputable def execsQ : List Stmt → PySem.Env → Sem Flow := PySem.W.Fast.tw12563942051412417395
theorem execsQ_eq : @PySem.execs = execsQ := PySem.W.Fast.te12563942051412417395
/-- a group of statements, by the library's twins -/
noncomputable abbrev grp (l : List Stmt) (env : PySem.Env) (c : Code) (q pos : Pos) : Thread := ⟨(execsQ l env).wrap doneF deadEnd id id, c, pos, [topFrame q]⟩
noncomputable abbrev stQ (p : Program) (w : World) : SharedT → Thread → Option (SharedT × Thread) := HandSHeadRun.stepQ (HandSHeadRun.denQ HandSHeadRun.tabQ) p w
section
variable {p : Program} {w : World} {n0 : Nat} {ann : Option Value} {env : PySem.Env} {q : Pos}
theorem grp_app {m N : Nat} {s s' : SharedT} {r : Shared} {l rest : List Stmt} {c : Code} {pos p' : Pos} (h : segF (stQ p w) n0 ann m s (grp l env c q pos) = some (.next, s', c, p'))
    (k : topRun treeTable p w n0 ann N s'.abs (restOf rest env c p' [topFrame q]) = some r) : topRun treeTable p w n0 ann (m + N) s.abs (restOf (l ++ rest) env c pos [topFrame q]) = some r := by
  refine piece_app (segF_ok ?_) k
  unfold piecesOf
  rw [HandSHeadRun.stepQ_eq, HandSHeadRun.denQ_eq, HandSHeadRun.tabQ_eq, execsQ_eq]
  exact h
theorem grp_end {N : Nat} {s s' : SharedT} {c : Code} {pos : Pos} (h : HandSHeadRun.goF (stQ p w) n0 ann N s ⟨doneF .next, c, pos, [topFrame q]⟩ = some s') :
    topRun treeTable p w n0 ann N s.abs (restOf [] env c pos [topFrame q]) = some s'.abs := by
  refine piece_nil (HandSHeadRun.goF_ok ?_)
  rw [HandSHeadRun.stepQ_eq, HandSHeadRun.denQ_eq, HandSHeadRun.tabQ_eq]
  exact h
theorem grp_start {m N : Nat} {s s' : SharedT} {r : Shared} {b : List Stmt} {pos p' : Pos} {t : Thread} (h : goG (stQ p w) n0 ann m s t = some (s', ⟨HandSHeadRun.denQ HandSHeadRun.tabQ (.body b env), .body b env, pos, [topFrame q]⟩))
    (hb : segF (stQ p w) n0 ann 1 s' (blockOf b env (.body b env) pos [topFrame q]) = some (.next, s', .body b env, p'))
    (k : topRun treeTable p w n0 ann N s'.abs (restOf b env (.body b env) p' [topFrame q]) = some r) : topRun treeTable p w n0 ann (m + (1 + N)) s.abs t = some r := by
  have hb' : segF (stepT (denote treeTable) p w) n0 ann 1 s' (blockOf b env (.body b env) pos [topFrame q]) = some (.next, s', .body b env, p') := by
    rw [HandSHeadRun.stepQ_eq, HandSHeadRun.denQ_eq, HandSHeadRun.tabQ_eq]
    exact hb
  refine go_top (t' := ⟨denote treeTable (.body b env), .body b env, pos, [topFrame q]⟩) (goG_ok ?_) (piece_block (segF_ok hb') k)
  rw [HandSHeadRun.stepQ_eq, HandSHeadRun.denQ_eq, HandSHeadRun.tabQ_eq]
  exact h
end
/-- the head by a run in pieces: Sf the state behind the top -/
theorem head_cut {r : OpenRow} {q : Program} {H : Hook} {ob : SharedT → H.α} {M : Nat} {loose : List PySem.Str} {d : DefRec} {kwd : List (PySem.Str × PySem.Expr)} {n0 : Nat} {ann : Option Value} {t0 : Params → BT} (Sf : World → OsState → SharedT) (ho : ∀ s : SharedT, ob s = H.obs s.abs)
    (e : opening r.prog = plainProg r.prog.main.scope.names) (f : ∀ s, fenceModules? r.prog s = some s)
    (boot : ∀ P : Params, HandSHeadRun.putAll (boot_heap P).objs.toList .nil 0 = some (t0 P, n0)) (hlife : ∀ P : Params, (boot_heap P).life = {}) (hann : ∀ P : Params, (boot_heap P).nsMap mainGlobals "__annotations__" = ann) (hdr : boot_drawn = {})
    (run : ∀ (w : World) (os : OsState), topRun treeTable r.prog w n0 ann M (stT (t0 w.params) n0 boot_toks os).abs (topStub r.prog) = some (Sf w os).abs)
    (looks : ∀ (w : World) (os : OsState), HandSHeadRun.looksF r.prog (boot_heap w.params) (Sf w os).abs = true)
    (seen : ∀ (w : World) (os : OsState), HandSHeadRun.seenQ q loose (importedModules r.prog.main.body) (fun s => xlAt q [] s && recOk r.toRowW.records s) (Sf w os).abs = openGood q loose)
    (obs : ∀ (w : World) (os : OsState), ob (Sf w os) = H.val w)
    (hdef : defOf q r.name = some (d, kwd)) (hp : r.prog.theDef r.name = some (d.params, d.body, d.scope)) (hk : kwWritten? d.params.kwonlyargs d.params.kw_defaults = some kwd)
    (hwr : (!r.writes || r.records.isEmpty) = true) (k1 : r.wellSaid = true) (ok : (chainsOk q && opensWell r.prog && (frees r.toRowW && r.within.isEmpty)) = true) (hb : r.prog.bare) (hw : r.toRowW.promised)
    (call : WalkO q loose (XL q []) H.says r.toRowW d kwd fun f vs => PySem.call f vs) : r.Holds := by
  have left : LeftO r.prog q loose (fun s => xlAt q [] s && recOk r.toRowW.records s) H.obs H.val (M + 600) true := fun w => by
    obtain ⟨⟨h, gs, dd, k, os⟩, a, a'⟩ := Option.map_eq_some_iff.mp (boot_open e (Nat.ble_eq_true_of_le (by omega : 600 ≤ M + 600)) f w)
    obtain ⟨rfl, rfl, rfl, rfl⟩ : h = boot_heap w.params ∧ gs = Array.mk [] ∧ dd = boot_drawn ∧ k = boot_toks := by simpa using a'
    have z := run w os
    have eh := HandSHeadRun.putAll_heap (boot w.params)
    rw [hlife] at eh
    have en : (boot_heap w.params).objs.size = n0 := by
      rw [← eh]
      exact absHeap_size _ n0 _
    have eb : (stT (t0 w.params) n0 boot_toks os).abs = ⟨boot_heap w.params, #[], boot_drawn, boot_toks, os⟩ := by
      show (⟨absHeap (t0 w.params) n0 {}, #[], {}, boot_toks, os⟩ : Shared) = _
      rw [eh, hdr]
    rw [eb] at z
    have rr := topRun_mono (600) _ _ _ _ z
    have t : topFrom treeTable r.prog w (M + 600) ⟨boot_heap w.params, Array.mk [], boot_drawn, boot_toks, os⟩ = some (Sf w os).abs := by
      unfold topFrom
      dsimp only
      rw [HandSHeadRun.boot_ns]
      show (topRun treeTable r.prog w (boot_heap w.params).objs.size ((boot_heap w.params).nsMap mainGlobals "__annotations__") (M + 600) ⟨boot_heap w.params, #[], boot_drawn, boot_toks, os⟩ (topStub r.prog)).bind _ = _
      rw [en, hann, rr]
      have l1' : (staticsOk (importedModules r.prog.main.body) (boot_heap w.params) (Sf w os).abs.heap && namesBound r.prog (Sf w os).abs.heap && gensDone (Sf w os).abs && laidKept (boot_heap w.params) (Sf w os).abs.heap) = true := looks w os
      show (match staticsOk (importedModules r.prog.main.body) (boot_heap w.params) (Sf w os).abs.heap && namesBound r.prog (Sf w os).abs.heap && gensDone (Sf w os).abs && laidKept (boot_heap w.params) (Sf w os).abs.heap with | true => some (Sf w os).abs | false => none) = _
      rw [l1']
    unfold openEnds
    rw [a]
    show (topFrom treeTable r.prog w (M + 600) _).map _ = _
    rw [t]
    refine congrArg some (Prod.ext ?_ ?_)
    · exact (HandSHeadRun.seenQ_eq q loose _ _ _).trans (seen w os)
    · show H.obs (Sf w os).abs = _
      rw [← ho]
      exact obs w os
  exact holds_open (r := r) (q := q) (loose := loose) (XP := XL q []) (YP := H.says) (d := d) (kwd := kwd) left H.of H.keeps (fun s z => xl_of s (Bool.and_eq_true_iff.mp z).1) XL.keeps hdef hp hk (fun s z => recFacts_of (Bool.and_eq_true_iff.mp z).2) hwr k1 ok hb hw call
end Rw

namespace Rw
open PySem PySem.Spec PyProof.Rows L2
/-! ### the law's text in the small language (printed by gen.py) -/
def top (i : Nat) : Stmt := PySem.Challenge.pw_rowmill_k22_programs_written.main.body.getD i (.Pass ⟨0, 0, 0, 0⟩)
def b__wall_0 : ISs := 
 (.cons .pass .nil)
def c__wall : ISs := 
 (.cons (.while_ 100000 (.val (.con (.bl true))) b__wall_0) .nil)
def f__wall : Fn := ⟨true, 1, 1, [], c__wall, false⟩
def c_shape_of : ISs := 
 (.cons (.ife (.val (.cmp .In (.var 0) (.glob 0))) 
  (.cons (.ret (.bin .Mult (.glob 1) (.con (.int 3)))) .nil) .nil)
 (.cons (.ret (.dget 0 (.var 0))) .nil))
def f_shape_of : Fn := ⟨true, 1, 1, [], c_shape_of, false⟩
def c_part_text : ISs := 
 (.cons (.ife (.val (.cmp .Eq (.var 0) (.glob 1))) 
  (.cons (.ret (.bin .Add (.con (.str (Str.ofString "r"))) (.blt .str false (.cons (.var 1) .nil)))) .nil) .nil)
 (.cons (.ret (.blt .str false (.cons (.var 1) .nil))) .nil))
def f_part_text : Fn := ⟨true, 2, 2, [], c_part_text, false⟩
def b_row_text_0 : ISs := 
 (.cons (.expr (.bm .append false (.var 2) (.cons (.call 2 (.cons (.var 3) (.cons (.var 4) .nil))) .nil))) .nil)
def c_row_text : ISs := 
 (.cons (.set 1 (.meth (.var 0) 9 .nil))
 (.cons (.set 2 (.lst true (.cons (.sub (.var 1) (.con (.int 0))) .nil)))
 (.cons (.for_ .zip (.cons (.call 1 (.cons (.sub (.var 1) (.con (.int 0))) .nil)) (.cons (.slc false (.var 1) (.con (.int 1)) (.con .non)) .nil)) true [3, 4] b_row_text_0)
 (.cons (.ret (.join (.con (.str (Str.ofString " "))) (.cons (.var 2) .nil))) .nil))))
def f_row_text : Fn := ⟨true, 1, 5, [], c_row_text, false⟩
def c_line_at : ISs := 
 (.cons (.set 2 (.meth (.var 0) 20 (.cons (.var 1) .nil)))
 (.cons (.ife (.val (.cmp .Is (.var 2) (.con .non))) 
  (.cons (.ret (.bin .Add (.con (.str (Str.ofString "code "))) (.blt .str false (.cons (.sub (.fld (.var 0) 5) (.var 1)) .nil)))) .nil) .nil)
 (.cons (.ret (.call 3 (.cons (.var 2) .nil))) .nil)))
def f_line_at : Fn := ⟨true, 2, 3, [], c_line_at, false⟩
def c_written : ISs := 
 (.cons (.set 1 (.comp true .range (.cons (.blt .len false (.cons (.fld (.var 0) 5) .nil)) .nil) false [2] .nil (.call 4 (.cons (.var 0) (.cons (.var 2) .nil)))))
 (.cons (.ife (.val (.cmp .IsNot (.fld (.var 0) 6) (.con .non))) 
  (.cons (.expr (.bm .insert false (.var 1) (.cons (.con (.int 0)) (.cons (.bin .Add (.con (.str (Str.ofString "hall "))) (.blt .str false (.cons (.fld (.var 0) 6) .nil))) .nil)))) .nil) .nil)
 (.cons (.ret (.join (.con (.str (Str.ofString ""))) (.cons (.comp false .seq (.cons (.var 1) .nil) false [3] .nil (.bin .Add (.var 3) (.con (.str (Str.ofString "\n"))))) .nil))) .nil)))
def f_written : Fn := ⟨true, 1, 4, [], c_written, false⟩
def c_bits_of : ISs := 
 (.cons (.ret (.bin .BitAnd (.bin .RShift (.var 0) (.var 1)) (.bin .Sub (.bin .LShift (.con (.int 1)) (.var 2)) (.con (.int 1))))) .nil)
def f_bits_of : Fn := ⟨true, 3, 3, [], c_bits_of, false⟩
def c_with_bits : ISs := 
 (.cons (.set 4 (.call 6 (.cons (.var 0) (.cons (.var 1) (.cons (.var 2) .nil)))))
 (.cons (.ret (.bin .Add (.var 0) (.bin .LShift (.bin .Sub (.bin .BitAnd (.var 3) (.bin .Sub (.bin .LShift (.con (.int 1)) (.var 2)) (.con (.int 1)))) (.var 4)) (.var 1)))) .nil))
def f_with_bits : Fn := ⟨true, 4, 5, [], c_with_bits, false⟩
def c_signed : ISs := 
 (.cons (.ret (.bin .Sub (.var 0) (.bin .LShift (.bin .RShift (.var 0) (.bin .Sub (.var 1) (.con (.int 1)))) (.var 1)))) .nil)
def f_signed : Fn := ⟨true, 2, 2, [], c_signed, false⟩
def c_Row_op : ISs := 
 (.cons (.ret (.con (.int 0))) .nil)
def f_Row_op : Fn := ⟨true, 1, 1, [], c_Row_op, false⟩
def c_Row_parts : ISs := 
 (.cons (.ret (.tup .nil)) .nil)
def f_Row_parts : Fn := ⟨true, 1, 1, [], c_Row_parts, false⟩
def c_Row_told : ISs := 
 (.cons (.ret (.tup .nil)) .nil)
def f_Row_told : Fn := ⟨true, 1, 1, [], c_Row_told, false⟩
def c_Row_reads : ISs := 
 (.cons (.expr (.call 0 (.cons (.con (.int 0)) .nil))) .nil)
def f_Row_reads : Fn := ⟨true, 1, 1, [], c_Row_reads, false⟩
def c_Row_named : ISs := 
 (.cons (.expr (.call 0 (.cons (.con (.int 1)) .nil))) .nil)
def f_Row_named : Fn := ⟨true, 1, 1, [], c_Row_named, false⟩
def c_Row_gives : ISs := 
 (.cons (.expr (.call 0 (.cons (.con (.int 2)) .nil))) .nil)
def f_Row_gives : Fn := ⟨true, 1, 1, [], c_Row_gives, false⟩
def c_Row_station : ISs := 
 (.cons (.expr (.call 0 (.cons (.con (.int 3)) .nil))) .nil)
def f_Row_station : Fn := ⟨true, 1, 1, [], c_Row_station, false⟩
def c_Row_known : ISs := 
 (.cons (.expr (.call 0 (.cons (.con (.int 4)) .nil))) .nil)
def f_Row_known : Fn := ⟨true, 1, 1, [], c_Row_known, false⟩
def c_Row_alone : ISs := 
 (.cons (.ret (.con (.bl false))) .nil)
def f_Row_alone : Fn := ⟨true, 1, 1, [], c_Row_alone, false⟩
def c_Row_long : ISs := 
 (.cons (.expr (.call 0 (.cons (.con (.int 5)) .nil))) .nil)
def f_Row_long : Fn := ⟨true, 1, 1, [], c_Row_long, false⟩
def c_Row_reckoned : ISs := 
 (.cons (.expr (.call 0 (.cons (.con (.int 6)) .nil))) .nil)
def f_Row_reckoned : Fn := ⟨true, 3, 3, [], c_Row_reckoned, false⟩
def c_Row_goal : ISs := 
 (.cons (.ret (.bin .Add (.var 2) (.con (.int 1)))) .nil)
def f_Row_goal : Fn := ⟨true, 3, 3, [], c_Row_goal, false⟩
def c_Stop_told : ISs := 
 (.cons (.ret (.tup (.cons (.con (.str (Str.ofString "stop"))) .nil))) .nil)
def f_Stop_told : Fn := ⟨true, 1, 1, [], c_Stop_told, false⟩
def c_Num_init : ISs := 
 (.cons (.setF (.var 0) 0 (.var 1))
 (.cons (.setF (.var 0) 1 (.var 2)) .nil))
def f_Num_init : Fn := ⟨false, 3, 3, [], c_Num_init, false⟩
def c_Num_op : ISs := 
 (.cons (.ret (.con (.int 1))) .nil)
def f_Num_op : Fn := ⟨true, 1, 1, [], c_Num_op, false⟩
def c_Num_parts : ISs := 
 (.cons (.ret (.tup (.cons (.tup (.cons (.con (.int 16)) (.cons (.con (.int 3)) (.cons (.fld (.var 0) 0) .nil)))) (.cons (.tup (.cons (.con (.int 0)) (.cons (.con (.int 10)) (.cons (.fld (.var 0) 1) .nil)))) .nil)))) .nil)
def f_Num_parts : Fn := ⟨true, 1, 1, [], c_Num_parts, false⟩
def c_Num_told : ISs := 
 (.cons (.ret (.tup (.cons (.con (.str (Str.ofString "num"))) (.cons (.fld (.var 0) 0) (.cons (.fld (.var 0) 1) .nil))))) .nil)
def f_Num_told : Fn := ⟨true, 1, 1, [], c_Num_told, false⟩
def c_Num_named : ISs := 
 (.cons (.expr (.call 0 (.cons (.con (.int 7)) .nil))) .nil)
def f_Num_named : Fn := ⟨true, 1, 1, [], c_Num_named, false⟩
def c_Num_reckoned : ISs := 
 (.cons (.expr (.call 0 (.cons (.con (.int 8)) .nil))) .nil)
def f_Num_reckoned : Fn := ⟨true, 3, 3, [], c_Num_reckoned, false⟩
def c_Plus_init : ISs := 
 (.cons (.setF (.var 0) 0 (.var 1))
 (.cons (.setF (.var 0) 2 (.var 2))
 (.cons (.setF (.var 0) 1 (.var 3)) .nil)))
def f_Plus_init : Fn := ⟨false, 4, 4, [], c_Plus_init, false⟩
def c_Plus_op : ISs := 
 (.cons (.ret (.con (.int 2))) .nil)
def f_Plus_op : Fn := ⟨true, 1, 1, [], c_Plus_op, false⟩
def c_Plus_parts : ISs := 
 (.cons (.ret (.tup (.cons (.tup (.cons (.con (.int 16)) (.cons (.con (.int 3)) (.cons (.fld (.var 0) 0) .nil)))) (.cons (.tup (.cons (.con (.int 13)) (.cons (.con (.int 3)) (.cons (.fld (.var 0) 2) .nil)))) (.cons (.tup (.cons (.con (.int 0)) (.cons (.con (.int 10)) (.cons (.fld (.var 0) 1) .nil)))) .nil))))) .nil)
def f_Plus_parts : Fn := ⟨true, 1, 1, [], c_Plus_parts, false⟩
def c_Plus_told : ISs := 
 (.cons (.ret (.tup (.cons (.con (.str (Str.ofString "plus"))) (.cons (.fld (.var 0) 0) (.cons (.fld (.var 0) 2) (.cons (.fld (.var 0) 1) .nil)))))) .nil)
def f_Plus_told : Fn := ⟨true, 1, 1, [], c_Plus_told, false⟩
def c_Plus_reads : ISs := 
 (.cons (.expr (.call 0 (.cons (.con (.int 9)) .nil))) .nil)
def f_Plus_reads : Fn := ⟨true, 1, 1, [], c_Plus_reads, false⟩
def c_Plus_named : ISs := 
 (.cons (.expr (.call 0 (.cons (.con (.int 10)) .nil))) .nil)
def f_Plus_named : Fn := ⟨true, 1, 1, [], c_Plus_named, false⟩
def c_Plus_reckoned : ISs := 
 (.cons (.expr (.call 0 (.cons (.con (.int 11)) .nil))) .nil)
def f_Plus_reckoned : Fn := ⟨true, 3, 3, [], c_Plus_reckoned, false⟩
def c_Pair_init : ISs := 
 (.cons (.setF (.var 0) 3 (.var 1))
 (.cons (.setF (.var 0) 0 (.var 2))
 (.cons (.setF (.var 0) 2 (.var 3))
 (.cons (.setF (.var 0) 4 (.var 4)) .nil))))
def f_Pair_init : Fn := ⟨false, 5, 5, [], c_Pair_init, false⟩
def c_Pair_op : ISs := 
 (.cons (.ret (.bin .Add (.glob 3) (.cix 2 (.fld (.var 0) 3)))) .nil)
def f_Pair_op : Fn := ⟨true, 1, 1, [], c_Pair_op, false⟩
def c_Pair_parts : ISs := 
 (.cons (.ret (.tup (.cons (.tup (.cons (.con (.int 16)) (.cons (.con (.int 3)) (.cons (.fld (.var 0) 0) .nil)))) (.cons (.tup (.cons (.con (.int 13)) (.cons (.con (.int 3)) (.cons (.fld (.var 0) 2) .nil)))) (.cons (.tup (.cons (.con (.int 10)) (.cons (.con (.int 3)) (.cons (.fld (.var 0) 4) .nil)))) .nil))))) .nil)
def f_Pair_parts : Fn := ⟨true, 1, 1, [], c_Pair_parts, false⟩
def c_Pair_told : ISs := 
 (.cons (.ret (.tup (.cons (.fld (.var 0) 3) (.cons (.fld (.var 0) 0) (.cons (.fld (.var 0) 2) (.cons (.fld (.var 0) 4) .nil)))))) .nil)
def f_Pair_told : Fn := ⟨true, 1, 1, [], c_Pair_told, false⟩
def c_Pair_reads : ISs := 
 (.cons (.expr (.call 0 (.cons (.con (.int 12)) .nil))) .nil)
def f_Pair_reads : Fn := ⟨true, 1, 1, [], c_Pair_reads, false⟩
def c_Pair_named : ISs := 
 (.cons (.expr (.call 0 (.cons (.con (.int 13)) .nil))) .nil)
def f_Pair_named : Fn := ⟨true, 1, 1, [], c_Pair_named, false⟩
def c_Pair_long : ISs := 
 (.cons (.expr (.call 0 (.cons (.con (.int 14)) .nil))) .nil)
def f_Pair_long : Fn := ⟨true, 1, 1, [], c_Pair_long, false⟩
def c_Pair_reckoned : ISs := 
 (.cons (.expr (.call 0 (.cons (.con (.int 15)) .nil))) .nil)
def f_Pair_reckoned : Fn := ⟨true, 3, 3, [], c_Pair_reckoned, false⟩
def c_Load_init : ISs := 
 (.cons (.setF (.var 0) 0 (.var 1))
 (.cons (.setF (.var 0) 2 (.var 2))
 (.cons (.setF (.var 0) 1 (.var 3)) .nil)))
def f_Load_init : Fn := ⟨false, 4, 4, [], c_Load_init, false⟩
def c_Load_op : ISs := 
 (.cons (.ret (.con (.int 15))) .nil)
def f_Load_op : Fn := ⟨true, 1, 1, [], c_Load_op, false⟩
def c_Load_parts : ISs := 
 (.cons (.ret (.tup (.cons (.tup (.cons (.con (.int 16)) (.cons (.con (.int 3)) (.cons (.fld (.var 0) 0) .nil)))) (.cons (.tup (.cons (.con (.int 13)) (.cons (.con (.int 3)) (.cons (.fld (.var 0) 2) .nil)))) (.cons (.tup (.cons (.con (.int 0)) (.cons (.con (.int 10)) (.cons (.fld (.var 0) 1) .nil)))) .nil))))) .nil)
def f_Load_parts : Fn := ⟨true, 1, 1, [], c_Load_parts, false⟩
def c_Load_told : ISs := 
 (.cons (.ret (.tup (.cons (.con (.str (Str.ofString "load"))) (.cons (.fld (.var 0) 0) (.cons (.fld (.var 0) 2) (.cons (.fld (.var 0) 1) .nil)))))) .nil)
def f_Load_told : Fn := ⟨true, 1, 1, [], c_Load_told, false⟩
def c_Load_reads : ISs := 
 (.cons (.expr (.call 0 (.cons (.con (.int 16)) .nil))) .nil)
def f_Load_reads : Fn := ⟨true, 1, 1, [], c_Load_reads, false⟩
def c_Load_named : ISs := 
 (.cons (.expr (.call 0 (.cons (.con (.int 17)) .nil))) .nil)
def f_Load_named : Fn := ⟨true, 1, 1, [], c_Load_named, false⟩
def c_Load_station : ISs := 
 (.cons (.expr (.call 0 (.cons (.con (.int 18)) .nil))) .nil)
def f_Load_station : Fn := ⟨true, 1, 1, [], c_Load_station, false⟩
def c_Load_reckoned : ISs := 
 (.cons (.expr (.call 0 (.cons (.con (.int 19)) .nil))) .nil)
def f_Load_reckoned : Fn := ⟨true, 3, 3, [], c_Load_reckoned, false⟩
def c_Store_init : ISs := 
 (.cons (.setF (.var 0) 0 (.var 1))
 (.cons (.setF (.var 0) 2 (.var 2))
 (.cons (.setF (.var 0) 1 (.var 3)) .nil)))
def f_Store_init : Fn := ⟨false, 4, 4, [], c_Store_init, false⟩
def c_Store_op : ISs := 
 (.cons (.ret (.con (.int 16))) .nil)
def f_Store_op : Fn := ⟨true, 1, 1, [], c_Store_op, false⟩
def c_Store_parts : ISs := 
 (.cons (.ret (.tup (.cons (.tup (.cons (.con (.int 16)) (.cons (.con (.int 3)) (.cons (.fld (.var 0) 0) .nil)))) (.cons (.tup (.cons (.con (.int 13)) (.cons (.con (.int 3)) (.cons (.fld (.var 0) 2) .nil)))) (.cons (.tup (.cons (.con (.int 0)) (.cons (.con (.int 10)) (.cons (.fld (.var 0) 1) .nil)))) .nil))))) .nil)
def f_Store_parts : Fn := ⟨true, 1, 1, [], c_Store_parts, false⟩
def c_Store_told : ISs := 
 (.cons (.ret (.tup (.cons (.con (.str (Str.ofString "store"))) (.cons (.fld (.var 0) 0) (.cons (.fld (.var 0) 2) (.cons (.fld (.var 0) 1) .nil)))))) .nil)
def f_Store_told : Fn := ⟨true, 1, 1, [], c_Store_told, false⟩
def c_Store_reads : ISs := 
 (.cons (.expr (.call 0 (.cons (.con (.int 20)) .nil))) .nil)
def f_Store_reads : Fn := ⟨true, 1, 1, [], c_Store_reads, false⟩
def c_Store_reckoned : ISs := 
 (.cons (.expr (.call 0 (.cons (.con (.int 21)) .nil))) .nil)
def f_Store_reckoned : Fn := ⟨true, 3, 3, [], c_Store_reckoned, false⟩
def c_Jump_init : ISs := 
 (.cons (.setF (.var 0) 1 (.var 1)) .nil)
def f_Jump_init : Fn := ⟨false, 2, 2, [], c_Jump_init, false⟩
def c_Jump_op : ISs := 
 (.cons (.ret (.con (.int 17))) .nil)
def f_Jump_op : Fn := ⟨true, 1, 1, [], c_Jump_op, false⟩
def c_Jump_parts : ISs := 
 (.cons (.ret (.tup (.cons (.tup (.cons (.con (.int 0)) (.cons (.con (.int 10)) (.cons (.fld (.var 0) 1) .nil)))) .nil))) .nil)
def f_Jump_parts : Fn := ⟨true, 1, 1, [], c_Jump_parts, false⟩
def c_Jump_told : ISs := 
 (.cons (.ret (.tup (.cons (.con (.str (Str.ofString "jump"))) (.cons (.fld (.var 0) 1) .nil)))) .nil)
def f_Jump_told : Fn := ⟨true, 1, 1, [], c_Jump_told, false⟩
def c_Jump_goal : ISs := 
 (.cons (.ret (.fld (.var 0) 1)) .nil)
def f_Jump_goal : Fn := ⟨true, 3, 3, [], c_Jump_goal, false⟩
def c_Zero_init : ISs := 
 (.cons (.setF (.var 0) 0 (.var 1))
 (.cons (.setF (.var 0) 1 (.var 2)) .nil))
def f_Zero_init : Fn := ⟨false, 3, 3, [], c_Zero_init, false⟩
def c_Zero_op : ISs := 
 (.cons (.ret (.con (.int 18))) .nil)
def f_Zero_op : Fn := ⟨true, 1, 1, [], c_Zero_op, false⟩
def c_Zero_parts : ISs := 
 (.cons (.ret (.tup (.cons (.tup (.cons (.con (.int 16)) (.cons (.con (.int 3)) (.cons (.fld (.var 0) 0) .nil)))) (.cons (.tup (.cons (.con (.int 0)) (.cons (.con (.int 10)) (.cons (.fld (.var 0) 1) .nil)))) .nil)))) .nil)
def f_Zero_parts : Fn := ⟨true, 1, 1, [], c_Zero_parts, false⟩
def c_Zero_told : ISs := 
 (.cons (.ret (.tup (.cons (.con (.str (Str.ofString "zero"))) (.cons (.fld (.var 0) 0) (.cons (.fld (.var 0) 1) .nil))))) .nil)
def f_Zero_told : Fn := ⟨true, 1, 1, [], c_Zero_told, false⟩
def c_Zero_reads : ISs := 
 (.cons (.expr (.call 0 (.cons (.con (.int 22)) .nil))) .nil)
def f_Zero_reads : Fn := ⟨true, 1, 1, [], c_Zero_reads, false⟩
def c_Zero_goal : ISs := 
 (.cons (.ret (.ife (.val (.cmp .Eq (.sub (.var 1) (.con (.int 0))) (.con (.int 0)))) (.fld (.var 0) 1) (.bin .Add (.var 2) (.con (.int 1))))) .nil)
def f_Zero_goal : Fn := ⟨true, 3, 3, [], c_Zero_goal, false⟩
def c_Link_init : ISs := 
 (.cons (.setF (.var 0) 0 (.var 1))
 (.cons (.setF (.var 0) 1 (.var 2)) .nil))
def f_Link_init : Fn := ⟨false, 3, 3, [], c_Link_init, false⟩
def c_Link_op : ISs := 
 (.cons (.ret (.con (.int 19))) .nil)
def f_Link_op : Fn := ⟨true, 1, 1, [], c_Link_op, false⟩
def c_Link_parts : ISs := 
 (.cons (.ret (.tup (.cons (.tup (.cons (.con (.int 16)) (.cons (.con (.int 3)) (.cons (.fld (.var 0) 0) .nil)))) (.cons (.tup (.cons (.con (.int 0)) (.cons (.con (.int 10)) (.cons (.fld (.var 0) 1) .nil)))) .nil)))) .nil)
def f_Link_parts : Fn := ⟨true, 1, 1, [], c_Link_parts, false⟩
def c_Link_told : ISs := 
 (.cons (.ret (.tup (.cons (.con (.str (Str.ofString "link"))) (.cons (.fld (.var 0) 0) (.cons (.fld (.var 0) 1) .nil))))) .nil)
def f_Link_told : Fn := ⟨true, 1, 1, [], c_Link_told, false⟩
def c_Link_named : ISs := 
 (.cons (.expr (.call 0 (.cons (.con (.int 23)) .nil))) .nil)
def f_Link_named : Fn := ⟨true, 1, 1, [], c_Link_named, false⟩
def c_Link_reckoned : ISs := 
 (.cons (.expr (.call 0 (.cons (.con (.int 24)) .nil))) .nil)
def f_Link_reckoned : Fn := ⟨true, 3, 3, [], c_Link_reckoned, false⟩
def c_Link_goal : ISs := 
 (.cons (.ret (.fld (.var 0) 1)) .nil)
def f_Link_goal : Fn := ⟨true, 3, 3, [], c_Link_goal, false⟩
def c_Go_init : ISs := 
 (.cons (.setF (.var 0) 0 (.var 1)) .nil)
def f_Go_init : Fn := ⟨false, 2, 2, [], c_Go_init, false⟩
def c_Go_op : ISs := 
 (.cons (.ret (.con (.int 20))) .nil)
def f_Go_op : Fn := ⟨true, 1, 1, [], c_Go_op, false⟩
def c_Go_parts : ISs := 
 (.cons (.ret (.tup (.cons (.tup (.cons (.con (.int 16)) (.cons (.con (.int 3)) (.cons (.fld (.var 0) 0) .nil)))) .nil))) .nil)
def f_Go_parts : Fn := ⟨true, 1, 1, [], c_Go_parts, false⟩
def c_Go_told : ISs := 
 (.cons (.ret (.tup (.cons (.con (.str (Str.ofString "go"))) (.cons (.fld (.var 0) 0) .nil)))) .nil)
def f_Go_told : Fn := ⟨true, 1, 1, [], c_Go_told, false⟩
def c_Go_reads : ISs := 
 (.cons (.expr (.call 0 (.cons (.con (.int 25)) .nil))) .nil)
def f_Go_reads : Fn := ⟨true, 1, 1, [], c_Go_reads, false⟩
def c_Go_goal : ISs := 
 (.cons (.ret (.sub (.var 1) (.con (.int 0)))) .nil)
def f_Go_goal : Fn := ⟨true, 3, 3, [], c_Go_goal, false⟩
def c_OfBox_init : ISs := 
 (.cons (.setF (.var 0) 0 (.var 1)) .nil)
def f_OfBox_init : Fn := ⟨false, 2, 2, [], c_OfBox_init, false⟩
def c_OfBox_first : ISs := 
 (.cons (.ret (.con (.str (Str.ofString "")))) .nil)
def f_OfBox_first : Fn := ⟨true, 1, 1, [], c_OfBox_first, false⟩
def c_OfBox_parts : ISs := 
 (.cons (.ret (.tup (.cons (.tup (.cons (.con (.int 16)) (.cons (.con (.int 3)) (.cons (.fld (.var 0) 0) .nil)))) .nil))) .nil)
def f_OfBox_parts : Fn := ⟨true, 1, 1, [], c_OfBox_parts, false⟩
def c_OfBox_told : ISs := 
 (.cons (.ret (.tup (.cons (.meth (.var 0) 19 .nil) (.cons (.fld (.var 0) 0) .nil)))) .nil)
def f_OfBox_told : Fn := ⟨true, 1, 1, [], c_OfBox_told, false⟩
def c_OfBox_station : ISs := 
 (.cons (.expr (.call 0 (.cons (.con (.int 26)) .nil))) .nil)
def f_OfBox_station : Fn := ⟨true, 1, 1, [], c_OfBox_station, false⟩
def c_Ask_op : ISs := 
 (.cons (.ret (.con (.int 21))) .nil)
def f_Ask_op : Fn := ⟨true, 1, 1, [], c_Ask_op, false⟩
def c_Ask_first : ISs := 
 (.cons (.ret (.con (.str (Str.ofString "ask")))) .nil)
def f_Ask_first : Fn := ⟨true, 1, 1, [], c_Ask_first, false⟩
def c_Ask_named : ISs := 
 (.cons (.expr (.call 0 (.cons (.con (.int 27)) .nil))) .nil)
def f_Ask_named : Fn := ⟨true, 1, 1, [], c_Ask_named, false⟩
def c_Tell_op : ISs := 
 (.cons (.ret (.con (.int 22))) .nil)
def f_Tell_op : Fn := ⟨true, 1, 1, [], c_Tell_op, false⟩
def c_Tell_first : ISs := 
 (.cons (.ret (.con (.str (Str.ofString "tell")))) .nil)
def f_Tell_first : Fn := ⟨true, 1, 1, [], c_Tell_first, false⟩
def c_Tell_reads : ISs := 
 (.cons (.expr (.call 0 (.cons (.con (.int 28)) .nil))) .nil)
def f_Tell_reads : Fn := ⟨true, 1, 1, [], c_Tell_reads, false⟩
def c_Why_op : ISs := 
 (.cons (.ret (.con (.int 23))) .nil)
def f_Why_op : Fn := ⟨true, 1, 1, [], c_Why_op, false⟩
def c_Why_first : ISs := 
 (.cons (.ret (.con (.str (Str.ofString "why")))) .nil)
def f_Why_first : Fn := ⟨true, 1, 1, [], c_Why_first, false⟩
def c_Why_named : ISs := 
 (.cons (.expr (.call 0 (.cons (.con (.int 29)) .nil))) .nil)
def f_Why_named : Fn := ⟨true, 1, 1, [], c_Why_named, false⟩
def c_Why_alone : ISs := 
 (.cons (.ret (.con (.bl true))) .nil)
def f_Why_alone : Fn := ⟨true, 1, 1, [], c_Why_alone, false⟩
def c_Where_op : ISs := 
 (.cons (.ret (.con (.int 24))) .nil)
def f_Where_op : Fn := ⟨true, 1, 1, [], c_Where_op, false⟩
def c_Where_first : ISs := 
 (.cons (.ret (.con (.str (Str.ofString "where")))) .nil)
def f_Where_first : Fn := ⟨true, 1, 1, [], c_Where_first, false⟩
def c_Where_named : ISs := 
 (.cons (.expr (.call 0 (.cons (.con (.int 30)) .nil))) .nil)
def f_Where_named : Fn := ⟨true, 1, 1, [], c_Where_named, false⟩
def c_Where_alone : ISs := 
 (.cons (.ret (.con (.bl true))) .nil)
def f_Where_alone : Fn := ⟨true, 1, 1, [], c_Where_alone, false⟩
def c_Aim_op : ISs := 
 (.cons (.ret (.con (.int 25))) .nil)
def f_Aim_op : Fn := ⟨true, 1, 1, [], c_Aim_op, false⟩
def c_Aim_first : ISs := 
 (.cons (.ret (.con (.str (Str.ofString "aim")))) .nil)
def f_Aim_first : Fn := ⟨true, 1, 1, [], c_Aim_first, false⟩
def c_Aim_reads : ISs := 
 (.cons (.expr (.call 0 (.cons (.con (.int 31)) .nil))) .nil)
def f_Aim_reads : Fn := ⟨true, 1, 1, [], c_Aim_reads, false⟩
def c_Aim_alone : ISs := 
 (.cons (.ret (.con (.bl true))) .nil)
def f_Aim_alone : Fn := ⟨true, 1, 1, [], c_Aim_alone, false⟩
def c_Home_op : ISs := 
 (.cons (.ret (.con (.int 26))) .nil)
def f_Home_op : Fn := ⟨true, 1, 1, [], c_Home_op, false⟩
def c_Home_told : ISs := 
 (.cons (.ret (.tup (.cons (.con (.str (Str.ofString "home"))) .nil))) .nil)
def f_Home_told : Fn := ⟨true, 1, 1, [], c_Home_told, false⟩
def c_Home_alone : ISs := 
 (.cons (.ret (.con (.bl true))) .nil)
def f_Home_alone : Fn := ⟨true, 1, 1, [], c_Home_alone, false⟩
def b_code_of_0 : ISs := 
 (.cons (.set 1 (.call 7 (.cons (.var 1) (.cons (.var 2) (.cons (.var 3) (.cons (.var 4) .nil)))))) .nil)
def c_code_of : ISs := 
 (.cons (.set 1 (.call 7 (.cons (.con (.int 0)) (.cons (.con (.int 19)) (.cons (.con (.int 5)) (.cons (.meth (.var 0) 7 .nil) .nil))))))
 (.cons (.for_ .seq (.cons (.meth (.var 0) 8 .nil) .nil) true [2, 3, 4] b_code_of_0)
 (.cons (.ret (.var 1)) .nil)))
def f_code_of : Fn := ⟨true, 1, 5, [], c_code_of, false⟩
def c_reckoning_row : ISs := 
 (.cons (.ife (.val (.cmp .Eq (.var 0) (.con (.int 0)))) 
  (.cons (.ret (.new 1 .nil)) .nil) .nil)
 (.cons (.ife (.val (.cmp .Eq (.var 0) (.con (.int 1)))) 
  (.cons (.ret (.new 2 (.cons (.var 1) (.cons (.var 4) .nil)))) .nil) .nil)
 (.cons (.ife (.val (.cmp .Eq (.var 0) (.con (.int 2)))) 
  (.cons (.ret (.new 3 (.cons (.var 1) (.cons (.var 2) (.cons (.call 8 (.cons (.var 4) (.cons (.con (.int 10)) .nil))) .nil))))) .nil) .nil)
 (.cons (.ife (.val (.cmp .LtE (.var 0) (.glob 4))) 
  (.cons (.ret (.new 4 (.cons (.sub (.glob 2) (.bin .Sub (.var 0) (.glob 3))) (.cons (.var 1) (.cons (.var 2) (.cons (.var 3) .nil)))))) .nil) .nil)
 (.cons (.ife (.val (.cmp .Eq (.var 0) (.con (.int 15)))) 
  (.cons (.ret (.new 5 (.cons (.var 1) (.cons (.var 2) (.cons (.call 8 (.cons (.var 4) (.cons (.con (.int 10)) .nil))) .nil))))) .nil) .nil)
 (.cons (.ret (.new 6 (.cons (.var 1) (.cons (.var 2) (.cons (.call 8 (.cons (.var 4) (.cons (.con (.int 10)) .nil))) .nil))))) .nil))))))
def f_reckoning_row : Fn := ⟨true, 5, 5, [], c_reckoning_row, false⟩
def c_jumping_row : ISs := 
 (.cons (.ife (.val (.cmp .Eq (.var 0) (.con (.int 17)))) 
  (.cons (.ret (.new 7 (.cons (.var 2) .nil))) .nil) .nil)
 (.cons (.ife (.val (.cmp .Eq (.var 0) (.con (.int 18)))) 
  (.cons (.ret (.new 8 (.cons (.var 1) (.cons (.var 2) .nil)))) .nil) .nil)
 (.cons (.ret (.ife (.val (.cmp .Eq (.var 0) (.con (.int 19)))) (.new 9 (.cons (.var 1) (.cons (.var 2) .nil))) (.new 10 (.cons (.var 1) .nil)))) .nil)))
def f_jumping_row : Fn := ⟨true, 3, 3, [], c_jumping_row, false⟩
def c_other_row : ISs := 
 (.cons (.ife (.val (.cmp .Eq (.var 0) (.con (.int 21)))) 
  (.cons (.ret (.new 12 (.cons (.var 1) .nil))) .nil) .nil)
 (.cons (.ife (.val (.cmp .Eq (.var 0) (.con (.int 22)))) 
  (.cons (.ret (.new 13 (.cons (.var 1) .nil))) .nil) .nil)
 (.cons (.ife (.val (.cmp .Eq (.var 0) (.con (.int 23)))) 
  (.cons (.ret (.new 14 (.cons (.var 1) .nil))) .nil) .nil)
 (.cons (.ife (.val (.cmp .Eq (.var 0) (.con (.int 24)))) 
  (.cons (.ret (.new 15 (.cons (.var 1) .nil))) .nil) .nil)
 (.cons (.ife (.val (.cmp .Eq (.var 0) (.con (.int 25)))) 
  (.cons (.ret (.new 16 (.cons (.var 1) .nil))) .nil) .nil)
 (.cons (.ret (.ife (.val (.cmp .Eq (.var 0) (.con (.int 26)))) (.new 17 .nil) (.con .non))) .nil))))))
def f_other_row : Fn := ⟨true, 2, 2, [], c_other_row, false⟩
def c_row_by : ISs := 
 (.cons (.set 1 (.call 6 (.cons (.var 0) (.cons (.con (.int 19)) (.cons (.con (.int 5)) .nil)))))
 (.cons (.set 2 (.call 6 (.cons (.var 0) (.cons (.con (.int 16)) (.cons (.con (.int 3)) .nil)))))
 (.cons (.set 3 (.call 6 (.cons (.var 0) (.cons (.con (.int 0)) (.cons (.con (.int 10)) .nil)))))
 (.cons (.ife (.val (.cmp .LtE (.var 1) (.con (.int 16)))) 
  (.cons (.ret (.call 108 (.cons (.var 1) (.cons (.var 2) (.cons (.call 6 (.cons (.var 0) (.cons (.con (.int 13)) (.cons (.con (.int 3)) .nil)))) (.cons (.call 6 (.cons (.var 0) (.cons (.con (.int 10)) (.cons (.con (.int 3)) .nil)))) (.cons (.var 3) .nil))))))) .nil) .nil)
 (.cons (.ife (.val (.cmp .LtE (.var 1) (.con (.int 20)))) 
  (.cons (.ret (.call 109 (.cons (.var 1) (.cons (.var 2) (.cons (.var 3) .nil))))) .nil) .nil)
 (.cons (.ret (.call 110 (.cons (.var 1) (.cons (.var 2) .nil)))) .nil))))))
def f_row_by : Fn := ⟨true, 1, 4, [], c_row_by, false⟩
def c_row_of : ISs := 
 (.cons (.set 1 (.call 111 (.cons (.var 0) .nil)))
 (.cons (.ife (.ors (.cons (.val (.cmp .Is (.var 1) (.con .non))) (.cons (.val (.cmp .NotEq (.call 107 (.cons (.var 1) .nil)) (.var 0))) .nil))) 
  (.cons (.ret (.con .non)) .nil) .nil)
 (.cons (.ret (.var 1)) .nil)))
def f_row_of : Fn := ⟨true, 1, 2, [], c_row_of, false⟩
def c_is_whole : ISs := 
 (.cons (.ret (.ands (.cons (.isi (.var 0) false [.int]) (.cons (.not (.isi (.var 0) false [.bool])) (.cons (.cmp2 .LtE .LtE (.con (.int 0)) (.var 0) (.var 1)) .nil))))) .nil)
def f_is_whole : Fn := ⟨true, 2, 2, [], c_is_whole, false⟩
def c_Program_init : ISs := 
 (.cons (.ife (.ors (.cons (.not (.val (.isi (.var 1) true [.tuple, .list]))) (.cons (.val (.cmp .Gt (.blt .len false (.cons (.var 1) .nil)) (.glob 5))) .nil))) 
  (.cons (.raise 1 .nil) .nil) .nil)
 (.cons (.ife (.not (.val (.blt .all false (.cons (.comp false .seq (.cons (.var 1) .nil) false [3] .nil (.call 113 (.cons (.var 3) (.cons (.glob 6) .nil)))) .nil)))) 
  (.cons (.raise 1 .nil) .nil) .nil)
 (.cons (.ife (.ands (.cons (.val (.cmp .IsNot (.var 2) (.con .non))) (.cons (.not (.val (.call 113 (.cons (.var 2) (.cons (.glob 7) .nil))))) .nil))) 
  (.cons (.raise 1 .nil) .nil) .nil)
 (.cons (.setF (.var 0) 5 (.blt .tuple false (.cons (.var 1) .nil)))
 (.cons (.setF (.var 0) 6 (.var 2)) .nil)))))
def f_Program_init : Fn := ⟨false, 3, 4, [.non], c_Program_init, false⟩
def c_Program_row_at : ISs := 
 (.cons (.ife (.val (.cmp .GtE (.var 1) (.blt .len false (.cons (.fld (.var 0) 5) .nil)))) 
  (.cons (.ret (.con .non)) .nil) .nil)
 (.cons (.ret (.call 112 (.cons (.sub (.fld (.var 0) 5) (.var 1)) .nil))) .nil))
def f_Program_row_at : Fn := ⟨true, 2, 2, [], c_Program_row_at, false⟩
def c_Program_cause_at : ISs := 
 (.cons (.expr (.call 0 (.cons (.con (.int 32)) .nil))) .nil)
def f_Program_cause_at : Fn := ⟨true, 2, 2, [], c_Program_cause_at, false⟩
def c__law_cell : ISs := 
 (.cons (.set 2 (.bin .Add (.bin .Mult (.con (.int 7919)) (.var 1)) (.con (.int 11))))
 (.cons (.ife (.val (.cmp .NotEq (.var 0) (.lst false .nil))) 
  (.cons (.set 2 (.bin .Add (.bin .Mult (.sub (.var 0) (.bin .Mod (.var 1) (.blt .len false (.cons (.var 0) .nil)))) (.con (.int 48271))) (.bin .Mult (.con (.int 104729)) (.var 1))))
  (.cons (.set 2 (.bin .Add (.var 2) (.bin .Mult (.bin .FloorDiv (.var 1) (.blt .len false (.cons (.var 0) .nil))) (.con (.int 7919))))) .nil)) .nil)
 (.cons (.set 3 (.bin .Mod (.var 2) (.con (.int 2147483647))))
 (.cons (.set 3 (.bin .Mod (.bin .Mult (.var 3) (.var 3)) (.con (.int 2147483629))))
 (.cons (.ret (.bin .Mod (.bin .Add (.bin .Add (.bin .Mult (.var 3) (.var 3)) (.bin .Mult (.con (.int 69621)) (.var 3))) (.var 1)) (.con (.int 2147483587)))) .nil)))))
def f__law_cell : Fn := ⟨true, 2, 4, [], c__law_cell, false⟩
def c__law_words : ISs := 
 (.cons (.set 0 (.lst false (.cons (.con (.str (Str.ofString "stop"))) (.cons (.con (.str (Str.ofString "num"))) (.cons (.con (.str (Str.ofString "plus"))) (.cons (.con (.str (Str.ofString "add"))) (.cons (.con (.str (Str.ofString "sub"))) (.cons (.con (.str (Str.ofString "mul"))) (.cons (.con (.str (Str.ofString "div"))) (.cons (.con (.str (Str.ofString "rest"))) (.cons (.con (.str (Str.ofString "and"))) (.cons (.con (.str (Str.ofString "or"))) (.cons (.con (.str (Str.ofString "xor"))) (.cons (.con (.str (Str.ofString "up"))) (.cons (.con (.str (Str.ofString "down"))) .nil)))))))))))))))
 (.cons (.set 0 (.bin .Add (.var 0) (.lst false (.cons (.con (.str (Str.ofString "low"))) (.cons (.con (.str (Str.ofString "same"))) (.cons (.con (.str (Str.ofString "load"))) (.cons (.con (.str (Str.ofString "store"))) (.cons (.con (.str (Str.ofString "jump"))) (.cons (.con (.str (Str.ofString "zero"))) (.cons (.con (.str (Str.ofString "link"))) (.cons (.con (.str (Str.ofString "go"))) (.cons (.con (.str (Str.ofString "ask"))) (.cons (.con (.str (Str.ofString "tell"))) (.cons (.con (.str (Str.ofString "why"))) .nil))))))))))))))
 (.cons (.ret (.bin .Add (.var 0) (.lst false (.cons (.con (.str (Str.ofString "where"))) (.cons (.con (.str (Str.ofString "aim"))) (.cons (.con (.str (Str.ofString "home"))) .nil)))))) .nil)))
def f__law_words : Fn := ⟨true, 0, 1, [], c__law_words, false⟩
def c__law_shape : ISs := 
 (.cons (.set 1 (.bm .index false (.call 118 .nil) (.cons (.var 0) .nil)))
 (.cons (.ife (.val (.cmp .In (.var 1) (.lst false (.cons (.con (.int 0)) (.cons (.con (.int 26)) .nil))))) 
  (.cons (.ret (.con (.str (Str.ofString "")))) .nil) .nil)
 (.cons (.ife (.ors (.cons (.val (.cmp .Gt (.var 1) (.con (.int 19)))) (.cons (.val (.cmp .In (.var 1) (.lst false (.cons (.con (.int 17)) .nil)))) .nil))) 
  (.cons (.ret (.sub (.lst false (.cons (.con (.str (Str.ofString "b"))) (.cons (.con (.str (Str.ofString "g"))) .nil))) (.blt .int false (.cons (.cmp .Eq (.var 1) (.con (.int 17))) .nil)))) .nil) .nil)
 (.cons (.ife (.val (.cmp .In (.var 1) (.lst false (.cons (.con (.int 1)) (.cons (.con (.int 18)) (.cons (.con (.int 19)) .nil)))))) 
  (.cons (.ret (.sub (.lst false (.cons (.con (.str (Str.ofString "bg"))) (.cons (.con (.str (Str.ofString "bn"))) .nil))) (.blt .int false (.cons (.cmp .Eq (.var 1) (.con (.int 1))) .nil)))) .nil) .nil)
 (.cons (.ret (.sub (.lst false (.cons (.con (.str (Str.ofString "bbb"))) (.cons (.con (.str (Str.ofString "bbs"))) .nil))) (.blt .int false (.cons (.cmp .In (.var 1) (.lst false (.cons (.con (.int 2)) (.cons (.con (.int 15)) (.cons (.con (.int 16)) .nil))))) .nil)))) .nil)))))
def f__law_shape : Fn := ⟨true, 1, 2, [], c__law_shape, false⟩
def c__law_part_by : ISs := 
 (.cons (.ife (.val (.cmp .Eq (.var 0) (.con (.str (Str.ofString "b"))))) 
  (.cons (.ret (.bin .Mod (.var 1) (.con (.int 8)))) .nil) .nil)
 (.cons (.ife (.val (.cmp .Eq (.var 0) (.con (.str (Str.ofString "s"))))) 
  (.cons (.ret (.sub (.lst false (.cons (.bin .Sub (.bin .Mod (.bin .FloorDiv (.var 1) (.con (.int 4))) (.con (.int 1024))) (.con (.int 512))) (.cons (.neg (.con (.int 512))) (.cons (.con (.int 511)) (.cons (.bin .Sub (.bin .Mod (.bin .FloorDiv (.var 1) (.con (.int 4))) (.con (.int 3))) (.con (.int 1))) .nil))))) (.bin .Mod (.var 1) (.con (.int 4))))) .nil) .nil)
 (.cons (.ret (.sub (.lst false (.cons (.bin .Mod (.bin .FloorDiv (.var 1) (.con (.int 4))) (.con (.int 1024))) (.cons (.bin .Mod (.bin .FloorDiv (.var 1) (.con (.int 4))) (.con (.int 70))) (.cons (.con (.int 1023)) (.cons (.bin .Mod (.bin .FloorDiv (.var 1) (.con (.int 4))) (.con (.int 2))) .nil))))) (.bin .Mod (.var 1) (.con (.int 4))))) .nil)))
def f__law_part_by : Fn := ⟨true, 2, 2, [], c__law_part_by, false⟩
def c__law_told_by : ISs := 
 (.cons (.set 2 (.sub (.call 118 .nil) (.bin .Mod (.call 117 (.cons (.var 0) (.cons (.var 1) .nil))) (.con (.int 27)))))
 (.cons (.set 3 (.call 119 (.cons (.var 2) .nil)))
 (.cons (.set 4 (.comp false .range (.cons (.blt .len false (.cons (.var 3) .nil)) .nil) false [5] .nil (.call 120 (.cons (.sub (.var 3) (.var 5)) (.cons (.call 117 (.cons (.var 0) (.cons (.bin .Add (.bin .Add (.con (.int 2000)) (.bin .Mult (.con (.int 3)) (.var 1))) (.var 5)) .nil))) .nil)))))
 (.cons (.ret (.bin .Add (.tup (.cons (.var 2) .nil)) (.blt .tuple false (.cons (.var 4) .nil)))) .nil))))
def f__law_told_by : Fn := ⟨true, 2, 6, [], c__law_told_by, false⟩
def b__law_code_0 : ISs := 
 (.cons (.ife (.val (.cmp .Eq (.sub (.var 1) (.var 3)) (.con (.str (Str.ofString "b"))))) 
  (.cons (.set 2 (.bin .Add (.var 2) (.bin .Mult (.sub (.var 0) (.bin .Add (.con (.int 1)) (.var 3))) (.sub (.lst false (.cons (.con (.int 65536)) (.cons (.con (.int 8192)) (.cons (.con (.int 1024)) .nil)))) (.var 3))))) .nil) 
  (.cons (.set 2 (.bin .Add (.var 2) (.bin .Mod (.sub (.var 0) (.bin .Add (.con (.int 1)) (.var 3))) (.con (.int 1024))))) .nil)) .nil)
def c__law_code : ISs := 
 (.cons (.set 1 (.call 119 (.cons (.sub (.var 0) (.con (.int 0))) .nil)))
 (.cons (.set 2 (.bin .Mult (.bm .index false (.call 118 .nil) (.cons (.sub (.var 0) (.con (.int 0))) .nil)) (.bin .Pow (.con (.int 2)) (.con (.int 19)))))
 (.cons (.for_ .range (.cons (.blt .len false (.cons (.var 1) .nil)) .nil) false [3] b__law_code_0)
 (.cons (.ret (.var 2)) .nil))))
def f__law_code : Fn := ⟨true, 1, 4, [], c__law_code, false⟩
def b__law_line_0 : ISs := 
 (.cons (.expr (.bm .append false (.var 2) (.cons (.bin .Add (.sub (.lst false (.cons (.con (.str (Str.ofString ""))) (.cons (.con (.str (Str.ofString "r"))) .nil))) (.blt .int false (.cons (.cmp .Eq (.sub (.var 1) (.var 3)) (.con (.str (Str.ofString "b")))) .nil))) (.blt .str false (.cons (.sub (.var 0) (.bin .Add (.con (.int 1)) (.var 3))) .nil))) .nil))) .nil)
def c__law_line : ISs := 
 (.cons (.set 1 (.call 119 (.cons (.sub (.var 0) (.con (.int 0))) .nil)))
 (.cons (.set 2 (.lst true (.cons (.sub (.var 0) (.con (.int 0))) .nil)))
 (.cons (.for_ .range (.cons (.blt .len false (.cons (.var 1) .nil)) .nil) false [3] b__law_line_0)
 (.cons (.ret (.join (.con (.str (Str.ofString " "))) (.cons (.var 2) .nil))) .nil))))
def f__law_line : Fn := ⟨true, 1, 4, [], c__law_line, false⟩
def b__law_codes_0 : ISs := 
 (.cons (.set 5 (.call 117 (.cons (.var 0) (.cons (.bin .Add (.con (.int 100)) (.var 4)) .nil))))
 (.cons (.set 6 (.call 122 (.cons (.call 121 (.cons (.var 0) (.cons (.bin .Add (.con (.int 200)) (.var 4)) .nil))) .nil)))
 (.cons (.ife (.val (.cmp .Eq (.bin .Mod (.var 5) (.con (.int 5))) (.con (.int 1)))) 
  (.cons (.set 6 (.bin .Mod (.bin .FloorDiv (.var 5) (.con (.int 5))) (.bin .Pow (.con (.int 2)) (.con (.int 24))))) .nil) .nil)
 (.cons (.ife (.val (.cmp .Eq (.bin .Mod (.var 5) (.con (.int 5))) (.con (.int 2)))) 
  (.cons (.set 6 (.bin .BitXor (.var 6) (.bin .LShift (.con (.int 1)) (.bin .Mod (.bin .FloorDiv (.var 5) (.con (.int 5))) (.con (.int 24)))))) .nil) .nil)
 (.cons (.expr (.bm .append false (.var 3) (.cons (.var 6) .nil))) .nil)))))
def c__law_codes : ISs := 
 (.cons (.set 2 (.bin .Mod (.call 117 (.cons (.var 0) (.cons (.con (.int 900)) .nil))) (.sub (.lst false (.cons (.var 1) (.cons (.var 1) (.cons (.con (.int 65)) .nil)))) (.bin .Mod (.call 117 (.cons (.var 0) (.cons (.con (.int 901)) .nil))) (.con (.int 3))))))
 (.cons (.set 3 (.lst true .nil))
 (.cons (.for_ .range (.cons (.var 2) .nil) false [4] b__law_codes_0)
 (.cons (.ret (.var 3)) .nil))))
def f__law_codes : Fn := ⟨true, 2, 7, [], c__law_codes, false⟩
def c__law_hall : ISs := 
 (.cons (.ret (.sub (.lst false (.cons (.con .non) (.cons (.bin .Mod (.call 117 (.cons (.var 0) (.cons (.con (.int 902)) .nil))) (.con (.int 1024))) (.cons (.bin .Mod (.call 117 (.cons (.var 0) (.cons (.con (.int 902)) .nil))) (.con (.int 70))) (.cons (.con (.int 0)) .nil))))) (.bin .Mod (.call 117 (.cons (.var 0) (.cons (.con (.int 903)) .nil))) (.con (.int 4))))) .nil)
def f__law_hall : Fn := ⟨true, 1, 1, [], c__law_hall, false⟩
def b_law_0 : ISs := 
 (.cons (.set 5 (.call 112 (.cons (.var 4) .nil)))
 (.cons (.ife (.val (.cmp .Is (.var 5) (.con .non))) 
  (.cons (.expr (.bm .append false (.var 3) (.cons (.bin .Add (.con (.str (Str.ofString "code "))) (.blt .str false (.cons (.var 4) .nil))) .nil))) .nil) 
  (.cons (.expr (.bm .append false (.var 3) (.cons (.call 123 (.cons (.meth (.var 5) 9 .nil) .nil)) .nil))) .nil)) .nil))
def c_law : ISs := 
 (.cons (.set 1 (.call 124 (.cons (.var 0) (.cons (.con (.int 12)) .nil))))
 (.cons (.set 2 (.call 125 (.cons (.var 0) .nil)))
 (.cons (.set 3 (.lst true .nil))
 (.cons (.ife (.val (.cmp .IsNot (.var 2) (.con .non))) 
  (.cons (.expr (.bm .append false (.var 3) (.cons (.bin .Add (.con (.str (Str.ofString "hall "))) (.blt .str false (.cons (.var 2) .nil))) .nil))) .nil) .nil)
 (.cons (.for_ .seq (.cons (.var 1) .nil) false [4] b_law_0)
 (.cons (.set 6 (.join (.con (.str (Str.ofString ""))) (.cons (.comp false .seq (.cons (.var 3) .nil) false [7] .nil (.bin .Add (.var 7) (.con (.str (Str.ofString "\n"))))) .nil)))
 (.cons (.set 8 (.new 18 (.cons (.blt .tuple false (.cons (.var 1) .nil)) (.cons (.var 2) .nil))))
 (.cons (.set 9 (.call 5 (.cons (.var 8) .nil)))
 (.cons (.ife (.ors (.cons (.not (.val (.isi (.var 9) false [.str]))) (.cons (.val (.cmp .NotEq (.var 9) (.var 6))) (.cons (.val (.cmp .NotEq (.fld (.var 8) 5) (.blt .tuple false (.cons (.var 1) .nil)))) (.cons (.val (.cmp .NotEq (.fld (.var 8) 6) (.var 2))) .nil))))) 
  (.cons (.ret (.con (.bl false))) .nil) .nil)
 (.cons (.set 10 (.new 18 (.cons (.blt .tuple false (.cons (.rev false (.var 1)) .nil)) .nil)))
 (.cons (.ret (.ands (.cons (.cmp .Eq (.tcount (.call 5 (.cons (.var 10) .nil)) (.cons (.con (.str (Str.ofString "\n"))) .nil)) (.blt .len false (.cons (.var 1) .nil))) (.cons (.cmp .Eq (.call 5 (.cons (.var 8) .nil)) (.var 6)) .nil)))) .nil)))))))))))
def f_law : Fn := ⟨true, 1, 11, [], c_law, false⟩
def defs0 : List DefX := [
  ⟨((Str.ofString "_wall"), none), (Str.ofString "_wall"), (Str.ofString "_wall"), top 0, [(Str.ofString "k")], [(Str.ofString "k")], f__wall⟩,
  ⟨((Str.ofString "shape_of"), none), (Str.ofString "shape_of"), (Str.ofString "shape_of"), top 5, [(Str.ofString "word")], [(Str.ofString "word")], f_shape_of⟩,
  ⟨((Str.ofString "part_text"), none), (Str.ofString "part_text"), (Str.ofString "part_text"), top 6, [(Str.ofString "mark"), (Str.ofString "part")], [(Str.ofString "mark"), (Str.ofString "part")], f_part_text⟩,
  ⟨((Str.ofString "row_text"), none), (Str.ofString "row_text"), (Str.ofString "row_text"), top 7, [(Str.ofString "row"), (Str.ofString "told"), (Str.ofString "words"), (Str.ofString "mark"), (Str.ofString "part")], [(Str.ofString "row")], f_row_text⟩,
  ⟨((Str.ofString "line_at"), none), (Str.ofString "line_at"), (Str.ofString "line_at"), top 8, [(Str.ofString "program"), (Str.ofString "place"), (Str.ofString "row")], [(Str.ofString "program"), (Str.ofString "place")], f_line_at⟩,
  ⟨((Str.ofString "written"), none), (Str.ofString "written"), (Str.ofString "written"), top 9, [(Str.ofString "program"), (Str.ofString "lines"), (Str.ofString "place"), (Str.ofString "line")], [(Str.ofString "program")], f_written⟩,
  ⟨((Str.ofString "bits_of"), none), (Str.ofString "bits_of"), (Str.ofString "bits_of"), top 11, [(Str.ofString "number"), (Str.ofString "low"), (Str.ofString "many")], [(Str.ofString "number"), (Str.ofString "low"), (Str.ofString "many")], f_bits_of⟩,
  ⟨((Str.ofString "with_bits"), none), (Str.ofString "with_bits"), (Str.ofString "with_bits"), top 12, [(Str.ofString "number"), (Str.ofString "low"), (Str.ofString "many"), (Str.ofString "part"), (Str.ofString "here")], [(Str.ofString "number"), (Str.ofString "low"), (Str.ofString "many"), (Str.ofString "part")], f_with_bits⟩,
  ⟨((Str.ofString "signed"), none), (Str.ofString "signed"), (Str.ofString "signed"), top 13, [(Str.ofString "part"), (Str.ofString "many")], [(Str.ofString "part"), (Str.ofString "many")], f_signed⟩,
  ⟨((Str.ofString "Row"), some (Str.ofString "op")), (Str.ofString "op"), (Str.ofString "Row.op"), (inClass (top 17) 0), [(Str.ofString "self")], [(Str.ofString "self")], f_Row_op⟩]
def defs1 : List DefX := [
  ⟨((Str.ofString "Row"), some (Str.ofString "parts")), (Str.ofString "parts"), (Str.ofString "Row.parts"), (inClass (top 17) 1), [(Str.ofString "self")], [(Str.ofString "self")], f_Row_parts⟩,
  ⟨((Str.ofString "Row"), some (Str.ofString "told")), (Str.ofString "told"), (Str.ofString "Row.told"), (inClass (top 17) 2), [(Str.ofString "self")], [(Str.ofString "self")], f_Row_told⟩,
  ⟨((Str.ofString "Row"), some (Str.ofString "reads")), (Str.ofString "reads"), (Str.ofString "Row.reads"), (inClass (top 17) 3), [(Str.ofString "self")], [(Str.ofString "self")], f_Row_reads⟩,
  ⟨((Str.ofString "Row"), some (Str.ofString "named")), (Str.ofString "named"), (Str.ofString "Row.named"), (inClass (top 17) 4), [(Str.ofString "self")], [(Str.ofString "self")], f_Row_named⟩,
  ⟨((Str.ofString "Row"), some (Str.ofString "gives")), (Str.ofString "gives"), (Str.ofString "Row.gives"), (inClass (top 17) 5), [(Str.ofString "self")], [(Str.ofString "self")], f_Row_gives⟩,
  ⟨((Str.ofString "Row"), some (Str.ofString "station")), (Str.ofString "station"), (Str.ofString "Row.station"), (inClass (top 17) 6), [(Str.ofString "self")], [(Str.ofString "self")], f_Row_station⟩,
  ⟨((Str.ofString "Row"), some (Str.ofString "known")), (Str.ofString "known"), (Str.ofString "Row.known"), (inClass (top 17) 7), [(Str.ofString "self")], [(Str.ofString "self")], f_Row_known⟩,
  ⟨((Str.ofString "Row"), some (Str.ofString "alone")), (Str.ofString "alone"), (Str.ofString "Row.alone"), (inClass (top 17) 8), [(Str.ofString "self")], [(Str.ofString "self")], f_Row_alone⟩,
  ⟨((Str.ofString "Row"), some (Str.ofString "long")), (Str.ofString "long"), (Str.ofString "Row.long"), (inClass (top 17) 9), [(Str.ofString "self")], [(Str.ofString "self")], f_Row_long⟩,
  ⟨((Str.ofString "Row"), some (Str.ofString "reckoned")), (Str.ofString "reckoned"), (Str.ofString "Row.reckoned"), (inClass (top 17) 10), [(Str.ofString "self"), (Str.ofString "words"), (Str.ofString "place")], [(Str.ofString "self"), (Str.ofString "words"), (Str.ofString "place")], f_Row_reckoned⟩]
def defs2 : List DefX := [
  ⟨((Str.ofString "Row"), some (Str.ofString "goal")), (Str.ofString "goal"), (Str.ofString "Row.goal"), (inClass (top 17) 11), [(Str.ofString "self"), (Str.ofString "words"), (Str.ofString "place")], [(Str.ofString "self"), (Str.ofString "words"), (Str.ofString "place")], f_Row_goal⟩,
  ⟨((Str.ofString "Stop"), some (Str.ofString "told")), (Str.ofString "told"), (Str.ofString "Stop.told"), (inClass (top 18) 0), [(Str.ofString "self")], [(Str.ofString "self")], f_Stop_told⟩,
  ⟨((Str.ofString "Num"), some (Str.ofString "__init__")), (Str.ofString "__init__"), (Str.ofString "Num.__init__"), (inClass (top 19) 0), [(Str.ofString "self"), (Str.ofString "a"), (Str.ofString "n")], [(Str.ofString "self"), (Str.ofString "a"), (Str.ofString "n")], f_Num_init⟩,
  ⟨((Str.ofString "Num"), some (Str.ofString "op")), (Str.ofString "op"), (Str.ofString "Num.op"), (inClass (top 19) 1), [(Str.ofString "self")], [(Str.ofString "self")], f_Num_op⟩,
  ⟨((Str.ofString "Num"), some (Str.ofString "parts")), (Str.ofString "parts"), (Str.ofString "Num.parts"), (inClass (top 19) 2), [(Str.ofString "self")], [(Str.ofString "self")], f_Num_parts⟩,
  ⟨((Str.ofString "Num"), some (Str.ofString "told")), (Str.ofString "told"), (Str.ofString "Num.told"), (inClass (top 19) 3), [(Str.ofString "self")], [(Str.ofString "self")], f_Num_told⟩,
  ⟨((Str.ofString "Num"), some (Str.ofString "named")), (Str.ofString "named"), (Str.ofString "Num.named"), (inClass (top 19) 4), [(Str.ofString "self")], [(Str.ofString "self")], f_Num_named⟩,
  ⟨((Str.ofString "Num"), some (Str.ofString "reckoned")), (Str.ofString "reckoned"), (Str.ofString "Num.reckoned"), (inClass (top 19) 5), [(Str.ofString "self"), (Str.ofString "words"), (Str.ofString "place")], [(Str.ofString "self"), (Str.ofString "words"), (Str.ofString "place")], f_Num_reckoned⟩,
  ⟨((Str.ofString "Plus"), some (Str.ofString "__init__")), (Str.ofString "__init__"), (Str.ofString "Plus.__init__"), (inClass (top 20) 0), [(Str.ofString "self"), (Str.ofString "a"), (Str.ofString "b"), (Str.ofString "n")], [(Str.ofString "self"), (Str.ofString "a"), (Str.ofString "b"), (Str.ofString "n")], f_Plus_init⟩,
  ⟨((Str.ofString "Plus"), some (Str.ofString "op")), (Str.ofString "op"), (Str.ofString "Plus.op"), (inClass (top 20) 1), [(Str.ofString "self")], [(Str.ofString "self")], f_Plus_op⟩]
def defs3 : List DefX := [
  ⟨((Str.ofString "Plus"), some (Str.ofString "parts")), (Str.ofString "parts"), (Str.ofString "Plus.parts"), (inClass (top 20) 2), [(Str.ofString "self")], [(Str.ofString "self")], f_Plus_parts⟩,
  ⟨((Str.ofString "Plus"), some (Str.ofString "told")), (Str.ofString "told"), (Str.ofString "Plus.told"), (inClass (top 20) 3), [(Str.ofString "self")], [(Str.ofString "self")], f_Plus_told⟩,
  ⟨((Str.ofString "Plus"), some (Str.ofString "reads")), (Str.ofString "reads"), (Str.ofString "Plus.reads"), (inClass (top 20) 4), [(Str.ofString "self")], [(Str.ofString "self")], f_Plus_reads⟩,
  ⟨((Str.ofString "Plus"), some (Str.ofString "named")), (Str.ofString "named"), (Str.ofString "Plus.named"), (inClass (top 20) 5), [(Str.ofString "self")], [(Str.ofString "self")], f_Plus_named⟩,
  ⟨((Str.ofString "Plus"), some (Str.ofString "reckoned")), (Str.ofString "reckoned"), (Str.ofString "Plus.reckoned"), (inClass (top 20) 6), [(Str.ofString "self"), (Str.ofString "words"), (Str.ofString "place")], [(Str.ofString "self"), (Str.ofString "words"), (Str.ofString "place")], f_Plus_reckoned⟩,
  ⟨((Str.ofString "Pair"), some (Str.ofString "__init__")), (Str.ofString "__init__"), (Str.ofString "Pair.__init__"), (inClass (top 21) 0), [(Str.ofString "self"), (Str.ofString "word"), (Str.ofString "a"), (Str.ofString "b"), (Str.ofString "c")], [(Str.ofString "self"), (Str.ofString "word"), (Str.ofString "a"), (Str.ofString "b"), (Str.ofString "c")], f_Pair_init⟩,
  ⟨((Str.ofString "Pair"), some (Str.ofString "op")), (Str.ofString "op"), (Str.ofString "Pair.op"), (inClass (top 21) 1), [(Str.ofString "self")], [(Str.ofString "self")], f_Pair_op⟩,
  ⟨((Str.ofString "Pair"), some (Str.ofString "parts")), (Str.ofString "parts"), (Str.ofString "Pair.parts"), (inClass (top 21) 2), [(Str.ofString "self")], [(Str.ofString "self")], f_Pair_parts⟩,
  ⟨((Str.ofString "Pair"), some (Str.ofString "told")), (Str.ofString "told"), (Str.ofString "Pair.told"), (inClass (top 21) 3), [(Str.ofString "self")], [(Str.ofString "self")], f_Pair_told⟩,
  ⟨((Str.ofString "Pair"), some (Str.ofString "reads")), (Str.ofString "reads"), (Str.ofString "Pair.reads"), (inClass (top 21) 4), [(Str.ofString "self")], [(Str.ofString "self")], f_Pair_reads⟩]
def defs4 : List DefX := [
  ⟨((Str.ofString "Pair"), some (Str.ofString "named")), (Str.ofString "named"), (Str.ofString "Pair.named"), (inClass (top 21) 5), [(Str.ofString "self")], [(Str.ofString "self")], f_Pair_named⟩,
  ⟨((Str.ofString "Pair"), some (Str.ofString "long")), (Str.ofString "long"), (Str.ofString "Pair.long"), (inClass (top 21) 6), [(Str.ofString "self")], [(Str.ofString "self")], f_Pair_long⟩,
  ⟨((Str.ofString "Pair"), some (Str.ofString "reckoned")), (Str.ofString "reckoned"), (Str.ofString "Pair.reckoned"), (inClass (top 21) 7), [(Str.ofString "self"), (Str.ofString "words"), (Str.ofString "place")], [(Str.ofString "self"), (Str.ofString "words"), (Str.ofString "place")], f_Pair_reckoned⟩,
  ⟨((Str.ofString "Load"), some (Str.ofString "__init__")), (Str.ofString "__init__"), (Str.ofString "Load.__init__"), (inClass (top 22) 0), [(Str.ofString "self"), (Str.ofString "a"), (Str.ofString "b"), (Str.ofString "n")], [(Str.ofString "self"), (Str.ofString "a"), (Str.ofString "b"), (Str.ofString "n")], f_Load_init⟩,
  ⟨((Str.ofString "Load"), some (Str.ofString "op")), (Str.ofString "op"), (Str.ofString "Load.op"), (inClass (top 22) 1), [(Str.ofString "self")], [(Str.ofString "self")], f_Load_op⟩,
  ⟨((Str.ofString "Load"), some (Str.ofString "parts")), (Str.ofString "parts"), (Str.ofString "Load.parts"), (inClass (top 22) 2), [(Str.ofString "self")], [(Str.ofString "self")], f_Load_parts⟩,
  ⟨((Str.ofString "Load"), some (Str.ofString "told")), (Str.ofString "told"), (Str.ofString "Load.told"), (inClass (top 22) 3), [(Str.ofString "self")], [(Str.ofString "self")], f_Load_told⟩,
  ⟨((Str.ofString "Load"), some (Str.ofString "reads")), (Str.ofString "reads"), (Str.ofString "Load.reads"), (inClass (top 22) 4), [(Str.ofString "self")], [(Str.ofString "self")], f_Load_reads⟩,
  ⟨((Str.ofString "Load"), some (Str.ofString "named")), (Str.ofString "named"), (Str.ofString "Load.named"), (inClass (top 22) 5), [(Str.ofString "self")], [(Str.ofString "self")], f_Load_named⟩,
  ⟨((Str.ofString "Load"), some (Str.ofString "station")), (Str.ofString "station"), (Str.ofString "Load.station"), (inClass (top 22) 6), [(Str.ofString "self")], [(Str.ofString "self")], f_Load_station⟩]
def defs5 : List DefX := [
  ⟨((Str.ofString "Load"), some (Str.ofString "reckoned")), (Str.ofString "reckoned"), (Str.ofString "Load.reckoned"), (inClass (top 22) 7), [(Str.ofString "self"), (Str.ofString "words"), (Str.ofString "place")], [(Str.ofString "self"), (Str.ofString "words"), (Str.ofString "place")], f_Load_reckoned⟩,
  ⟨((Str.ofString "Store"), some (Str.ofString "__init__")), (Str.ofString "__init__"), (Str.ofString "Store.__init__"), (inClass (top 23) 0), [(Str.ofString "self"), (Str.ofString "a"), (Str.ofString "b"), (Str.ofString "n")], [(Str.ofString "self"), (Str.ofString "a"), (Str.ofString "b"), (Str.ofString "n")], f_Store_init⟩,
  ⟨((Str.ofString "Store"), some (Str.ofString "op")), (Str.ofString "op"), (Str.ofString "Store.op"), (inClass (top 23) 1), [(Str.ofString "self")], [(Str.ofString "self")], f_Store_op⟩,
  ⟨((Str.ofString "Store"), some (Str.ofString "parts")), (Str.ofString "parts"), (Str.ofString "Store.parts"), (inClass (top 23) 2), [(Str.ofString "self")], [(Str.ofString "self")], f_Store_parts⟩,
  ⟨((Str.ofString "Store"), some (Str.ofString "told")), (Str.ofString "told"), (Str.ofString "Store.told"), (inClass (top 23) 3), [(Str.ofString "self")], [(Str.ofString "self")], f_Store_told⟩,
  ⟨((Str.ofString "Store"), some (Str.ofString "reads")), (Str.ofString "reads"), (Str.ofString "Store.reads"), (inClass (top 23) 4), [(Str.ofString "self")], [(Str.ofString "self")], f_Store_reads⟩,
  ⟨((Str.ofString "Store"), some (Str.ofString "reckoned")), (Str.ofString "reckoned"), (Str.ofString "Store.reckoned"), (inClass (top 23) 5), [(Str.ofString "self"), (Str.ofString "words"), (Str.ofString "place")], [(Str.ofString "self"), (Str.ofString "words"), (Str.ofString "place")], f_Store_reckoned⟩,
  ⟨((Str.ofString "Jump"), some (Str.ofString "__init__")), (Str.ofString "__init__"), (Str.ofString "Jump.__init__"), (inClass (top 25) 0), [(Str.ofString "self"), (Str.ofString "n")], [(Str.ofString "self"), (Str.ofString "n")], f_Jump_init⟩,
  ⟨((Str.ofString "Jump"), some (Str.ofString "op")), (Str.ofString "op"), (Str.ofString "Jump.op"), (inClass (top 25) 1), [(Str.ofString "self")], [(Str.ofString "self")], f_Jump_op⟩,
  ⟨((Str.ofString "Jump"), some (Str.ofString "parts")), (Str.ofString "parts"), (Str.ofString "Jump.parts"), (inClass (top 25) 2), [(Str.ofString "self")], [(Str.ofString "self")], f_Jump_parts⟩]
def defs6 : List DefX := [
  ⟨((Str.ofString "Jump"), some (Str.ofString "told")), (Str.ofString "told"), (Str.ofString "Jump.told"), (inClass (top 25) 3), [(Str.ofString "self")], [(Str.ofString "self")], f_Jump_told⟩,
  ⟨((Str.ofString "Jump"), some (Str.ofString "goal")), (Str.ofString "goal"), (Str.ofString "Jump.goal"), (inClass (top 25) 4), [(Str.ofString "self"), (Str.ofString "words"), (Str.ofString "place")], [(Str.ofString "self"), (Str.ofString "words"), (Str.ofString "place")], f_Jump_goal⟩,
  ⟨((Str.ofString "Zero"), some (Str.ofString "__init__")), (Str.ofString "__init__"), (Str.ofString "Zero.__init__"), (inClass (top 26) 0), [(Str.ofString "self"), (Str.ofString "a"), (Str.ofString "n")], [(Str.ofString "self"), (Str.ofString "a"), (Str.ofString "n")], f_Zero_init⟩,
  ⟨((Str.ofString "Zero"), some (Str.ofString "op")), (Str.ofString "op"), (Str.ofString "Zero.op"), (inClass (top 26) 1), [(Str.ofString "self")], [(Str.ofString "self")], f_Zero_op⟩,
  ⟨((Str.ofString "Zero"), some (Str.ofString "parts")), (Str.ofString "parts"), (Str.ofString "Zero.parts"), (inClass (top 26) 2), [(Str.ofString "self")], [(Str.ofString "self")], f_Zero_parts⟩,
  ⟨((Str.ofString "Zero"), some (Str.ofString "told")), (Str.ofString "told"), (Str.ofString "Zero.told"), (inClass (top 26) 3), [(Str.ofString "self")], [(Str.ofString "self")], f_Zero_told⟩,
  ⟨((Str.ofString "Zero"), some (Str.ofString "reads")), (Str.ofString "reads"), (Str.ofString "Zero.reads"), (inClass (top 26) 4), [(Str.ofString "self")], [(Str.ofString "self")], f_Zero_reads⟩,
  ⟨((Str.ofString "Zero"), some (Str.ofString "goal")), (Str.ofString "goal"), (Str.ofString "Zero.goal"), (inClass (top 26) 5), [(Str.ofString "self"), (Str.ofString "words"), (Str.ofString "place")], [(Str.ofString "self"), (Str.ofString "words"), (Str.ofString "place")], f_Zero_goal⟩,
  ⟨((Str.ofString "Link"), some (Str.ofString "__init__")), (Str.ofString "__init__"), (Str.ofString "Link.__init__"), (inClass (top 27) 0), [(Str.ofString "self"), (Str.ofString "a"), (Str.ofString "n")], [(Str.ofString "self"), (Str.ofString "a"), (Str.ofString "n")], f_Link_init⟩,
  ⟨((Str.ofString "Link"), some (Str.ofString "op")), (Str.ofString "op"), (Str.ofString "Link.op"), (inClass (top 27) 1), [(Str.ofString "self")], [(Str.ofString "self")], f_Link_op⟩]
def defs7 : List DefX := [
  ⟨((Str.ofString "Link"), some (Str.ofString "parts")), (Str.ofString "parts"), (Str.ofString "Link.parts"), (inClass (top 27) 2), [(Str.ofString "self")], [(Str.ofString "self")], f_Link_parts⟩,
  ⟨((Str.ofString "Link"), some (Str.ofString "told")), (Str.ofString "told"), (Str.ofString "Link.told"), (inClass (top 27) 3), [(Str.ofString "self")], [(Str.ofString "self")], f_Link_told⟩,
  ⟨((Str.ofString "Link"), some (Str.ofString "named")), (Str.ofString "named"), (Str.ofString "Link.named"), (inClass (top 27) 4), [(Str.ofString "self")], [(Str.ofString "self")], f_Link_named⟩,
  ⟨((Str.ofString "Link"), some (Str.ofString "reckoned")), (Str.ofString "reckoned"), (Str.ofString "Link.reckoned"), (inClass (top 27) 5), [(Str.ofString "self"), (Str.ofString "words"), (Str.ofString "place")], [(Str.ofString "self"), (Str.ofString "words"), (Str.ofString "place")], f_Link_reckoned⟩,
  ⟨((Str.ofString "Link"), some (Str.ofString "goal")), (Str.ofString "goal"), (Str.ofString "Link.goal"), (inClass (top 27) 6), [(Str.ofString "self"), (Str.ofString "words"), (Str.ofString "place")], [(Str.ofString "self"), (Str.ofString "words"), (Str.ofString "place")], f_Link_goal⟩,
  ⟨((Str.ofString "Go"), some (Str.ofString "__init__")), (Str.ofString "__init__"), (Str.ofString "Go.__init__"), (inClass (top 28) 0), [(Str.ofString "self"), (Str.ofString "a")], [(Str.ofString "self"), (Str.ofString "a")], f_Go_init⟩,
  ⟨((Str.ofString "Go"), some (Str.ofString "op")), (Str.ofString "op"), (Str.ofString "Go.op"), (inClass (top 28) 1), [(Str.ofString "self")], [(Str.ofString "self")], f_Go_op⟩,
  ⟨((Str.ofString "Go"), some (Str.ofString "parts")), (Str.ofString "parts"), (Str.ofString "Go.parts"), (inClass (top 28) 2), [(Str.ofString "self")], [(Str.ofString "self")], f_Go_parts⟩,
  ⟨((Str.ofString "Go"), some (Str.ofString "told")), (Str.ofString "told"), (Str.ofString "Go.told"), (inClass (top 28) 3), [(Str.ofString "self")], [(Str.ofString "self")], f_Go_told⟩,
  ⟨((Str.ofString "Go"), some (Str.ofString "reads")), (Str.ofString "reads"), (Str.ofString "Go.reads"), (inClass (top 28) 4), [(Str.ofString "self")], [(Str.ofString "self")], f_Go_reads⟩]
def defs8 : List DefX := [
  ⟨((Str.ofString "Go"), some (Str.ofString "goal")), (Str.ofString "goal"), (Str.ofString "Go.goal"), (inClass (top 28) 5), [(Str.ofString "self"), (Str.ofString "words"), (Str.ofString "place")], [(Str.ofString "self"), (Str.ofString "words"), (Str.ofString "place")], f_Go_goal⟩,
  ⟨((Str.ofString "OfBox"), some (Str.ofString "__init__")), (Str.ofString "__init__"), (Str.ofString "OfBox.__init__"), (inClass (top 30) 0), [(Str.ofString "self"), (Str.ofString "a")], [(Str.ofString "self"), (Str.ofString "a")], f_OfBox_init⟩,
  ⟨((Str.ofString "OfBox"), some (Str.ofString "first")), (Str.ofString "first"), (Str.ofString "OfBox.first"), (inClass (top 30) 1), [(Str.ofString "self")], [(Str.ofString "self")], f_OfBox_first⟩,
  ⟨((Str.ofString "OfBox"), some (Str.ofString "parts")), (Str.ofString "parts"), (Str.ofString "OfBox.parts"), (inClass (top 30) 2), [(Str.ofString "self")], [(Str.ofString "self")], f_OfBox_parts⟩,
  ⟨((Str.ofString "OfBox"), some (Str.ofString "told")), (Str.ofString "told"), (Str.ofString "OfBox.told"), (inClass (top 30) 3), [(Str.ofString "self")], [(Str.ofString "self")], f_OfBox_told⟩,
  ⟨((Str.ofString "OfBox"), some (Str.ofString "station")), (Str.ofString "station"), (Str.ofString "OfBox.station"), (inClass (top 30) 4), [(Str.ofString "self")], [(Str.ofString "self")], f_OfBox_station⟩,
  ⟨((Str.ofString "Ask"), some (Str.ofString "op")), (Str.ofString "op"), (Str.ofString "Ask.op"), (inClass (top 31) 0), [(Str.ofString "self")], [(Str.ofString "self")], f_Ask_op⟩,
  ⟨((Str.ofString "Ask"), some (Str.ofString "first")), (Str.ofString "first"), (Str.ofString "Ask.first"), (inClass (top 31) 1), [(Str.ofString "self")], [(Str.ofString "self")], f_Ask_first⟩,
  ⟨((Str.ofString "Ask"), some (Str.ofString "named")), (Str.ofString "named"), (Str.ofString "Ask.named"), (inClass (top 31) 2), [(Str.ofString "self")], [(Str.ofString "self")], f_Ask_named⟩,
  ⟨((Str.ofString "Tell"), some (Str.ofString "op")), (Str.ofString "op"), (Str.ofString "Tell.op"), (inClass (top 32) 0), [(Str.ofString "self")], [(Str.ofString "self")], f_Tell_op⟩]
def defs9 : List DefX := [
  ⟨((Str.ofString "Tell"), some (Str.ofString "first")), (Str.ofString "first"), (Str.ofString "Tell.first"), (inClass (top 32) 1), [(Str.ofString "self")], [(Str.ofString "self")], f_Tell_first⟩,
  ⟨((Str.ofString "Tell"), some (Str.ofString "reads")), (Str.ofString "reads"), (Str.ofString "Tell.reads"), (inClass (top 32) 2), [(Str.ofString "self")], [(Str.ofString "self")], f_Tell_reads⟩,
  ⟨((Str.ofString "Why"), some (Str.ofString "op")), (Str.ofString "op"), (Str.ofString "Why.op"), (inClass (top 33) 0), [(Str.ofString "self")], [(Str.ofString "self")], f_Why_op⟩,
  ⟨((Str.ofString "Why"), some (Str.ofString "first")), (Str.ofString "first"), (Str.ofString "Why.first"), (inClass (top 33) 1), [(Str.ofString "self")], [(Str.ofString "self")], f_Why_first⟩,
  ⟨((Str.ofString "Why"), some (Str.ofString "named")), (Str.ofString "named"), (Str.ofString "Why.named"), (inClass (top 33) 2), [(Str.ofString "self")], [(Str.ofString "self")], f_Why_named⟩,
  ⟨((Str.ofString "Why"), some (Str.ofString "alone")), (Str.ofString "alone"), (Str.ofString "Why.alone"), (inClass (top 33) 3), [(Str.ofString "self")], [(Str.ofString "self")], f_Why_alone⟩,
  ⟨((Str.ofString "Where"), some (Str.ofString "op")), (Str.ofString "op"), (Str.ofString "Where.op"), (inClass (top 34) 0), [(Str.ofString "self")], [(Str.ofString "self")], f_Where_op⟩,
  ⟨((Str.ofString "Where"), some (Str.ofString "first")), (Str.ofString "first"), (Str.ofString "Where.first"), (inClass (top 34) 1), [(Str.ofString "self")], [(Str.ofString "self")], f_Where_first⟩,
  ⟨((Str.ofString "Where"), some (Str.ofString "named")), (Str.ofString "named"), (Str.ofString "Where.named"), (inClass (top 34) 2), [(Str.ofString "self")], [(Str.ofString "self")], f_Where_named⟩,
  ⟨((Str.ofString "Where"), some (Str.ofString "alone")), (Str.ofString "alone"), (Str.ofString "Where.alone"), (inClass (top 34) 3), [(Str.ofString "self")], [(Str.ofString "self")], f_Where_alone⟩]
def defs10 : List DefX := [
  ⟨((Str.ofString "Aim"), some (Str.ofString "op")), (Str.ofString "op"), (Str.ofString "Aim.op"), (inClass (top 35) 0), [(Str.ofString "self")], [(Str.ofString "self")], f_Aim_op⟩,
  ⟨((Str.ofString "Aim"), some (Str.ofString "first")), (Str.ofString "first"), (Str.ofString "Aim.first"), (inClass (top 35) 1), [(Str.ofString "self")], [(Str.ofString "self")], f_Aim_first⟩,
  ⟨((Str.ofString "Aim"), some (Str.ofString "reads")), (Str.ofString "reads"), (Str.ofString "Aim.reads"), (inClass (top 35) 2), [(Str.ofString "self")], [(Str.ofString "self")], f_Aim_reads⟩,
  ⟨((Str.ofString "Aim"), some (Str.ofString "alone")), (Str.ofString "alone"), (Str.ofString "Aim.alone"), (inClass (top 35) 3), [(Str.ofString "self")], [(Str.ofString "self")], f_Aim_alone⟩,
  ⟨((Str.ofString "Home"), some (Str.ofString "op")), (Str.ofString "op"), (Str.ofString "Home.op"), (inClass (top 36) 0), [(Str.ofString "self")], [(Str.ofString "self")], f_Home_op⟩,
  ⟨((Str.ofString "Home"), some (Str.ofString "told")), (Str.ofString "told"), (Str.ofString "Home.told"), (inClass (top 36) 1), [(Str.ofString "self")], [(Str.ofString "self")], f_Home_told⟩,
  ⟨((Str.ofString "Home"), some (Str.ofString "alone")), (Str.ofString "alone"), (Str.ofString "Home.alone"), (inClass (top 36) 2), [(Str.ofString "self")], [(Str.ofString "self")], f_Home_alone⟩,
  ⟨((Str.ofString "code_of"), none), (Str.ofString "code_of"), (Str.ofString "code_of"), top 39, [(Str.ofString "row"), (Str.ofString "code"), (Str.ofString "low"), (Str.ofString "many"), (Str.ofString "part")], [(Str.ofString "row")], f_code_of⟩,
  ⟨((Str.ofString "reckoning_row"), none), (Str.ofString "reckoning_row"), (Str.ofString "reckoning_row"), top 40, [(Str.ofString "op"), (Str.ofString "a"), (Str.ofString "b"), (Str.ofString "c"), (Str.ofString "n")], [(Str.ofString "op"), (Str.ofString "a"), (Str.ofString "b"), (Str.ofString "c"), (Str.ofString "n")], f_reckoning_row⟩,
  ⟨((Str.ofString "jumping_row"), none), (Str.ofString "jumping_row"), (Str.ofString "jumping_row"), top 41, [(Str.ofString "op"), (Str.ofString "a"), (Str.ofString "n")], [(Str.ofString "op"), (Str.ofString "a"), (Str.ofString "n")], f_jumping_row⟩]
def defs11 : List DefX := [
  ⟨((Str.ofString "other_row"), none), (Str.ofString "other_row"), (Str.ofString "other_row"), top 42, [(Str.ofString "op"), (Str.ofString "a")], [(Str.ofString "op"), (Str.ofString "a")], f_other_row⟩,
  ⟨((Str.ofString "row_by"), none), (Str.ofString "row_by"), (Str.ofString "row_by"), top 43, [(Str.ofString "code"), (Str.ofString "op"), (Str.ofString "a"), (Str.ofString "n")], [(Str.ofString "code")], f_row_by⟩,
  ⟨((Str.ofString "row_of"), none), (Str.ofString "row_of"), (Str.ofString "row_of"), top 44, [(Str.ofString "code"), (Str.ofString "row")], [(Str.ofString "code")], f_row_of⟩,
  ⟨((Str.ofString "is_whole"), none), (Str.ofString "is_whole"), (Str.ofString "is_whole"), top 52, [(Str.ofString "thing"), (Str.ofString "most")], [(Str.ofString "thing"), (Str.ofString "most")], f_is_whole⟩,
  ⟨((Str.ofString "Program"), some (Str.ofString "__init__")), (Str.ofString "__init__"), (Str.ofString "Program.__init__"), (inClass (top 53) 0), [(Str.ofString "self"), (Str.ofString "codes"), (Str.ofString "hall"), (Str.ofString "code")], [(Str.ofString "self"), (Str.ofString "codes"), (Str.ofString "hall")], f_Program_init⟩,
  ⟨((Str.ofString "Program"), some (Str.ofString "row_at")), (Str.ofString "row_at"), (Str.ofString "Program.row_at"), (inClass (top 53) 1), [(Str.ofString "self"), (Str.ofString "place")], [(Str.ofString "self"), (Str.ofString "place")], f_Program_row_at⟩,
  ⟨((Str.ofString "Program"), some (Str.ofString "cause_at")), (Str.ofString "cause_at"), (Str.ofString "Program.cause_at"), (inClass (top 53) 2), [(Str.ofString "self"), (Str.ofString "place")], [(Str.ofString "self"), (Str.ofString "place")], f_Program_cause_at⟩,
  ⟨((Str.ofString "_law_cell"), none), (Str.ofString "_law_cell"), (Str.ofString "_law_cell"), top 55, [(Str.ofString "_law_script"), (Str.ofString "_law_k"), (Str.ofString "_law_cell_here"), (Str.ofString "_law_more")], [(Str.ofString "_law_script"), (Str.ofString "_law_k")], f__law_cell⟩,
  ⟨((Str.ofString "_law_words"), none), (Str.ofString "_law_words"), (Str.ofString "_law_words"), top 56, [(Str.ofString "_law_some")], [], f__law_words⟩,
  ⟨((Str.ofString "_law_shape"), none), (Str.ofString "_law_shape"), (Str.ofString "_law_shape"), top 57, [(Str.ofString "_law_word"), (Str.ofString "_law_at")], [(Str.ofString "_law_word")], f__law_shape⟩]
def defs12 : List DefX := [
  ⟨((Str.ofString "_law_part_by"), none), (Str.ofString "_law_part_by"), (Str.ofString "_law_part_by"), top 58, [(Str.ofString "_law_mark"), (Str.ofString "_law_cell_here")], [(Str.ofString "_law_mark"), (Str.ofString "_law_cell_here")], f__law_part_by⟩,
  ⟨((Str.ofString "_law_told_by"), none), (Str.ofString "_law_told_by"), (Str.ofString "_law_told_by"), top 59, [(Str.ofString "_law_script"), (Str.ofString "_law_k"), (Str.ofString "_law_word"), (Str.ofString "_law_shape_here"), (Str.ofString "_law_parts"), (Str.ofString "_law_j")], [(Str.ofString "_law_script"), (Str.ofString "_law_k")], f__law_told_by⟩,
  ⟨((Str.ofString "_law_code"), none), (Str.ofString "_law_code"), (Str.ofString "_law_code"), top 60, [(Str.ofString "_law_told"), (Str.ofString "_law_shape_here"), (Str.ofString "_law_code_here"), (Str.ofString "_law_j")], [(Str.ofString "_law_told")], f__law_code⟩,
  ⟨((Str.ofString "_law_line"), none), (Str.ofString "_law_line"), (Str.ofString "_law_line"), top 61, [(Str.ofString "_law_told"), (Str.ofString "_law_shape_here"), (Str.ofString "_law_words_here"), (Str.ofString "_law_j")], [(Str.ofString "_law_told")], f__law_line⟩,
  ⟨((Str.ofString "_law_codes"), none), (Str.ofString "_law_codes"), (Str.ofString "_law_codes"), top 62, [(Str.ofString "_law_script"), (Str.ofString "_law_most"), (Str.ofString "_law_many"), (Str.ofString "_law_codes_here"), (Str.ofString "_law_k"), (Str.ofString "_law_more"), (Str.ofString "_law_code_here")], [(Str.ofString "_law_script"), (Str.ofString "_law_most")], f__law_codes⟩,
  ⟨((Str.ofString "_law_hall"), none), (Str.ofString "_law_hall"), (Str.ofString "_law_hall"), top 63, [(Str.ofString "_law_script")], [(Str.ofString "_law_script")], f__law_hall⟩,
  ⟨((Str.ofString "law"), none), (Str.ofString "law"), (Str.ofString "law"), top 64, [(Str.ofString "_law_script"), (Str.ofString "_law_codes_here"), (Str.ofString "_law_hall_here"), (Str.ofString "_law_lines"), (Str.ofString "_law_code_here"), (Str.ofString "_law_row"), (Str.ofString "_law_due"), (Str.ofString "_law_line_here"), (Str.ofString "_law_program"), (Str.ofString "_law_found"), (Str.ofString "_law_other")], [(Str.ofString "_law_script")], f_law⟩]
def ats0 : List Str := [(Str.ofString "a"), (Str.ofString "n"), (Str.ofString "b"), (Str.ofString "word"), (Str.ofString "c"), (Str.ofString "codes"), (Str.ofString "hall"), (Str.ofString "op"), (Str.ofString "parts"), (Str.ofString "told"), (Str.ofString "reads"), (Str.ofString "named"), (Str.ofString "gives"), (Str.ofString "station"), (Str.ofString "known")]
def ats1 : List Str := [(Str.ofString "alone"), (Str.ofString "long"), (Str.ofString "reckoned"), (Str.ofString "goal"), (Str.ofString "first"), (Str.ofString "row_at"), (Str.ofString "cause_at")]
def cls0 : List (Str × Cl) := [
  ⟨(Str.ofString "Row"), ⟨true, none, [], [(7, 9), (8, 10), (9, 11), (10, 12), (11, 13), (12, 14), (13, 15), (14, 16), (15, 17), (16, 18), (17, 19), (18, 20)], [0]⟩⟩,
  ⟨(Str.ofString "Stop"), ⟨true, none, [], [(7, 9), (8, 10), (9, 21), (10, 12), (11, 13), (12, 14), (13, 15), (14, 16), (15, 17), (16, 18), (17, 19), (18, 20)], [1, 0]⟩⟩,
  ⟨(Str.ofString "Num"), ⟨true, some 22, [0, 1], [(7, 23), (8, 24), (9, 25), (10, 12), (11, 26), (12, 14), (13, 15), (14, 16), (15, 17), (16, 18), (17, 27), (18, 20)], [2, 0]⟩⟩,
  ⟨(Str.ofString "Plus"), ⟨true, some 28, [0, 2, 1], [(7, 29), (8, 30), (9, 31), (10, 32), (11, 33), (12, 14), (13, 15), (14, 16), (15, 17), (16, 18), (17, 34), (18, 20)], [3, 0]⟩⟩,
  ⟨(Str.ofString "Pair"), ⟨true, some 35, [3, 0, 2, 4], [(7, 36), (8, 37), (9, 38), (10, 39), (11, 40), (12, 14), (13, 15), (14, 16), (15, 17), (16, 41), (17, 42), (18, 20)], [4, 0]⟩⟩]
def cls1 : List (Str × Cl) := [
  ⟨(Str.ofString "Load"), ⟨true, some 43, [0, 2, 1], [(7, 44), (8, 45), (9, 46), (10, 47), (11, 48), (12, 14), (13, 49), (14, 16), (15, 17), (16, 18), (17, 50), (18, 20)], [5, 0]⟩⟩,
  ⟨(Str.ofString "Store"), ⟨true, some 51, [0, 2, 1], [(7, 52), (8, 53), (9, 54), (10, 55), (11, 13), (12, 14), (13, 15), (14, 16), (15, 17), (16, 18), (17, 56), (18, 20)], [6, 0]⟩⟩,
  ⟨(Str.ofString "Jump"), ⟨true, some 57, [1], [(7, 58), (8, 59), (9, 60), (10, 12), (11, 13), (12, 14), (13, 15), (14, 16), (15, 17), (16, 18), (17, 19), (18, 61)], [7, 0]⟩⟩,
  ⟨(Str.ofString "Zero"), ⟨true, some 62, [0, 1], [(7, 63), (8, 64), (9, 65), (10, 66), (11, 13), (12, 14), (13, 15), (14, 16), (15, 17), (16, 18), (17, 19), (18, 67)], [8, 0]⟩⟩,
  ⟨(Str.ofString "Link"), ⟨true, some 68, [0, 1], [(7, 69), (8, 70), (9, 71), (10, 12), (11, 72), (12, 14), (13, 15), (14, 16), (15, 17), (16, 18), (17, 73), (18, 74)], [9, 0]⟩⟩]
def cls2 : List (Str × Cl) := [
  ⟨(Str.ofString "Go"), ⟨true, some 75, [0], [(7, 76), (8, 77), (9, 78), (10, 79), (11, 13), (12, 14), (13, 15), (14, 16), (15, 17), (16, 18), (17, 19), (18, 80)], [10, 0]⟩⟩,
  ⟨(Str.ofString "OfBox"), ⟨true, some 81, [0], [(7, 9), (8, 83), (9, 84), (10, 12), (11, 13), (12, 14), (13, 85), (14, 16), (15, 17), (16, 18), (17, 19), (18, 20), (19, 82)], [11, 0]⟩⟩,
  ⟨(Str.ofString "Ask"), ⟨true, some 81, [0], [(7, 86), (8, 83), (9, 84), (10, 12), (11, 88), (12, 14), (13, 85), (14, 16), (15, 17), (16, 18), (17, 19), (18, 20), (19, 87)], [12, 11, 0]⟩⟩,
  ⟨(Str.ofString "Tell"), ⟨true, some 81, [0], [(7, 89), (8, 83), (9, 84), (10, 91), (11, 13), (12, 14), (13, 85), (14, 16), (15, 17), (16, 18), (17, 19), (18, 20), (19, 90)], [13, 11, 0]⟩⟩,
  ⟨(Str.ofString "Why"), ⟨true, some 81, [0], [(7, 92), (8, 83), (9, 84), (10, 12), (11, 94), (12, 14), (13, 85), (14, 16), (15, 95), (16, 18), (17, 19), (18, 20), (19, 93)], [14, 11, 0]⟩⟩]
def cls3 : List (Str × Cl) := [
  ⟨(Str.ofString "Where"), ⟨true, some 81, [0], [(7, 96), (8, 83), (9, 84), (10, 12), (11, 98), (12, 14), (13, 85), (14, 16), (15, 99), (16, 18), (17, 19), (18, 20), (19, 97)], [15, 11, 0]⟩⟩,
  ⟨(Str.ofString "Aim"), ⟨true, some 81, [0], [(7, 100), (8, 83), (9, 84), (10, 102), (11, 13), (12, 14), (13, 85), (14, 16), (15, 103), (16, 18), (17, 19), (18, 20), (19, 101)], [16, 11, 0]⟩⟩,
  ⟨(Str.ofString "Home"), ⟨true, none, [], [(7, 104), (8, 10), (9, 105), (10, 12), (11, 13), (12, 14), (13, 15), (14, 16), (15, 106), (16, 18), (17, 19), (18, 20)], [17, 0]⟩⟩,
  ⟨(Str.ofString "Program"), ⟨true, some 114, [5, 6], [(20, 115), (21, 116)], [18]⟩⟩]
def con0 : List (Str × T) := [((Str.ofString "PAIRS"), .tup ([(.str (Str.ofString "add")), (.str (Str.ofString "sub")), (.str (Str.ofString "mul")), (.str (Str.ofString "div")), (.str (Str.ofString "rest")), (.str (Str.ofString "and")), (.str (Str.ofString "or")), (.str (Str.ofString "xor")), (.str (Str.ofString "up")), (.str (Str.ofString "down")), (.str (Str.ofString "low")), (.str (Str.ofString "same"))] : List T)), ((Str.ofString "BOX"), .str (Str.ofString "b")), ((Str.ofString "WORDS"), .tup ([(.str (Str.ofString "add")), (.str (Str.ofString "sub")), (.str (Str.ofString "mul")), (.str (Str.ofString "div")), (.str (Str.ofString "rest")), (.str (Str.ofString "and")), (.str (Str.ofString "or")), (.str (Str.ofString "xor")), (.str (Str.ofString "up")), (.str (Str.ofString "down")), (.str (Str.ofString "low")), (.str (Str.ofString "same"))] : List T)), ((Str.ofString "FIRST_PAIR"), .int 3), ((Str.ofString "LAST_PAIR"), .int 14), ((Str.ofString "MOST_ROWS"), .int 64), ((Str.ofString "MOST_CODE"), .int 16777215), ((Str.ofString "MOST_PLACE"), .int 1023)]
def dcs0 : List (Str × List (Str × T)) := [((Str.ofString "SHAPES"), [((Str.ofString "stop"), .str (Str.ofString "")), ((Str.ofString "num"), .str (Str.ofString "bn")), ((Str.ofString "plus"), .str (Str.ofString "bbs")), ((Str.ofString "load"), .str (Str.ofString "bbs")), ((Str.ofString "store"), .str (Str.ofString "bbs")), ((Str.ofString "jump"), .str (Str.ofString "g")), ((Str.ofString "zero"), .str (Str.ofString "bg")), ((Str.ofString "link"), .str (Str.ofString "bg")), ((Str.ofString "go"), .str (Str.ofString "b")), ((Str.ofString "ask"), .str (Str.ofString "b")), ((Str.ofString "tell"), .str (Str.ofString "b")), ((Str.ofString "why"), .str (Str.ofString "b")), ((Str.ofString "where"), .str (Str.ofString "b")), ((Str.ofString "aim"), .str (Str.ofString "b")), ((Str.ofString "home"), .str (Str.ofString ""))])]
def exc0 : List (Str × List Nat) := [((Str.ofString "MillError"), [0]), ((Str.ofString "NoProgram"), [1, 0])]
def lawD : LawD := ⟨defs0 ++ defs1 ++ defs2 ++ defs3 ++ defs4 ++ defs5 ++ defs6 ++ defs7 ++ defs8 ++ defs9 ++ defs10 ++ defs11 ++ defs12, cls0 ++ cls1 ++ cls2 ++ cls3, con0, ats0 ++ ats1, exc0, [], dcs0⟩
abbrev tab : Tab := lawD.tab
theorem tab__wall : tab.fn 0 = some f__wall := rfl
theorem tab_shape_of : tab.fn 1 = some f_shape_of := rfl
theorem tab_part_text : tab.fn 2 = some f_part_text := rfl
theorem tab_row_text : tab.fn 3 = some f_row_text := rfl
theorem tab_line_at : tab.fn 4 = some f_line_at := rfl
theorem tab_written : tab.fn 5 = some f_written := rfl
theorem tab_bits_of : tab.fn 6 = some f_bits_of := rfl
theorem tab_with_bits : tab.fn 7 = some f_with_bits := rfl
theorem tab_signed : tab.fn 8 = some f_signed := rfl
theorem tab_Row_op : tab.fn 9 = some f_Row_op := rfl
theorem tab_Row_parts : tab.fn 10 = some f_Row_parts := rfl
theorem tab_Row_told : tab.fn 11 = some f_Row_told := rfl
theorem tab_Row_reads : tab.fn 12 = some f_Row_reads := rfl
theorem tab_Row_named : tab.fn 13 = some f_Row_named := rfl
theorem tab_Row_gives : tab.fn 14 = some f_Row_gives := rfl
theorem tab_Row_station : tab.fn 15 = some f_Row_station := rfl
theorem tab_Row_known : tab.fn 16 = some f_Row_known := rfl
theorem tab_Row_alone : tab.fn 17 = some f_Row_alone := rfl
theorem tab_Row_long : tab.fn 18 = some f_Row_long := rfl
theorem tab_Row_reckoned : tab.fn 19 = some f_Row_reckoned := rfl
theorem tab_Row_goal : tab.fn 20 = some f_Row_goal := rfl
theorem tab_Stop_told : tab.fn 21 = some f_Stop_told := rfl
theorem tab_Num_init : tab.fn 22 = some f_Num_init := rfl
theorem tab_Num_op : tab.fn 23 = some f_Num_op := rfl
theorem tab_Num_parts : tab.fn 24 = some f_Num_parts := rfl
theorem tab_Num_told : tab.fn 25 = some f_Num_told := rfl
theorem tab_Num_named : tab.fn 26 = some f_Num_named := rfl
theorem tab_Num_reckoned : tab.fn 27 = some f_Num_reckoned := rfl
theorem tab_Plus_init : tab.fn 28 = some f_Plus_init := rfl
theorem tab_Plus_op : tab.fn 29 = some f_Plus_op := rfl
theorem tab_Plus_parts : tab.fn 30 = some f_Plus_parts := rfl
theorem tab_Plus_told : tab.fn 31 = some f_Plus_told := rfl
theorem tab_Plus_reads : tab.fn 32 = some f_Plus_reads := rfl
theorem tab_Plus_named : tab.fn 33 = some f_Plus_named := rfl
theorem tab_Plus_reckoned : tab.fn 34 = some f_Plus_reckoned := rfl
theorem tab_Pair_init : tab.fn 35 = some f_Pair_init := rfl
theorem tab_Pair_op : tab.fn 36 = some f_Pair_op := rfl
theorem tab_Pair_parts : tab.fn 37 = some f_Pair_parts := rfl
theorem tab_Pair_told : tab.fn 38 = some f_Pair_told := rfl
theorem tab_Pair_reads : tab.fn 39 = some f_Pair_reads := rfl
theorem tab_Pair_named : tab.fn 40 = some f_Pair_named := rfl
theorem tab_Pair_long : tab.fn 41 = some f_Pair_long := rfl
theorem tab_Pair_reckoned : tab.fn 42 = some f_Pair_reckoned := rfl
theorem tab_Load_init : tab.fn 43 = some f_Load_init := rfl
theorem tab_Load_op : tab.fn 44 = some f_Load_op := rfl
theorem tab_Load_parts : tab.fn 45 = some f_Load_parts := rfl
theorem tab_Load_told : tab.fn 46 = some f_Load_told := rfl
theorem tab_Load_reads : tab.fn 47 = some f_Load_reads := rfl
theorem tab_Load_named : tab.fn 48 = some f_Load_named := rfl
theorem tab_Load_station : tab.fn 49 = some f_Load_station := rfl
theorem tab_Load_reckoned : tab.fn 50 = some f_Load_reckoned := rfl
theorem tab_Store_init : tab.fn 51 = some f_Store_init := rfl
theorem tab_Store_op : tab.fn 52 = some f_Store_op := rfl
theorem tab_Store_parts : tab.fn 53 = some f_Store_parts := rfl
theorem tab_Store_told : tab.fn 54 = some f_Store_told := rfl
theorem tab_Store_reads : tab.fn 55 = some f_Store_reads := rfl
theorem tab_Store_reckoned : tab.fn 56 = some f_Store_reckoned := rfl
theorem tab_Jump_init : tab.fn 57 = some f_Jump_init := rfl
theorem tab_Jump_op : tab.fn 58 = some f_Jump_op := rfl
theorem tab_Jump_parts : tab.fn 59 = some f_Jump_parts := rfl
theorem tab_Jump_told : tab.fn 60 = some f_Jump_told := rfl
theorem tab_Jump_goal : tab.fn 61 = some f_Jump_goal := rfl
theorem tab_Zero_init : tab.fn 62 = some f_Zero_init := rfl
theorem tab_Zero_op : tab.fn 63 = some f_Zero_op := rfl
theorem tab_Zero_parts : tab.fn 64 = some f_Zero_parts := rfl
theorem tab_Zero_told : tab.fn 65 = some f_Zero_told := rfl
theorem tab_Zero_reads : tab.fn 66 = some f_Zero_reads := rfl
theorem tab_Zero_goal : tab.fn 67 = some f_Zero_goal := rfl
theorem tab_Link_init : tab.fn 68 = some f_Link_init := rfl
theorem tab_Link_op : tab.fn 69 = some f_Link_op := rfl
theorem tab_Link_parts : tab.fn 70 = some f_Link_parts := rfl
theorem tab_Link_told : tab.fn 71 = some f_Link_told := rfl
theorem tab_Link_named : tab.fn 72 = some f_Link_named := rfl
theorem tab_Link_reckoned : tab.fn 73 = some f_Link_reckoned := rfl
theorem tab_Link_goal : tab.fn 74 = some f_Link_goal := rfl
theorem tab_Go_init : tab.fn 75 = some f_Go_init := rfl
theorem tab_Go_op : tab.fn 76 = some f_Go_op := rfl
theorem tab_Go_parts : tab.fn 77 = some f_Go_parts := rfl
theorem tab_Go_told : tab.fn 78 = some f_Go_told := rfl
theorem tab_Go_reads : tab.fn 79 = some f_Go_reads := rfl
theorem tab_Go_goal : tab.fn 80 = some f_Go_goal := rfl
theorem tab_OfBox_init : tab.fn 81 = some f_OfBox_init := rfl
theorem tab_OfBox_first : tab.fn 82 = some f_OfBox_first := rfl
theorem tab_OfBox_parts : tab.fn 83 = some f_OfBox_parts := rfl
theorem tab_OfBox_told : tab.fn 84 = some f_OfBox_told := rfl
theorem tab_OfBox_station : tab.fn 85 = some f_OfBox_station := rfl
theorem tab_Ask_op : tab.fn 86 = some f_Ask_op := rfl
theorem tab_Ask_first : tab.fn 87 = some f_Ask_first := rfl
theorem tab_Ask_named : tab.fn 88 = some f_Ask_named := rfl
theorem tab_Tell_op : tab.fn 89 = some f_Tell_op := rfl
theorem tab_Tell_first : tab.fn 90 = some f_Tell_first := rfl
theorem tab_Tell_reads : tab.fn 91 = some f_Tell_reads := rfl
theorem tab_Why_op : tab.fn 92 = some f_Why_op := rfl
theorem tab_Why_first : tab.fn 93 = some f_Why_first := rfl
theorem tab_Why_named : tab.fn 94 = some f_Why_named := rfl
theorem tab_Why_alone : tab.fn 95 = some f_Why_alone := rfl
theorem tab_Where_op : tab.fn 96 = some f_Where_op := rfl
theorem tab_Where_first : tab.fn 97 = some f_Where_first := rfl
theorem tab_Where_named : tab.fn 98 = some f_Where_named := rfl
theorem tab_Where_alone : tab.fn 99 = some f_Where_alone := rfl
theorem tab_Aim_op : tab.fn 100 = some f_Aim_op := rfl
theorem tab_Aim_first : tab.fn 101 = some f_Aim_first := rfl
theorem tab_Aim_reads : tab.fn 102 = some f_Aim_reads := rfl
theorem tab_Aim_alone : tab.fn 103 = some f_Aim_alone := rfl
theorem tab_Home_op : tab.fn 104 = some f_Home_op := rfl
theorem tab_Home_told : tab.fn 105 = some f_Home_told := rfl
theorem tab_Home_alone : tab.fn 106 = some f_Home_alone := rfl
theorem tab_code_of : tab.fn 107 = some f_code_of := rfl
theorem tab_reckoning_row : tab.fn 108 = some f_reckoning_row := rfl
theorem tab_jumping_row : tab.fn 109 = some f_jumping_row := rfl
theorem tab_other_row : tab.fn 110 = some f_other_row := rfl
theorem tab_row_by : tab.fn 111 = some f_row_by := rfl
theorem tab_row_of : tab.fn 112 = some f_row_of := rfl
theorem tab_is_whole : tab.fn 113 = some f_is_whole := rfl
theorem tab_Program_init : tab.fn 114 = some f_Program_init := rfl
theorem tab_Program_row_at : tab.fn 115 = some f_Program_row_at := rfl
theorem tab_Program_cause_at : tab.fn 116 = some f_Program_cause_at := rfl
theorem tab__law_cell : tab.fn 117 = some f__law_cell := rfl
theorem tab__law_words : tab.fn 118 = some f__law_words := rfl
theorem tab__law_shape : tab.fn 119 = some f__law_shape := rfl
theorem tab__law_part_by : tab.fn 120 = some f__law_part_by := rfl
theorem tab__law_told_by : tab.fn 121 = some f__law_told_by := rfl
theorem tab__law_code : tab.fn 122 = some f__law_code := rfl
theorem tab__law_line : tab.fn 123 = some f__law_line := rfl
theorem tab__law_codes : tab.fn 124 = some f__law_codes := rfl
theorem tab__law_hall : tab.fn 125 = some f__law_hall := rfl
theorem tab_law : tab.fn 126 = some f_law := rfl
end Rw
namespace Rw
open PySem PySem.Spec PyProof.Rows L2 PySem.W
abbrev iV (i : Int) : Val := .t (.int i)
abbrev bV (b : Bool) : Val := .t (.bl b)
/-! ### instances with one to four fields, made in the empty store and told as trees -/
theorem set_last {S : List Cell} {c c' : Cell} : (S ++ [c]).set S.length c' = S ++ [c'] := by
  rw [List.set_append_right _ _ (Nat.le_refl _)]
  simp
theorem step_setF {tb : Tab} {call : Call} {ss : ISs} {i f : Nat} {e : IE} {env : Env} {S S1 S2 : Store} {a v : Val} (h : dE tb call e env S = .ok v S1) (h0 : env[i]? = some (some a)) (h2 : setFV tb a f v S1 = some S2) :
    dSs tb call (.cons (.setF (.var i) f e) ss) env S = dSs tb call ss env S2 := by
  have h1 : dS tb call (.setF (.var i) f e) env S = .nx env S2 := by
    simp only [dS, h, dE, h0, R.bind_ok, R.st_ok, ofO, h2]
  show (dS tb call _ env S).seq _ = _
  rw [h1]
  rfl
section
variable {c f x1 x2 x3 x4 : Nat} {k : Cl} {S : Store} {v1 v2 v3 v4 : Val} {n : Nat}
theorem setF_new {tb : Tab} {x : Nat} {v : Val} {fs : List (Nat × Val)} (hb : fldB tb c x = true) (hl : fs.length < 1000) : setFV tb (.r S.length) x v (S ++ [.ins c fs]) = some (S ++ [.ins c (putN x v fs)]) := by
  have h := setF_h (tab := tb) (f := x) (v := v) (get_len S (.ins c fs)) hb hl
  rw [set_last] at h
  exact h
theorem putN_len (x : Nat) (v : Val) : ∀ fs : List (Nat × Val), (putN x v fs).length ≤ fs.length + 1
  | [] => by simp [putN]
  | p :: fs => by
    unfold putN
    split
    · simp
    · simp
      exact putN_len x v fs
theorem new1 (hc : tab.cl c = some k) (hi : k.init = some f) (hf : k.frozen = false) (hd : tab.fn f = some ⟨false, 2, 2, [], .cons (.setF (.var 0) x1 (.var 1)) .nil, false⟩) (b1 : fldB tab c x1 = true) :
    newV tab (callF tab (n + 1)) c [v1] S = .ok (.r S.length) (S ++ [.ins c (putN x1 v1 [])]) := by
  have e0 : callF tab (n + 1) f [.r S.length, v1] (S ++ [Cell.ins c []]) = .ok (.t .non) (S ++ [.ins c (putN x1 v1 [])]) := by
    rw [callI _ [some (.r S.length), some v1] hd rfl rfl, step_setF (a := .r S.length) (v := v1) rfl rfl (setF_new b1 (by decide))]
    rfl
  unfold newV
  rw [hc]
  show (match k.init with
    | none => _
    | some f => (callF tab (n + 1) f (.r S.length :: [v1]) (S ++ [Cell.ins c []])).bind fun v S1 => (match v with
      | .t .non => finV k.frozen S.length S1
      | _ => .bad)) = _
  rw [hi]
  show (callF tab (n + 1) f [.r S.length, v1] (S ++ [Cell.ins c []])).bind _ = _
  rw [e0, hf]
  rfl
theorem new2 (hc : tab.cl c = some k) (hi : k.init = some f) (hf : k.frozen = false) (hd : tab.fn f = some ⟨false, 3, 3, [], .cons (.setF (.var 0) x1 (.var 1)) (.cons (.setF (.var 0) x2 (.var 2)) .nil), false⟩) (b1 : fldB tab c x1 = true) (b2 : fldB tab c x2 = true) :
    newV tab (callF tab (n + 1)) c [v1, v2] S = .ok (.r S.length) (S ++ [.ins c (putN x2 v2 (putN x1 v1 []))]) := by
  have l1 := putN_len x1 v1 []
  have e0 : callF tab (n + 1) f [.r S.length, v1, v2] (S ++ [Cell.ins c []]) = .ok (.t .non) (S ++ [.ins c (putN x2 v2 (putN x1 v1 []))]) := by
    rw [callI _ [some (.r S.length), some v1, some v2] hd rfl rfl, step_setF (a := .r S.length) (v := v1) rfl rfl (setF_new b1 (by decide)), step_setF (a := .r S.length) (v := v2) rfl rfl (setF_new b2 (by simp at l1; omega))]
    rfl
  unfold newV
  rw [hc]
  show (match k.init with
    | none => _
    | some f => (callF tab (n + 1) f (.r S.length :: [v1, v2]) (S ++ [Cell.ins c []])).bind fun v S1 => (match v with
      | .t .non => finV k.frozen S.length S1
      | _ => .bad)) = _
  rw [hi]
  show (callF tab (n + 1) f [.r S.length, v1, v2] (S ++ [Cell.ins c []])).bind _ = _
  rw [e0, hf]
  rfl
theorem new3 (hc : tab.cl c = some k) (hi : k.init = some f) (hf : k.frozen = false) (hd : tab.fn f = some ⟨false, 4, 4, [], .cons (.setF (.var 0) x1 (.var 1)) (.cons (.setF (.var 0) x2 (.var 2)) (.cons (.setF (.var 0) x3 (.var 3)) .nil)), false⟩) (b1 : fldB tab c x1 = true) (b2 : fldB tab c x2 = true) (b3 : fldB tab c x3 = true) :
    newV tab (callF tab (n + 1)) c [v1, v2, v3] S = .ok (.r S.length) (S ++ [.ins c (putN x3 v3 (putN x2 v2 (putN x1 v1 [])))]) := by
  have l1 := putN_len x1 v1 []
  have l2 := putN_len x2 v2 (putN x1 v1 [])
  have e0 : callF tab (n + 1) f [.r S.length, v1, v2, v3] (S ++ [Cell.ins c []]) = .ok (.t .non) (S ++ [.ins c (putN x3 v3 (putN x2 v2 (putN x1 v1 [])))]) := by
    rw [callI _ [some (.r S.length), some v1, some v2, some v3] hd rfl rfl, step_setF (a := .r S.length) (v := v1) rfl rfl (setF_new b1 (by decide)), step_setF (a := .r S.length) (v := v2) rfl rfl (setF_new b2 (by simp at l1; omega)), step_setF (a := .r S.length) (v := v3) rfl rfl (setF_new b3 (by simp at l1; omega))]
    rfl
  unfold newV
  rw [hc]
  show (match k.init with
    | none => _
    | some f => (callF tab (n + 1) f (.r S.length :: [v1, v2, v3]) (S ++ [Cell.ins c []])).bind fun v S1 => (match v with
      | .t .non => finV k.frozen S.length S1
      | _ => .bad)) = _
  rw [hi]
  show (callF tab (n + 1) f [.r S.length, v1, v2, v3] (S ++ [Cell.ins c []])).bind _ = _
  rw [e0, hf]
  rfl
theorem new4 (hc : tab.cl c = some k) (hi : k.init = some f) (hf : k.frozen = false) (hd : tab.fn f = some ⟨false, 5, 5, [], .cons (.setF (.var 0) x1 (.var 1)) (.cons (.setF (.var 0) x2 (.var 2)) (.cons (.setF (.var 0) x3 (.var 3)) (.cons (.setF (.var 0) x4 (.var 4)) .nil))), false⟩) (b1 : fldB tab c x1 = true) (b2 : fldB tab c x2 = true) (b3 : fldB tab c x3 = true) (b4 : fldB tab c x4 = true) :
    newV tab (callF tab (n + 1)) c [v1, v2, v3, v4] S = .ok (.r S.length) (S ++ [.ins c (putN x4 v4 (putN x3 v3 (putN x2 v2 (putN x1 v1 []))))]) := by
  have l1 := putN_len x1 v1 []
  have l2 := putN_len x2 v2 (putN x1 v1 [])
  have l3 := putN_len x3 v3 (putN x2 v2 (putN x1 v1 []))
  have e0 : callF tab (n + 1) f [.r S.length, v1, v2, v3, v4] (S ++ [Cell.ins c []]) = .ok (.t .non) (S ++ [.ins c (putN x4 v4 (putN x3 v3 (putN x2 v2 (putN x1 v1 []))))]) := by
    rw [callI _ [some (.r S.length), some v1, some v2, some v3, some v4] hd rfl rfl, step_setF (a := .r S.length) (v := v1) rfl rfl (setF_new b1 (by decide)), step_setF (a := .r S.length) (v := v2) rfl rfl (setF_new b2 (by simp at l1; omega)), step_setF (a := .r S.length) (v := v3) rfl rfl (setF_new b3 (by simp at l1; omega)), step_setF (a := .r S.length) (v := v4) rfl rfl (setF_new b4 (by simp at l1; omega))]
    rfl
  unfold newV
  rw [hc]
  show (match k.init with
    | none => _
    | some f => (callF tab (n + 1) f (.r S.length :: [v1, v2, v3, v4]) (S ++ [Cell.ins c []])).bind fun v S1 => (match v with
      | .t .non => finV k.frozen S.length S1
      | _ => .bad)) = _
  rw [hi]
  show (callF tab (n + 1) f [.r S.length, v1, v2, v3, v4] (S ++ [Cell.ins c []])).bind _ = _
  rw [e0, hf]
  rfl
end
theorem dE_cmpE {tb : Tab} {call : Call} {op : CmpOp} {a b : IE} {env : Env} {S S1 S2 : Store} {x y : Val} (h1 : dE tb call a env S = .ok x S1) (h2 : dE tb call b env S1 = .ok y S2) : dE tb call (.cmp op a b) env S = cmpV op x y S2 := by
  show (dE tb call a env S).bind (fun x S => (dE tb call b env S).bind fun y S => cmpV op x y S) = _
  rw [h1]
  show (dE tb call b env S1).bind _ = _
  rw [h2]
  rfl
theorem dE_ands2 {tb : Tab} {call : Call} {a b : IE} {env : Env} {S S1 S2 : Store} {v : Val} (h1 : dE tb call a env S = .ok (.t (.bl true)) S1) (h2 : dE tb call b env S1 = .ok v S2) : dE tb call (.ands (.cons a (.cons b .nil))) env S = .ok v S2 := by
  show (dE tb call a env S).bind (fun v S => (truV v S).bind fun k S => if k then dAndE tb call (.cons b .nil) env S else .ok v S) = _
  rw [h1]
  exact h2
theorem dB_valE {tb : Tab} {call : Call} {e : IE} {env : Env} {S S1 : Store} {k : Bool} (h : dE tb call e env S = .ok (.t (.bl k)) S1) : dB tb call (.val e) env S = .ok k S1 := by
  show (dE tb call e env S).bind (fun v S => truV v S) = _
  rw [h]
  rfl
theorem dB_ors2 {tb : Tab} {call : Call} {a b : IC} {env : Env} {S S1 S2 : Store} (h1 : dB tb call a env S = .ok false S1) (h2 : dB tb call b env S1 = .ok false S2) : dB tb call (.ors (.cons a (.cons b .nil))) env S = .ok false S2 := by
  show (dB tb call a env S).bind (fun k S => if k then .ok true S else (dB tb call b env S).bind fun k S => if k then .ok true S else .ok false S) = _
  rw [h1]
  show (dB tb call b env S1).bind _ = _
  rw [h2]
  rfl
theorem dB_ors3 {tb : Tab} {call : Call} {a b c : IC} {env : Env} {S S1 S2 S3 : Store} (h1 : dB tb call a env S = .ok false S1) (h2 : dB tb call b env S1 = .ok false S2) (h3 : dB tb call c env S2 = .ok false S3) : dB tb call (.ors (.cons a (.cons b (.cons c .nil)))) env S = .ok false S3 := by
  show (dB tb call a env S).bind (fun k S => if k then .ok true S else (dB tb call b env S).bind fun k S => if k then .ok true S else (dB tb call c env S).bind fun k S => if k then .ok true S else .ok false S) = _
  rw [h1]
  show (dB tb call b env S1).bind _ = _
  rw [h2]
  show (dB tb call c env S2).bind _ = _
  rw [h3]
  rfl
theorem dB_notE {tb : Tab} {call : Call} {a : IC} {env : Env} {S S1 : Store} {k : Bool} (h : dB tb call a env S = .ok k S1) : dB tb call (.not a) env S = .ok (!k) S1 := by
  show (dB tb call a env S).bind (fun k S => .ok (!k) S) = _
  rw [h]
  rfl
end Rw

namespace Rw
open PySem PySem.Spec PyProof.Rows L2 PySem.W
/-! ### the twenty-seven kinds of rows -/
inductive Kd where
  | stop | num | plus | add | sub | mul | div | rest | and_ | or_ | xor_ | up | down | low | same | load | store | jump | zero | link | go | ask | tell | why | where_ | aim | home
def Kd.str : Kd → Str
  | .stop => Str.ofString "stop" | .num => Str.ofString "num" | .plus => Str.ofString "plus"
  | .add => Str.ofString "add" | .sub => Str.ofString "sub" | .mul => Str.ofString "mul" | .div => Str.ofString "div" | .rest => Str.ofString "rest"
  | .and_ => Str.ofString "and" | .or_ => Str.ofString "or" | .xor_ => Str.ofString "xor" | .up => Str.ofString "up" | .down => Str.ofString "down" | .low => Str.ofString "low" | .same => Str.ofString "same"
  | .load => Str.ofString "load" | .store => Str.ofString "store" | .jump => Str.ofString "jump" | .zero => Str.ofString "zero" | .link => Str.ofString "link"
  | .go => Str.ofString "go" | .ask => Str.ofString "ask" | .tell => Str.ofString "tell" | .why => Str.ofString "why" | .where_ => Str.ofString "where" | .aim => Str.ofString "aim" | .home => Str.ofString "home"
/-- what a row tells: its word, then boxes a, b, c or the number n, as its kind has -/
def Kd.told (k : Kd) (a b c n : Int) : T := match k with
  | .stop | .home => .tup [.str k.str]
  | .num | .zero | .link => .tup [.str k.str, .int a, .int n]
  | .plus | .load | .store => .tup [.str k.str, .int a, .int b, .int n]
  | .jump => .tup [.str k.str, .int n]
  | .go | .ask | .tell | .why | .where_ | .aim => .tup [.str k.str, .int a]
  | _ => .tup [.str k.str, .int a, .int b, .int c]
def Kd.row (k : Kd) (a b c n : Int) : T := match k with
  | .stop => .ins 1 []
  | .home => .ins 17 []
  | .num => .ins 2 [(0, .int a), (1, .int n)]
  | .zero => .ins 8 [(0, .int a), (1, .int n)]
  | .link => .ins 9 [(0, .int a), (1, .int n)]
  | .plus => .ins 3 [(0, .int a), (2, .int b), (1, .int n)]
  | .load => .ins 5 [(0, .int a), (2, .int b), (1, .int n)]
  | .store => .ins 6 [(0, .int a), (2, .int b), (1, .int n)]
  | .jump => .ins 7 [(1, .int n)]
  | .go => .ins 10 [(0, .int a)]
  | .ask => .ins 12 [(0, .int a)]
  | .tell => .ins 13 [(0, .int a)]
  | .why => .ins 14 [(0, .int a)]
  | .where_ => .ins 15 [(0, .int a)]
  | .aim => .ins 16 [(0, .int a)]
  | _ => .ins 4 [(3, .str k.str), (0, .int a), (2, .int b), (4, .int c)]
theorem isi_row (k : Kd) (a b c n : Int) : isiV tab [.cls 0] (.t (k.row a b c n)) [] = .ok (.t (.bl true)) [] := by
  cases k <;> rfl
def Kd.rd (k : Kd) (a b c : Int) : List T := match k with
  | .plus | .load => [.int b]
  | .store => [.int a, .int b]
  | .zero | .go | .tell | .aim => [.int a]
  | .stop | .num | .jump | .link | .ask | .why | .where_ | .home => []
  | _ => [.int b, .int c]
end Rw

namespace Rw
open PySem PySem.Spec PyProof.Rows L2 PySem.W
theorem pickI (l : List Int) {i : Int} (h0 : 0 ≤ i) (h1 : i < l.length) : ∃ v ∈ l, atL (l.map T.int) i = some (.int v) := by
  refine ⟨l[i.toNat]'(by omega), List.getElem_mem _, ?_⟩
  rw [atL_nat h0 (by rw [List.length_map]; exact h1), List.getElem?_map, List.getElem?_eq_getElem (by omega)]
  rfl
/-- bounds of a row's boxes and number -/
def Kd.nOk (k : Kd) (n : Int) : Prop := match k with
  | .num | .jump | .zero | .link => 0 ≤ n ∧ n < 1024
  | .plus | .load | .store => -512 ≤ n ∧ n < 512
  | _ => True
structure Kd.ok (k : Kd) (a b c n : Int) : Prop where
  a0 : 0 ≤ a
  a1 : a < 8
  b0 : 0 ≤ b
  b1 : b < 8
  c0 : 0 ≤ c
  c1 : c < 8
  n : k.nOk n
end Rw

namespace Rw
open PySem PySem.Spec PyProof.Rows L2 PySem.W
/-! ### codes -/
def Kd.op (k : Kd) : Int := match k with
  | .stop => 0 | .num => 1 | .plus => 2 | .add => 3 | .sub => 4 | .mul => 5 | .div => 6 | .rest => 7 | .and_ => 8 | .or_ => 9 | .xor_ => 10 | .up => 11 | .down => 12 | .low => 13 | .same => 14
  | .load => 15 | .store => 16 | .jump => 17 | .zero => 18 | .link => 19 | .go => 20 | .ask => 21 | .tell => 22 | .why => 23 | .where_ => 24 | .aim => 25 | .home => 26
def Kd.ofOp (i : Int) : Option Kd := if 0 ≤ i then ([Kd.stop, .num, .plus, .add, .sub, .mul, .div, .rest, .and_, .or_, .xor_, .up, .down, .low, .same, .load, .store, .jump, .zero, .link, .go, .ask, .tell, .why, .where_, .aim, .home])[i.toNat]? else none
/-- a row's code -/
def Kd.code (k : Kd) (a b c n : Int) : Int := 524288 * k.op + match k with
  | .stop | .home => 0
  | .num | .zero | .link => 65536 * a + n
  | .plus | .load | .store => 65536 * a + 8192 * b + n % 1024
  | .jump => n
  | .go | .ask | .tell | .why | .where_ | .aim => 65536 * a
  | _ => 65536 * a + 8192 * b + 1024 * c
/-- so many bits of a number put otherwise -/
def wb (x L M p : Int) : Int := x + (p % M - x / L % M) * L
section
variable (m : Nat) (S : Store)
theorem call_bits (x l k : Int) (L M : Int) (hl : 0 ≤ l) (hk : 0 ≤ k) (hL : L = 2 ^ l.toNat) (hM : M = 2 ^ k.toNat) (hk2 : k < 64) : callF tab (m + 1) 6 [iV x, iV l, iV k] S = .ok (iV (x / L % M)) S := by
  have e0 : callF tab (m + 1) 6 [iV x, iV l, iV k] S = resP (dSs tab (callF tab m) c_bits_of [some (iV x), some (iV l), some (iV k)] []) S := by
    rw [show ([iV x, iV l, iV k] : List Val) = [T.int x, .int l, .int k].map .t from rfl, callQ _ [some (iV x), some (iV l), some (iV k)] tab_bits_of rfl rfl]
  rw [e0]
  unfold c_bits_of
  rw [step_ret (iV (x / L % M)) (S1 := []) (ev_bin (x := iV (x / L)) (y := iV (M - 1)) (S1 := []) (S2 := []) (ev_bin (ev_var rfl) (ev_var rfl) (by rw [binV_int, binI_shr hl, hL]; rfl))
    (ev_bin (ev_bin (x := iV 1) (y := iV k) (S1 := []) (S2 := []) (ev_con _) (ev_var rfl) (by rw [binV_int, binI_shl hk (by omega) (by decide), Int.one_mul, ← hM]; rfl)) (ev_con _) rfl) (by
      show R.ok (iV (Builtin.bitAnd (x / L) (M - 1))) [] = _
      rw [hM, kbt_mask]))]
  rfl
theorem call_with (x l k p : Int) (L M : Int) (hl : 0 ≤ l) (hl2 : l < 1000) (hk : 0 ≤ k) (hL : L = 2 ^ l.toNat) (hM : M = 2 ^ k.toNat) (hk2 : k < 60) (hM0 : 0 < M) (hM2 : M < 1000000000) : callF tab (m + 2) 7 [iV x, iV l, iV k, iV p] S = .ok (iV (wb x L M p)) S := by
  have e0 : callF tab (m + 2) 7 [iV x, iV l, iV k, iV p] S = resP (dSs tab (callF tab (m + 1)) c_with_bits [some (iV x), some (iV l), some (iV k), some (iV p), none] []) S := by
    rw [show ([iV x, iV l, iV k, iV p] : List Val) = [T.int x, .int l, .int k, .int p].map .t from rfl, callQ _ [some (iV x), some (iV l), some (iV k), some (iV p), none] tab_with_bits rfl rfl]
  have cb := call_bits m [] x l k L M hl hk hL hM (by omega)
  have b1 := mod_bd p hM0
  have b2 := mod_bd (x / L) hM0
  rw [e0]
  unfold c_with_bits
  rw [stay_set (iV (x / L % M)) (ev_call (evs_cons (ev_var rfl) (evs_cons (ev_var rfl) (evs_cons (ev_var rfl) evs_nil))) cb)]
  simp only [List.set_cons_succ, List.set_cons_zero]
  rw [step_ret (iV (wb x L M p)) (S1 := []) (ev_bin (x := iV x) (y := iV ((p % M - x / L % M) * L)) (S1 := []) (S2 := []) (ev_var rfl)
    (ev_bin (x := iV (p % M - x / L % M)) (y := iV l) (S1 := []) (S2 := []) (ev_bin (x := iV (p % M)) (y := iV (x / L % M)) (S1 := []) (S2 := []) (ev_bin (x := iV p) (y := iV (M - 1)) (S1 := []) (S2 := []) (ev_var rfl)
      (ev_bin (ev_bin (x := iV 1) (y := iV k) (S1 := []) (S2 := []) (ev_con _) (ev_var rfl) (by rw [binV_int, binI_shl hk (by omega) (by decide), Int.one_mul, ← hM]; rfl)) (ev_con _) rfl) (by
        show R.ok (iV (Builtin.bitAnd p (M - 1))) [] = _
        rw [hM, kbt_mask])) (ev_var rfl) rfl) (ev_var rfl) (by rw [binV_int, binI_shl hl (by omega) (by omega), hL]; rfl)) rfl)]
  rfl
theorem call_signed (x : Int) (h : 0 ≤ x) (h2 : x < 1024) : callF tab (m + 1) 8 [iV x, iV 10] S = .ok (iV (if x < 512 then x else x - 1024)) S := by
  have e0 : callF tab (m + 1) 8 [iV x, iV 10] S = resP (dSs tab (callF tab m) c_signed [some (iV x), some (iV 10)] []) S := by
    rw [show ([iV x, iV 10] : List Val) = [T.int x, .int 10].map .t from rfl, callQ _ [some (iV x), some (iV 10)] tab_signed rfl rfl]
  rw [e0]
  unfold c_signed
  have z : x - x / 512 * 1024 = if x < 512 then x else x - 1024 := by split <;> omega
  rw [step_ret (iV (if x < 512 then x else x - 1024)) (S1 := []) (ev_bin (x := iV x) (y := iV (x / 512 * 1024)) (S1 := []) (S2 := []) (ev_var rfl) (ev_bin (x := iV (x / 512)) (y := iV 10) (S1 := []) (S2 := []) (ev_bin (x := iV x) (y := iV 9) (S1 := []) (S2 := []) (ev_var rfl) (ev_bin (ev_var rfl) (ev_con _) rfl) rfl) (ev_var rfl)
    (by rw [binV_int, binI_shl (by decide) (by decide) (by omega)]; rfl)) (by rw [← z]; rfl))]
  rfl
end
def pts (l : List (Int × Int × Int)) : T := .tup (l.map fun p => .tup [.int p.1, .int p.2.1, .int p.2.2])
/-- a row's parts: the lowest bit, how many, the part -/
def Kd.parts (k : Kd) (a b c n : Int) : List (Int × Int × Int) := match k with
  | .stop | .home => []
  | .num | .zero | .link => [(16, 3, a), (0, 10, n)]
  | .plus | .load | .store => [(16, 3, a), (13, 3, b), (0, 10, n)]
  | .jump => [(0, 10, n)]
  | .go | .ask | .tell | .why | .where_ | .aim => [(16, 3, a)]
  | _ => [(16, 3, a), (13, 3, b), (10, 3, c)]
theorem m_op (m : Nat) (k : Kd) (a b c n : Int) (env : Env) (S : Store) : dE tab (callF tab (m + 2)) (.meth (.var 0) 7 .nil) (some (.t (k.row a b c n)) :: env) S = .ok (iV k.op) S := by
  cases k <;> rfl
theorem m_parts (m : Nat) (k : Kd) (a b c n : Int) (env : Env) (S : Store) : dE tab (callF tab (m + 2)) (.meth (.var 0) 8 .nil) (some (.t (k.row a b c n)) :: env) S = .ok (.t (pts (k.parts a b c n))) S := by
  cases k <;> rfl
def wbs (x : Int) (l : List (Int × Int × Int)) : Int := l.foldl (fun x p => wb x (2 ^ p.1.toNat) (2 ^ p.2.1.toNat) p.2.2) x
theorem code_loop (m : Nat) (r : Option Val) (S : Store) : ∀ (l : List (Int × Int × Int)) (x : Int) (e2 e3 e4 : Option Val), (∀ p ∈ l, 0 ≤ p.1 ∧ p.1 < 100 ∧ 0 ≤ p.2.1 ∧ p.2.1 < 20) →
    ∃ e2' e3' e4', forL none true [2, 3, 4] (fun env S => dSs tab (callF tab (m + 2)) b_code_of_0 env S) (l.map fun (p : Int × Int × Int) => Val.t (.tup [.int p.1, .int p.2.1, .int p.2.2])) [r, some (iV x), e2, e3, e4] S = .nx [r, some (iV (wbs x l)), e2', e3', e4'] S
  | [], x, e2, e3, e4, _ => ⟨e2, e3, e4, rfl⟩
  | p :: l, x, e2, e3, e4, h => by
    obtain ⟨h1, h2, h3, h4⟩ := h p List.mem_cons_self
    obtain ⟨e2', e3', e4', ih⟩ := code_loop m r S l (wb x (2 ^ p.1.toNat) (2 ^ p.2.1.toNat) p.2.2) (some (iV p.1)) (some (iV p.2.1)) (some (iV p.2.2)) fun q hq => h q (List.mem_cons_of_mem _ hq)
    refine ⟨e2', e3', e4', ?_⟩
    have pw : (0 : Int) < 2 ^ p.2.1.toNat := Int.pow_pos (by decide)
    have pw2 : (2 : Int) ^ p.2.1.toNat < 1000000000 := by
      have z : (2 : Nat) ^ p.2.1.toNat ≤ 2 ^ 20 := Nat.pow_le_pow_right (by decide) (by omega)
      have e : ((2 ^ p.2.1.toNat : Nat) : Int) = (2 : Int) ^ p.2.1.toNat := by norm_cast
      omega
    have cw := call_with m S x p.1 p.2.1 p.2.2 _ _ h1 (by omega) h3 rfl rfl (by omega) pw pw2
    rw [List.map_cons, forL_cons (okW_none S)]
    show (match dSs tab (callF tab (m + 2)) b_code_of_0 [r, some (iV x), some (iV p.1), some (iV p.2.1), some (iV p.2.2)] S with
      | .nx env2 S2 => forL none true [2, 3, 4] (fun env S => dSs tab (callF tab (m + 2)) b_code_of_0 env S) (l.map fun (p : Int × Int × Int) => Val.t (.tup [.int p.1, .int p.2.1, .int p.2.2])) env2 S2
      | .ct env2 S2 => forL none true [2, 3, 4] (fun env S => dSs tab (callF tab (m + 2)) b_code_of_0 env S) (l.map fun (p : Int × Int × Int) => Val.t (.tup [.int p.1, .int p.2.1, .int p.2.2])) env2 S2
      | .bk env2 S2 => .nx env2 S2
      | m => m) = _
    rw [show dSs tab (callF tab (m + 2)) b_code_of_0 [r, some (iV x), some (iV p.1), some (iV p.2.1), some (iV p.2.2)] S = .nx [r, some (iV (wb x (2 ^ p.1.toNat) (2 ^ p.2.1.toNat) p.2.2)), some (iV p.1), some (iV p.2.1), some (iV p.2.2)] S from by
      unfold b_code_of_0
      rw [stay_set _ (ev_call (evs_cons (ev_var rfl) (evs_cons (ev_var rfl) (evs_cons (ev_var rfl) (evs_cons (ev_var rfl) evs_nil)))) cw)]
      rfl]
    exact ih
theorem parts_ok (k : Kd) (a b c n : Int) : ∀ p ∈ k.parts a b c n, 0 ≤ p.1 ∧ p.1 < 100 ∧ 0 ≤ p.2.1 ∧ p.2.1 < 20 := by
  have h : (k.parts a b c n).all (fun p => decide (0 ≤ p.1) && (decide (p.1 < 100) && (decide (0 ≤ p.2.1) && decide (p.2.1 < 20)))) = true := by cases k <;> rfl
  intro p hp
  have z := List.all_eq_true.mp h p hp
  simp only [Bool.and_eq_true, decide_eq_true_eq] at z
  exact z
/-- what the program makes a row's code, bits put by bits -/
def Kd.codeP (k : Kd) (a b c n : Int) : Int := wbs (wb 0 524288 32 k.op) (k.parts a b c n)
theorem call_code_ofP (m : Nat) (k : Kd) (a b c n : Int) (S : Store) : callF tab (m + 4) 107 [.t (k.row a b c n)] S = .ok (iV (k.codeP a b c n)) S := by
  have e0 : callF tab (m + 4) 107 [.t (k.row a b c n)] S = resP (dSs tab (callF tab (m + 3)) c_code_of [some (.t (k.row a b c n)), none, none, none, none] []) S := by
    rw [show ([.t (k.row a b c n)] : List Val) = [k.row a b c n].map .t from rfl, callQ _ [some (.t (k.row a b c n)), none, none, none, none] tab_code_of rfl rfl]
  have cw := call_with (m + 1) [] 0 19 5 k.op 524288 32 (by decide) (by decide) (by decide) rfl rfl (by decide) (by decide) (by decide)
  obtain ⟨e2, e3, e4, hf⟩ := code_loop (m + 1) (some (.t (k.row a b c n))) [] (k.parts a b c n) (wb 0 524288 32 k.op) none none none (parts_ok k a b c n)
  rw [e0]
  unfold c_code_of
  rw [stay_set (iV (wb 0 524288 32 k.op)) (ev_call (evs_cons (ev_con _) (evs_cons (ev_con _) (evs_cons (ev_con _) (evs_cons (m_op (m + 1) k a b c n _ _) evs_nil)))) cw)]
  simp only [List.set_cons_succ, List.set_cons_zero]
  rw [step_for (vs := [.t (pts (k.parts a b c n))]) (its := (k.parts a b c n).map fun (p : Int × Int × Int) => Val.t (.tup [.int p.1, .int p.2.1, .int p.2.2])) (w := none) (S1 := []) (S2 := []) (evs_cons (m_parts (m + 1) k a b c n _ _) evs_nil) (by
    show R.ok (((k.parts a b c n).map fun p => T.tup [.int p.1, .int p.2.1, .int p.2.2]).map Val.t, none) [] = _
    rw [List.map_map]; rfl), hf, seq_nx, step_ret _ (ev_var rfl)]
  rfl
theorem wb_put {x L M p : Int} (h : x / L % M = 0) (h0 : 0 ≤ p) (h1 : p < M) : wb x L M p = x + p * L := by
  unfold wb
  rw [h, Int.emod_eq_of_lt h0 h1, Int.sub_zero]
theorem wb_neg {x p : Int} (h : x % 1024 = 0) : wb x 1 1024 p = x + p % 1024 := by
  unfold wb
  omega
theorem code_eq {k : Kd} {a b c n : Int} (h : k.ok a b c n) : k.codeP a b c n = k.code a b c n := by
  obtain ⟨a0, a1, b0, b1, c0, c1, hn⟩ := h
  have key0 : ∀ o : Int, 0 ≤ o → o < 32 → wb 0 524288 32 o = 524288 * o := fun o h0 h1 => by
    rw [wb_put (by decide) h0 h1]
    omega
  have keyA : ∀ o : Int, wb (524288 * o) 65536 8 a = 524288 * o + a * 65536 := fun o => wb_put (by omega) a0 a1
  have keyB : ∀ o : Int, wb (524288 * o + a * 65536) 8192 8 b = 524288 * o + a * 65536 + b * 8192 := fun o => wb_put (by omega) b0 b1
  have keyC : ∀ o : Int, wb (524288 * o + a * 65536 + b * 8192) 1024 8 c = 524288 * o + a * 65536 + b * 8192 + c * 1024 := fun o => wb_put (by omega) c0 c1
  have keyN : ∀ o : Int, wb (524288 * o + a * 65536 + b * 8192) 1 1024 n = 524288 * o + a * 65536 + b * 8192 + n % 1024 := fun o => wb_neg (by omega)
  have keyM : ∀ o : Int, wb (524288 * o + a * 65536) 1 1024 n = 524288 * o + a * 65536 + n % 1024 := fun o => wb_neg (by omega)
  have keyJ : ∀ o : Int, wb (524288 * o) 1 1024 n = 524288 * o + n % 1024 := fun o => wb_neg (by omega)
  cases k
  case stop | home => rfl
  case num | zero | link =>
    have hn : 0 ≤ n ∧ n < 1024 := hn
    show wb (wb (wb 0 524288 32 _) 65536 8 a) 1 1024 n = 524288 * _ + (65536 * a + n)
    rw [key0 _ (by decide) (by decide), keyA, keyM, Int.emod_eq_of_lt hn.1 hn.2, Int.mul_comm 65536 a, Int.add_assoc]
  case plus | load | store =>
    show wb (wb (wb (wb 0 524288 32 _) 65536 8 a) 8192 8 b) 1 1024 n = 524288 * _ + (65536 * a + 8192 * b + n % 1024)
    rw [key0 _ (by decide) (by decide), keyA, keyB, keyN, Int.mul_comm 65536 a, Int.mul_comm 8192 b, Int.add_assoc, Int.add_assoc, Int.add_assoc]
  case jump =>
    have hn : 0 ≤ n ∧ n < 1024 := hn
    show wb (wb 0 524288 32 _) 1 1024 n = 524288 * _ + n
    rw [key0 _ (by decide) (by decide), keyJ, Int.emod_eq_of_lt hn.1 hn.2]
  case go | ask | tell | why | where_ | aim =>
    show wb (wb 0 524288 32 _) 65536 8 a = 524288 * _ + 65536 * a
    rw [key0 _ (by decide) (by decide), keyA, Int.mul_comm 65536 a]
  all_goals
    show wb (wb (wb (wb 0 524288 32 _) 65536 8 a) 8192 8 b) 1024 8 c = 524288 * _ + (65536 * a + 8192 * b + 1024 * c)
    rw [key0 _ (by decide) (by decide), keyA, keyB, keyC, Int.mul_comm 65536 a, Int.mul_comm 8192 b, Int.mul_comm 1024 c, Int.add_assoc, Int.add_assoc, Int.add_assoc]
theorem call_code_of (m : Nat) (k : Kd) (a b c n : Int) (h : k.ok a b c n) (S : Store) : callF tab (m + 4) 107 [.t (k.row a b c n)] S = .ok (iV (k.code a b c n)) S := by
  rw [call_code_ofP, code_eq h]
/-- the row of a code's bits, right or not -/
def rowT (op a b c n : Int) : T := match Kd.ofOp op with
  | some k => k.row a b c (match k with
    | .plus | .load | .store => if n < 512 then n else n - 1024
    | _ => n)
  | none => .non
theorem call_reckoning (m : Nat) (op a b c n : Int) (h0 : 0 ≤ op) (h1 : op ≤ 16) (n0 : 0 ≤ n) (n1 : n < 1024) : callF tab (m + 4) 108 [iV op, iV a, iV b, iV c, iV n] [] = .ok (.t (rowT op a b c n)) [] := by
  have cs := call_signed (m + 2) [] n n0 n1
  have e0 : callF tab (m + 4) 108 [iV op, iV a, iV b, iV c, iV n] [] = resP (dSs tab (callF tab (m + 3)) c_reckoning_row [some (iV op), some (iV a), some (iV b), some (iV c), some (iV n)] []) [] := by
    rw [show ([iV op, iV a, iV b, iV c, iV n] : List Val) = [T.int op, .int a, .int b, .int c, .int n].map .t from rfl, callQ _ [some (iV op), some (iV a), some (iV b), some (iV c), some (iV n)] tab_reckoning_row rfl rfl]
  rcases (by omega : op = 0 ∨ op = 1 ∨ op = 2 ∨ op = 3 ∨ op = 4 ∨ op = 5 ∨ op = 6 ∨ op = 7 ∨ op = 8 ∨ op = 9 ∨ op = 10 ∨ op = 11 ∨ op = 12 ∨ op = 13 ∨ op = 14 ∨ op = 15 ∨ op = 16) with rfl | rfl | rfl | rfl | rfl | rfl | rfl | rfl | rfl | rfl | rfl | rfl | rfl | rfl | rfl | rfl | rfl
  case inr.inr.inl =>
    rw [e0]
    unfold c_reckoning_row
    rw [stay_ifF rfl, stay_ifF rfl, stay_if true rfl, if_pos rfl, step_ret (.t (rowT 2 a b c n)) (S1 := [.dead]) (ev_new (evs_cons (ev_var rfl) (evs_cons (ev_var rfl) (evs_cons (ev_call (evs_cons (ev_var rfl) (evs_cons (ev_con _) evs_nil)) cs) evs_nil))) rfl)]
    rfl
  case inr.inr.inr.inr.inr.inr.inr.inr.inr.inr.inr.inr.inr.inr.inr.inl =>
    rw [e0]
    unfold c_reckoning_row
    rw [stay_ifF rfl, stay_ifF rfl, stay_ifF rfl, stay_ifF rfl, stay_if true rfl, if_pos rfl, step_ret (.t (rowT 15 a b c n)) (S1 := [.dead]) (ev_new (evs_cons (ev_var rfl) (evs_cons (ev_var rfl) (evs_cons (ev_call (evs_cons (ev_var rfl) (evs_cons (ev_con _) evs_nil)) cs) evs_nil))) rfl)]
    rfl
  case inr.inr.inr.inr.inr.inr.inr.inr.inr.inr.inr.inr.inr.inr.inr.inr =>
    rw [e0]
    unfold c_reckoning_row
    rw [stay_ifF rfl, stay_ifF rfl, stay_ifF rfl, stay_ifF rfl, stay_ifF rfl, step_ret (.t (rowT 16 a b c n)) (S1 := [.dead]) (ev_new (evs_cons (ev_var rfl) (evs_cons (ev_var rfl) (evs_cons (ev_call (evs_cons (ev_var rfl) (evs_cons (ev_con _) evs_nil)) cs) evs_nil))) rfl)]
    rfl
  all_goals rfl
theorem call_jumping (m : Nat) (op a n : Int) (h0 : 17 ≤ op) (h1 : op ≤ 20) : callF tab (m + 3) 109 [iV op, iV a, iV n] [] = .ok (.t (rowT op a 0 0 n)) [] := by
  rcases (by omega : op = 17 ∨ op = 18 ∨ op = 19 ∨ op = 20) with rfl | rfl | rfl | rfl <;> rfl
theorem call_other (m : Nat) (op a : Int) (h0 : 21 ≤ op) (h1 : op < 32) : callF tab (m + 3) 110 [iV op, iV a] [] = .ok (.t (rowT op a 0 0 0)) [] := by
  rcases (by omega : op = 21 ∨ op = 22 ∨ op = 23 ∨ op = 24 ∨ op = 25 ∨ op = 26 ∨ op = 27 ∨ op = 28 ∨ op = 29 ∨ op = 30 ∨ op = 31) with rfl | rfl | rfl | rfl | rfl | rfl | rfl | rfl | rfl | rfl | rfl <;> rfl
theorem rowT_j (op a b c n : Int) (h0 : 17 ≤ op) (h1 : op ≤ 20) : rowT op a b c n = rowT op a 0 0 n := by
  rcases (by omega : op = 17 ∨ op = 18 ∨ op = 19 ∨ op = 20) with rfl | rfl | rfl | rfl <;> rfl
theorem rowT_o (op a b c n : Int) (h0 : 21 ≤ op) (h1 : op < 32) : rowT op a b c n = rowT op a 0 0 0 := by
  rcases (by omega : op = 21 ∨ op = 22 ∨ op = 23 ∨ op = 24 ∨ op = 25 ∨ op = 26 ∨ op = 27 ∨ op = 28 ∨ op = 29 ∨ op = 30 ∨ op = 31) with rfl | rfl | rfl | rfl | rfl | rfl | rfl | rfl | rfl | rfl | rfl <;> rfl
/-- by a code's bits -/
def rowC (x : Int) : T := rowT (x / 524288 % 32) (x / 65536 % 8) (x / 8192 % 8) (x / 1024 % 8) (x % 1024)
theorem call_row_by (m : Nat) (x : Int) (S : Store) : callF tab (m + 5) 111 [iV x] S = .ok (.t (rowC x)) S := by
  have e0 : callF tab (m + 5) 111 [iV x] S = resP (dSs tab (callF tab (m + 4)) c_row_by [some (iV x), none, none, none] []) S := by
    rw [show ([iV x] : List Val) = [T.int x].map .t from rfl, callQ _ [some (iV x), none, none, none] tab_row_by rfl rfl]
  have b1 := call_bits (m + 3) [] x 19 5 524288 32 (by decide) (by decide) rfl rfl (by decide)
  have b2 := call_bits (m + 3) [] x 16 3 65536 8 (by decide) (by decide) rfl rfl (by decide)
  have b3 := call_bits (m + 3) [] x 0 10 1 1024 (by decide) (by decide) rfl rfl (by decide)
  have b4 := call_bits (m + 3) [] x 13 3 8192 8 (by decide) (by decide) rfl rfl (by decide)
  have b5 := call_bits (m + 3) [] x 10 3 1024 8 (by decide) (by decide) rfl rfl (by decide)
  rw [show x / 1 % 1024 = x % 1024 by omega] at b3
  have m32 := mod_bd (x / 524288) (j := 32) (by decide)
  have m1k := mod_bd x (j := 1024) (by decide)
  rw [e0]
  unfold c_row_by
  rw [stay_set _ (ev_call (evs_cons (ev_var rfl) (evs_cons (ev_con _) (evs_cons (ev_con _) evs_nil))) b1)]
  simp only [List.set_cons_succ, List.set_cons_zero]
  rw [stay_set _ (ev_call (evs_cons (ev_var rfl) (evs_cons (ev_con _) (evs_cons (ev_con _) evs_nil))) b2)]
  simp only [List.set_cons_succ, List.set_cons_zero]
  rw [stay_set _ (ev_call (evs_cons (ev_var rfl) (evs_cons (ev_con _) (evs_cons (ev_con _) evs_nil))) b3)]
  simp only [List.set_cons_succ, List.set_cons_zero]
  unfold rowC
  generalize x / 524288 % 32 = op at *
  rw [stay_if (decide (op ≤ 16)) (evB_val (ev_cmp (ev_var rfl) (ev_con _) rfl))]
  by_cases h1 : op ≤ 16
  · have cr := call_reckoning m op (x / 65536 % 8) (x / 8192 % 8) (x / 1024 % 8) (x % 1024) m32.1 h1 m1k.1 m1k.2
    rw [decide_eq_true h1, if_pos rfl, step_ret _ (ev_call (evs_cons (ev_var rfl) (evs_cons (ev_var rfl) (evs_cons (ev_call (evs_cons (ev_var rfl) (evs_cons (ev_con _) (evs_cons (ev_con _) evs_nil))) b4) (evs_cons (ev_call (evs_cons (ev_var rfl) (evs_cons (ev_con _) (evs_cons (ev_con _) evs_nil))) b5) (evs_cons (ev_var rfl) evs_nil))))) cr)]
    rfl
  · rw [decide_eq_false h1, if_neg Bool.false_ne_true, dSs_nil, seq_nx, stay_if (decide (op ≤ 20)) (evB_val (ev_cmp (ev_var rfl) (ev_con _) rfl))]
    by_cases h2 : op ≤ 20
    · have cj := call_jumping (m + 1) op (x / 65536 % 8) (x % 1024) (by omega) h2
      rw [decide_eq_true h2, if_pos rfl, step_ret _ (ev_call (evs_cons (ev_var rfl) (evs_cons (ev_var rfl) (evs_cons (ev_var rfl) evs_nil))) cj), rowT_j op (x / 65536 % 8) (x / 8192 % 8) (x / 1024 % 8) (x % 1024) (by omega) h2]
      rfl
    · have co := call_other (m + 1) op (x / 65536 % 8) (by omega) m32.2
      rw [decide_eq_false h2, if_neg Bool.false_ne_true, dSs_nil, seq_nx, step_ret _ (ev_call (evs_cons (ev_var rfl) (evs_cons (ev_var rfl) evs_nil)) co), rowT_o op (x / 65536 % 8) (x / 8192 % 8) (x / 1024 % 8) (x % 1024) (by omega) m32.2]
      rfl
theorem row_cases (op a b c n : Int) : rowT op a b c n = .non ∨ ∃ k n', Kd.ofOp op = some k ∧ rowT op a b c n = k.row a b c n' := by
  unfold rowT
  cases Kd.ofOp op with
  | none => exact .inl rfl
  | some k => exact .inr ⟨k, _, rfl, rfl⟩
end Rw

namespace Rw
open PySem PySem.Spec PyProof.Rows L2 PySem.W
theorem code_bd {k : Kd} {a b c n : Int} (h : k.ok a b c n) : 0 ≤ k.code a b c n ∧ k.code a b c n < 16777216 := by
  obtain ⟨a0, a1, b0, b1, c0, c1, hn⟩ := h
  cases k <;> simp only [Kd.code, Kd.op, Kd.nOk] at hn ⊢ <;> omega
end Rw

namespace Rw
open PySem PySem.Spec PyProof.Rows L2 PySem.W
/-! ### data that are alike -/
theorem pys_flat : ∀ xs : List T, xs.all flatT = true → ∃ ds, T.pys xs = some ds ∧ PyData.depthAll ds = 0
  | [], _ => ⟨[], rfl, rfl⟩
  | x :: xs, h => by
    rw [List.all_cons, Bool.and_eq_true] at h
    obtain ⟨ds, e1, e2⟩ := pys_flat xs h.2
    cases x with
    | int i => exact ⟨.int i :: ds, by show (T.pys xs).map (PyData.int i :: ·) = _; rw [e1]; rfl, by show max 0 (PyData.depthAll ds) = 0; rw [e2]; rfl⟩
    | str s => exact ⟨.str s :: ds, by show (T.pys xs).map (PyData.str s :: ·) = _; rw [e1]; rfl, by show max 0 (PyData.depthAll ds) = 0; rw [e2]; rfl⟩
    | _ => cases h.1
theorem eq_flat (xs : List T) (h : xs.all flatT = true) : eqT (.tup xs) (.tup xs) = some true := by
  obtain ⟨ds, e1, e2⟩ := pys_flat xs h
  refine eqT_refl (d := .tuple ds) (by show (T.pys xs).map PyData.tuple = _; rw [e1]; rfl) ?_
  show PyData.depthAll ds + 1 ≤ 60
  omega
theorem ceq (xs : List T) (h : xs.all flatT = true) : cmpV .Eq (.t (.tup xs)) (.t (.tup xs)) [] = .ok (.t (.bl true)) [] := by
  show ofT ((eqT (.tup xs) (.tup xs)).map .bl) [] = _
  rw [eq_flat xs h]
  rfl
theorem ceqI (i : Int) : cmpV .Eq (iV i) (iV i) [] = .ok (.t (.bl true)) [] := by
  show ofT ((eqT (.int i) (.int i)).map .bl) [] = _
  rw [show eqT (.int i) (.int i) = some true from eqT_refl (d := .int i) rfl (by show 0 ≤ 60; decide)]
  rfl
def Kd.ts (k : Kd) (a b c n : Int) : List T := match k.told a b c n with
  | .tup xs => xs
  | _ => []
theorem told_ts (k : Kd) (a b c n : Int) : k.told a b c n = .tup (k.ts a b c n) := by cases k <;> rfl
theorem ceqK (k : Kd) (a b c n : Int) : cmpV .Eq (.t (k.told a b c n)) (.t (k.told a b c n)) [] = .ok (.t (.bl true)) [] := by
  rw [told_ts]
  exact ceq _ (by cases k <;> rfl)
end Rw

namespace Rw
open PySem PySem.Spec PyProof.Rows L2 PySem.W
section
variable (m : Nat) (k : Kd) (a b c n : Int) {env : Env} {i : Nat}
theorem m_told (h : env[i]? = some (some (.t (k.row a b c n)))) : dE tab (callF tab (m + 3)) (.meth (.var i) 9 .nil) env [] = .ok (.t (k.told a b c n)) [] := by
  show R.bind (dE tab (callF tab (m + 3)) (.var i) env []) (fun x S => R.bind (methV tab 9 1 x S) fun g S => callF tab (m + 3) g [x] S) = _
  rw [ev_var h]
  cases k <;> rfl
end
end Rw

namespace Rw
open PySem PySem.Spec PyProof.Rows L2 PySem.W
theorem ofOp_op (k : Kd) : Kd.ofOp k.op = some k := by cases k <;> rfl
/-- a right row's bits -/
theorem rowC_code {k : Kd} {a b c n : Int} (h : k.ok a b c n) : rowC (k.code a b c n) = k.row a b c n := by
  obtain ⟨a0, a1, b0, b1, c0, c1, hn⟩ := h
  have key : ∀ (x op a' b' c' n' : Int), x / 524288 % 32 = op → x / 65536 % 8 = a' → x / 8192 % 8 = b' → x / 1024 % 8 = c' → x % 1024 = n' → rowC x = rowT op a' b' c' n' := by
    intro x op a' b' c' n' h1 h2 h3 h4 h5
    unfold rowC
    rw [h1, h2, h3, h4, h5]
  cases k <;> simp only [Kd.code, Kd.op, Kd.nOk] at hn ⊢
  case plus =>
    rw [key _ 2 a b ((n % 1024 + 8192 * b) / 1024 % 8) (n % 1024) (by omega) (by omega) (by omega) (by omega) (by omega)]
    show Kd.row .plus a b 0 (if n % 1024 < 512 then n % 1024 else n % 1024 - 1024) = _
    rw [show (if n % 1024 < 512 then n % 1024 else n % 1024 - 1024) = n by split <;> omega]
    rfl
  case load =>
    rw [key _ 15 a b ((n % 1024 + 8192 * b) / 1024 % 8) (n % 1024) (by omega) (by omega) (by omega) (by omega) (by omega)]
    show Kd.row .load a b 0 (if n % 1024 < 512 then n % 1024 else n % 1024 - 1024) = _
    rw [show (if n % 1024 < 512 then n % 1024 else n % 1024 - 1024) = n by split <;> omega]
    rfl
  case store =>
    rw [key _ 16 a b ((n % 1024 + 8192 * b) / 1024 % 8) (n % 1024) (by omega) (by omega) (by omega) (by omega) (by omega)]
    show Kd.row .store a b 0 (if n % 1024 < 512 then n % 1024 else n % 1024 - 1024) = _
    rw [show (if n % 1024 < 512 then n % 1024 else n % 1024 - 1024) = n by split <;> omega]
    rfl
  case stop => rfl
  case home => rfl
  case num => rw [key _ 1 a 0 0 n (by omega) (by omega) (by omega) (by omega) (by omega)]; rfl
  case zero => rw [key _ 18 a 0 0 n (by omega) (by omega) (by omega) (by omega) (by omega)]; rfl
  case link => rw [key _ 19 a 0 0 n (by omega) (by omega) (by omega) (by omega) (by omega)]; rfl
  case jump => rw [key _ 17 0 0 0 n (by omega) (by omega) (by omega) (by omega) (by omega)]; rfl
  case go => rw [key _ 20 a 0 0 0 (by omega) (by omega) (by omega) (by omega) (by omega)]; rfl
  case ask => rw [key _ 21 a 0 0 0 (by omega) (by omega) (by omega) (by omega) (by omega)]; rfl
  case tell => rw [key _ 22 a 0 0 0 (by omega) (by omega) (by omega) (by omega) (by omega)]; rfl
  case why => rw [key _ 23 a 0 0 0 (by omega) (by omega) (by omega) (by omega) (by omega)]; rfl
  case where_ => rw [key _ 24 a 0 0 0 (by omega) (by omega) (by omega) (by omega) (by omega)]; rfl
  case aim => rw [key _ 25 a 0 0 0 (by omega) (by omega) (by omega) (by omega) (by omega)]; rfl
  case add => rw [key _ 3 a b c 0 (by omega) (by omega) (by omega) (by omega) (by omega)]; rfl
  case sub => rw [key _ 4 a b c 0 (by omega) (by omega) (by omega) (by omega) (by omega)]; rfl
  case mul => rw [key _ 5 a b c 0 (by omega) (by omega) (by omega) (by omega) (by omega)]; rfl
  case div => rw [key _ 6 a b c 0 (by omega) (by omega) (by omega) (by omega) (by omega)]; rfl
  case rest => rw [key _ 7 a b c 0 (by omega) (by omega) (by omega) (by omega) (by omega)]; rfl
  case and_ => rw [key _ 8 a b c 0 (by omega) (by omega) (by omega) (by omega) (by omega)]; rfl
  case or_ => rw [key _ 9 a b c 0 (by omega) (by omega) (by omega) (by omega) (by omega)]; rfl
  case xor_ => rw [key _ 10 a b c 0 (by omega) (by omega) (by omega) (by omega) (by omega)]; rfl
  case up => rw [key _ 11 a b c 0 (by omega) (by omega) (by omega) (by omega) (by omega)]; rfl
  case down => rw [key _ 12 a b c 0 (by omega) (by omega) (by omega) (by omega) (by omega)]; rfl
  case low => rw [key _ 13 a b c 0 (by omega) (by omega) (by omega) (by omega) (by omega)]; rfl
  case same => rw [key _ 14 a b c 0 (by omega) (by omega) (by omega) (by omega) (by omega)]; rfl
theorem row_non (k : Kd) (a b c n : Int) : isNon (k.row a b c n) = false := by cases k <;> rfl
theorem call_row_of (m : Nat) {k : Kd} {a b c n : Int} (h : k.ok a b c n) (S : Store) : callF tab (m + 6) 112 [iV (k.code a b c n)] S = .ok (.t (k.row a b c n)) S := by
  have e0 : callF tab (m + 6) 112 [iV (k.code a b c n)] S = resP (dSs tab (callF tab (m + 5)) c_row_of [some (iV (k.code a b c n)), none] []) S := by
    rw [show ([iV (k.code a b c n)] : List Val) = [T.int (k.code a b c n)].map .t from rfl, callQ _ [some (iV (k.code a b c n)), none] tab_row_of rfl rfl]
  have cb := call_row_by m (k.code a b c n) []
  have cc := call_code_of (m + 1) k a b c n h []
  rw [rowC_code h] at cb
  rw [e0]
  unfold c_row_of
  rw [stay_set _ (ev_call (evs_cons (ev_var rfl) evs_nil) cb)]
  simp only [List.set_cons_succ, List.set_cons_zero]
  have hn : cmpV .Is (.t (k.row a b c n)) (.t .non) [] = .ok (.t (.bl false)) [] := by
    show ofT ((some (isNon (k.row a b c n))).map .bl) [] = _
    rw [row_non]
    rfl
  have hc : cmpV .NotEq (iV (k.code a b c n)) (iV (k.code a b c n)) [] = .ok (.t (.bl false)) [] := by
    show ofT (((eqT (.int (k.code a b c n)) (.int (k.code a b c n))).map not).map .bl) [] = _
    rw [show eqT (.int (k.code a b c n)) (.int (k.code a b c n)) = some true from eqT_refl (d := .int _) rfl (by show 0 ≤ 60; decide)]
    rfl
  rw [stay_ifF (dB_ors2 (S1 := []) (dB_valE (ev_cmp (ev_var rfl) (ev_con _) hn)) (dB_valE (ev_cmp (ev_call (evs_cons (ev_var rfl) evs_nil) cc) (ev_var rfl) hc))), step_ret _ (ev_var rfl)]
  rfl
end Rw

namespace Rw
open PySem PySem.Spec PyProof.Rows L2 PySem.W
/-! ### any code: the row that its bits tell -/
def Kd.nby (k : Kd) (n : Int) : Int := match k with
  | .plus | .load | .store => if n < 512 then n else n - 1024
  | _ => n
theorem rowT_some {op : Int} {k : Kd} (h : Kd.ofOp op = some k) (a b c n : Int) : rowT op a b c n = k.row a b c (k.nby n) := by
  unfold rowT
  rw [h]
  cases k <;> rfl
theorem ofOp_cases {op : Int} (h0 : 0 ≤ op) : (Kd.ofOp op = none ∧ 26 < op) ∨ ∃ k, Kd.ofOp op = some k ∧ op = k.op := by
  by_cases h : op < 27
  · rcases (by omega : op = 0 ∨ op = 1 ∨ op = 2 ∨ op = 3 ∨ op = 4 ∨ op = 5 ∨ op = 6 ∨ op = 7 ∨ op = 8 ∨ op = 9 ∨ op = 10 ∨ op = 11 ∨ op = 12 ∨ op = 13 ∨ op = 14 ∨ op = 15 ∨ op = 16 ∨ op = 17 ∨ op = 18 ∨ op = 19 ∨ op = 20 ∨ op = 21 ∨ op = 22 ∨ op = 23 ∨ op = 24 ∨ op = 25 ∨ op = 26) with rfl | rfl | rfl | rfl | rfl | rfl | rfl | rfl | rfl | rfl | rfl | rfl | rfl | rfl | rfl | rfl | rfl | rfl | rfl | rfl | rfl | rfl | rfl | rfl | rfl | rfl | rfl <;> exact .inr ⟨_, rfl, rfl⟩
  · refine .inl ⟨?_, by omega⟩
    unfold Kd.ofOp
    rw [if_pos h0]
    exact List.getElem?_eq_none (by show 27 ≤ op.toNat; omega)
theorem nby_ok (k : Kd) {a b c n : Int} (a0 : 0 ≤ a) (a1 : a < 8) (b0 : 0 ≤ b) (b1 : b < 8) (c0 : 0 ≤ c) (c1 : c < 8) (n0 : 0 ≤ n) (n1 : n < 1024) : k.ok a b c (k.nby n) := by
  refine ⟨a0, a1, b0, b1, c0, c1, ?_⟩
  cases k <;> simp only [Kd.nOk, Kd.nby] <;> first | trivial | omega | (split <;> omega)
/-- the number that a code's bits tell -/
abbrev xa (x : Int) : Int := x / 65536 % 8
abbrev xb (x : Int) : Int := x / 8192 % 8
abbrev xc (x : Int) : Int := x / 1024 % 8
abbrev xn (x : Int) : Int := x % 1024
theorem x_ok (k : Kd) (x : Int) : k.ok (xa x) (xb x) (xc x) (k.nby (xn x)) := by
  have h1 := mod_bd (x / 65536) (j := 8) (by decide)
  have h2 := mod_bd (x / 8192) (j := 8) (by decide)
  have h3 := mod_bd (x / 1024) (j := 8) (by decide)
  have h4 := mod_bd x (j := 1024) (by decide)
  exact nby_ok k h1.1 h1.2 h2.1 h2.2 h3.1 h3.2 h4.1 h4.2
def Kd.cx (k : Kd) (x : Int) : Int := k.code (xa x) (xb x) (xc x) (k.nby (xn x))
/-- the row of a code, if it is one -/
def foundX (x : Int) : T := match Kd.ofOp (x / 524288) with
  | none => .non
  | some k => if k.cx x = x then k.row (xa x) (xb x) (xc x) (k.nby (xn x)) else .non
def toldX (x : Int) : T := match Kd.ofOp (x / 524288) with
  | none => .non
  | some k => if k.cx x = x then k.told (xa x) (xb x) (xc x) (k.nby (xn x)) else .non
theorem row_nonE (k : Kd) (a b c n : Int) : isNon (k.row a b c n) = false := by cases k <;> rfl
theorem call_row_ofX (m : Nat) (x : Int) (x0 : 0 ≤ x) (x1 : x < 16777216) (S : Store) : callF tab (m + 6) 112 [iV x] S = .ok (.t (foundX x)) S := by
  have e0 : callF tab (m + 6) 112 [iV x] S = resP (dSs tab (callF tab (m + 5)) c_row_of [some (iV x), none] []) S := by
    rw [show ([iV x] : List Val) = [T.int x].map .t from rfl, callQ _ [some (iV x), none] tab_row_of rfl rfl]
  have cb := call_row_by m x []
  have ho : x / 524288 % 32 = x / 524288 := by omega
  rw [e0]
  unfold c_row_of
  rw [stay_set _ (ev_call (evs_cons (ev_var rfl) evs_nil) cb)]
  simp only [List.set_cons_succ, List.set_cons_zero]
  rcases ofOp_cases (op := x / 524288) (by omega) with ⟨h, _⟩ | ⟨k, h, hk⟩
  · have hr : rowC x = .non := by
      unfold rowC rowT
      rw [ho, h]
    rw [hr, show foundX x = .non by unfold foundX; rw [h]]
    rfl
  · have hr : rowC x = k.row (xa x) (xb x) (xc x) (k.nby (xn x)) := by
      unfold rowC
      rw [ho, rowT_some h]
    have cc := call_code_of (m + 1) k (xa x) (xb x) (xc x) (k.nby (xn x)) (x_ok k x) []
    rw [hr, show foundX x = if k.cx x = x then k.row (xa x) (xb x) (xc x) (k.nby (xn x)) else .non by unfold foundX; rw [h]]
    have hn : cmpV .Is (.t (k.row (xa x) (xb x) (xc x) (k.nby (xn x)))) (.t .non) [] = .ok (.t (.bl false)) [] := by
      show ofT ((some (isNon (k.row (xa x) (xb x) (xc x) (k.nby (xn x))))).map .bl) [] = _
      rw [row_nonE]
      rfl
    have hc : cmpV .NotEq (iV (k.cx x)) (iV x) [] = .ok (.t (.bl (!decide (k.cx x = x)))) [] := by
      rw [cmpV_t, cmpT_ne, eqT_int]
      rfl
    by_cases q : k.cx x = x
    · rw [decide_eq_true q] at hc
      rw [stay_ifF (dB_ors2 (S1 := []) (dB_valE (ev_cmp (ev_var rfl) (ev_con _) hn)) (dB_valE (ev_cmp (ev_call (evs_cons (ev_var rfl) evs_nil) cc) (ev_var rfl) hc))), step_ret _ (ev_var rfl), if_pos q]
      rfl
    · rw [decide_eq_false q] at hc
      rw [stay_if true (evB_ors (evO_F (S1 := []) (evB_val (ev_cmp (ev_var rfl) (ev_con _) hn)) (evO_1 (evB_val (ev_cmp (ev_call (evs_cons (ev_var rfl) evs_nil) cc) (ev_var rfl) hc))))), if_pos rfl, if_neg q]
      rfl
end Rw

namespace Rw
open PySem PySem.Spec PyProof.Rows L2 PySem.W
/-- a pure def tells the same in any store -/
theorem pureAny {tb : Tab} {n f : Nat} {d : Fn} {vs : List Val} {v : T} (h : tb.fn f = some d) (hp : d.pure = true) (e : callF tb (n + 1) f vs [] = .ok (.t v) []) (S : Store) : callF tb (n + 1) f vs S = .ok (.t v) S := by
  rw [callF_s, h] at e ⊢
  change runFn tb (callF tb n) d _ [] = _ at e
  change runFn tb (callF tb n) d _ S = _
  revert e
  generalize vs ++ (d.dfl.drop (d.dfl.length - (d.np - vs.length))).map .t = ws
  unfold runFn
  by_cases c : ws.length = d.np
  · rw [if_pos c, if_pos c, if_pos hp, if_pos hp]
    cases allT ws with
    | none => intro e; cases e
    | some zs =>
      generalize dSs tb (callF tb n) d.body (ws.map some ++ List.replicate (d.ns - d.np) none) [] = r
      cases r with
      | rt x S1 =>
        show (match toT S1 x with
          | some (x, _) => R.ok (Val.t x) []
          | none => .bad) = _ → (match toT S1 x with
          | some (x, _) => R.ok (Val.t x) S
          | none => .bad) = _
        cases toT S1 x with
        | none => intro e; cases e
        | some q => intro e; cases e; rfl
      | nx env S1 => intro e; cases e; rfl
      | _ => intro e; cases e
  · rw [if_neg c]
    intro e; cases e
theorem toT_lst {S : Store} {n : Nat} {xs : List T} (h : S[n]? = some (.lst (xs.map .t))) : toT S (.r n) = some (.lst xs, S.set n .dead) := by
  show (match S[n]? with
    | some (.lst vs) => (allT vs).map fun xs => (T.lst xs, S.set n .dead)
    | some (.ins c fs) => (allF fs).map fun xs => (T.ins c xs, S.set n .dead)
    | _ => none) = _
  rw [h]
  show (allT (xs.map .t)).map _ = _
  rw [allT_map]
  rfl
theorem resP_lst {S1 S : Store} {n : Nat} {xs : List T} (h : S1[n]? = some (.lst (xs.map .t))) : resP (.rt (.r n) S1) S = .ok (.t (.lst xs)) S := by
  show (match toT S1 (.r n) with
    | some (x, _) => R.ok (Val.t x) S
    | none => .bad) = _
  rw [toT_lst h]
/-! ### a program: codes and a hall -/
def wholeT (t : T) (most : Int) : Bool := match t with
  | .int i => decide (0 ≤ i) && decide (i ≤ most)
  | _ => false
/-- what may be handed in -/
def handT : T → Bool
  | .ins _ _ => false
  | .fn _ => false
  | .exn _ _ => false
  | _ => true
theorem call_whole (n : Nat) (t : T) (ht : handT t = true) (most : Int) (S : Store) : callF tab (n + 1) 113 [.t t, iV most] S = .ok (bV (wholeT t most)) S := by
  rw [show ([.t t, iV most] : List Val) = [t, T.int most].map .t from rfl, callQ _ [some (.t t), some (iV most)] tab_is_whole rfl rfl, c_is_whole]
  cases t with
  | int i =>
    rw [step_ret (bV (wholeT (.int i) most)) (S1 := []) (ev_andT (S1 := []) rfl (ev_andT (S1 := []) rfl (ev_and1 (ev_cmp2 (S1 := []) (S2 := []) (x := iV 0) (y := iV i) (k1 := decide (0 ≤ i)) (k2 := decide (i ≤ most)) (ev_con _) (ev_var rfl) rfl (ev_var rfl) rfl))))]
    rfl
  | ins c fs => cases ht
  | fn g => cases ht
  | exn c fs => cases ht
  | _ => rfl
def progT (xs : List T) (h : T) : T := .ins 18 [(5, .tup xs), (6, h)]
def okP (xs : List T) (h : T) : Bool := decide (xs.length ≤ 64) && (xs.all (fun t => wholeT t 16777215) && (isNon h || wholeT h 1023))
/-- codes that are handed in: a tuple, a list -/
inductive CodesV (S : Store) : Val → List T → Prop where
  | lst {xs : List T} (hz : xs.length ≤ szLine) : CodesV S (.t (.lst xs)) xs
  | tup {xs : List T} (hz : xs.length ≤ szLine) : CodesV S (.t (.tup xs)) xs
  | cell {k : Nat} {xs : List T} (h : S[k]? = some (.lst (xs.map .t))) (hz : xs.length ≤ szLine) : CodesV S (.r k) xs
section
variable {S : Store} {cv : Val} {xs : List T}
theorem CodesV.size (h : CodesV S cv xs) : xs.length ≤ szLine := by cases h <;> assumption
theorem CodesV.isi (h : CodesV S cv xs) : isiV tab [.tuple, .list] cv S = .ok (bV true) S := by
  cases h with
  | lst hz => rfl
  | tup hz => rfl
  | @cell k xs h hz =>
    show (match (match S[k]? with
      | some (.lst _) => some (T.lst [])
      | some (.ins c _) => some (.ins c [])
      | some (.dct _) => some (.dct [])
      | _ => none) with
      | some x => ofT ((anyTy tab x [.tuple, .list]).map .bl) S
      | none => .bad) = _
    rw [h]
    rfl
theorem CodesV.len (h : CodesV S cv xs) : lenV cv S = .ok (iV xs.length) S := by
  cases h with
  | lst hz => rfl
  | tup hz => rfl
  | @cell k xs h hz =>
    have e := len_r h
    rw [List.length_map] at e
    exact e
theorem CodesV.its (h : CodesV S cv xs) : ∃ w, items .seq [cv] S = .ok (xs.map .t, w) S ∧ okW w S := by
  cases h with
  | lst hz => exact ⟨none, rfl, okW_none _⟩
  | tup hz => exact ⟨none, rfl, okW_none _⟩
  | @cell k xs h hz => exact ⟨some (k, xs.map .t), items_h h, h⟩
theorem CodesV.tupE (h : CodesV S cv xs) : bltV .tuple false [cv] S = .ok (.t (.tup xs)) S := by
  cases h with
  | lst hz => exact blt_tuple xs false S hz
  | tup hz => rfl
  | @cell k xs h hz => exact blt_tupleR xs k false S (listV_r h) hz
theorem CodesV.more (h : CodesV S cv xs) (X : Store) : CodesV (S ++ X) cv xs := by
  cases h with
  | lst hz => exact .lst hz
  | tup hz => exact .tup hz
  | @cell k xs h hz => exact .cell (by rw [List.getElem?_append_left (List.getElem?_eq_some_iff.mp h).1]; exact h) hz
theorem isNot_non (t : T) (S : Store) : cmpV .IsNot (.t t) (.t .non) S = .ok (bV (!isNon t)) S := rfl
theorem prog_init (n : Nat) (a : Nat) (hv : T) (ha : S[a]? = some (.ins 18 [])) (h : CodesV S cv xs) (hx : ∀ t ∈ xs, handT t = true) (hh : handT hv = true) :
    callF tab (n + 2) 114 [.r a, cv, .t hv] S = if okP xs hv then .ok (.t .non) (S.set a (.ins 18 [(5, .t (.tup xs)), (6, .t hv)])) else .ex ⟨1, []⟩ S := by
  have e0 : callF tab (n + 2) 114 [.r a, cv, .t hv] S = resI (dSs tab (callF tab (n + 1)) c_Program_init [some (.r a), some cv, some (.t hv), none] S) := rfl
  rw [e0, c_Program_init]
  have hi : dB tab (callF tab (n + 1)) (.not (.val (.isi (.var 1) true [.tuple, .list]))) [some (.r a), some cv, some (.t hv), none] S = .ok false S := evB_not (k := true) (evB_val (ev_isi (ev_var rfl) h.isi))
  have hl : dB tab (callF tab (n + 1)) (.val (.cmp .Gt (.blt .len false (.cons (.var 1) .nil)) (.glob 5))) [some (.r a), some cv, some (.t hv), none] S = .ok (decide ((64 : Int) < xs.length)) S :=
    evB_val (ev_cmp (x := iV xs.length) (y := iV 64) (S1 := S) (S2 := S) (ev_blt (evs_cons (ev_var rfl) evs_nil) h.len) (ev_glob rfl) rfl)
  rcases Nat.lt_or_ge 64 xs.length with c1 | c1
  · rw [show okP xs hv = false by unfold okP; rw [decide_eq_false (by omega)]; rfl, if_neg Bool.false_ne_true]
    rw [decide_eq_true (by omega)] at hl
    rw [stay_if true (evB_ors (evO_F hi (evO_1 hl))), if_pos rfl]
    rfl
  rw [decide_eq_false (by omega)] at hl
  rw [stay_ifF (evB_ors (evO_F hi (evO_1 hl)))]
  obtain ⟨w, hw, ow⟩ := h.its
  have hc : dE tab (callF tab (n + 1)) (.comp false .seq (.cons (.var 1) .nil) false [3] .nil (.call 113 (.cons (.var 3) (.cons (.glob 6) .nil)))) [some (.r a), some cv, some (.t hv), none] S = .ok (.t (.lst (xs.map fun t => T.bl (wholeT t 16777215)))) S :=
    comp_map xs .t (fun t => T.bl (wholeT t 16777215)) h.size (by
      show R.bind (R.ok [cv] S) _ = _
      exact hw) ow fun t ht => ⟨[some (.r a), some cv, some (.t hv), some (.t t)], rfl, ev_call (evs_cons (ev_var rfl) (evs_cons (ev_glob rfl) evs_nil)) (call_whole n t (hx t ht) 16777215 S)⟩
  have ha2 : dB tab (callF tab (n + 1)) (.not (.val (.blt .all false (.cons (.comp false .seq (.cons (.var 1) .nil) false [3] .nil (.call 113 (.cons (.var 3) (.cons (.glob 6) .nil)))) .nil)))) [some (.r a), some cv, some (.t hv), none] S = .ok (!(xs.all fun t => wholeT t 16777215)) S :=
    evB_not (evB_val (ev_blt (evs_cons hc evs_nil) (blt_all xs (fun t => wholeT t 16777215) false S)))
  cases c2 : xs.all fun t => wholeT t 16777215 with
  | false =>
    rw [c2] at ha2
    rw [show okP xs hv = false by unfold okP; rw [c2, Bool.false_and, Bool.and_false], if_neg Bool.false_ne_true, stay_if true ha2, if_pos rfl]
    rfl
  | true =>
    rw [c2] at ha2
    rw [stay_ifF ha2]
    have hn : dB tab (callF tab (n + 1)) (.val (.cmp .IsNot (.var 2) (.con .non))) [some (.r a), some cv, some (.t hv), none] S = .ok (!isNon hv) S := evB_val (ev_cmp (ev_var rfl) (ev_con _) (isNot_non hv S))
    have hk : dB tab (callF tab (n + 1)) (.not (.val (.call 113 (.cons (.var 2) (.cons (.glob 7) .nil))))) [some (.r a), some cv, some (.t hv), none] S = .ok (!wholeT hv 1023) S := evB_not (evB_val (ev_call (evs_cons (ev_var rfl) (evs_cons (ev_glob rfl) evs_nil)) (call_whole n hv hh 1023 S)))
    have hb : dB tab (callF tab (n + 1)) (.ands (.cons (.val (.cmp .IsNot (.var 2) (.con .non))) (.cons (.not (.val (.call 113 (.cons (.var 2) (.cons (.glob 7) .nil))))) .nil))) [some (.r a), some cv, some (.t hv), none] S = .ok (!isNon hv && !wholeT hv 1023) S := evB_ands (evA hn (evA_1 hk))
    have ho : okP xs hv = !(!isNon hv && !wholeT hv 1023) := by
      unfold okP
      rw [c2, decide_eq_true c1]
      cases isNon hv <;> cases wholeT hv 1023 <;> rfl
    rw [ho]
    cases c3 : (!isNon hv && !wholeT hv 1023) with
    | true =>
      rw [c3] at hb
      rw [stay_if true hb, if_pos rfl]
      rfl
    | false =>
      rw [c3] at hb
      rw [stay_ifF hb]
      have la := (List.getElem?_eq_some_iff.mp ha).1
      have s1 := setF_h (tab := tab) (f := 5) (v := .t (.tup xs)) ha rfl (by decide)
      have s2 := setF_h (tab := tab) (f := 6) (v := .t hv) (show (S.set a (.ins 18 [(5, .t (.tup xs))]))[a]? = _ from List.getElem?_set_self la) rfl (by show 1 < 1000; decide)
      rw [sx_setF (ev_blt (evs_cons (ev_var rfl) evs_nil) h.tupE) (ev_var rfl) s1 (sx_setF (ev_var rfl) (ev_var rfl) s2 rfl)]
      rw [List.set_set]
      rfl
theorem toT_ins {S : Store} {n c : Nat} {fs : List (Nat × Val)} {xs : List (Nat × T)} (h : S[n]? = some (.ins c fs)) (hf : allF fs = some xs) : toT S (.r n) = some (.ins c xs, S.set n .dead) := by
  show (match S[n]? with
    | some (.lst vs) => (allT vs).map fun xs => (T.lst xs, S.set n .dead)
    | some (.ins c fs) => (allF fs).map fun xs => (T.ins c xs, S.set n .dead)
    | _ => none) = _
  rw [h]
  show (allF fs).map _ = _
  rw [hf]
  rfl
theorem newV_I {tb : Tab} {call : Call} {c f : Nat} {k : Cl} {vs : List Val} {S S1 : Store} (hc : tb.cl c = some k) (hi : k.init = some f) (h : call f (.r S.length :: vs) (S ++ [.ins c []]) = .ok (.t .non) S1) : newV tb call c vs S = finV k.frozen S.length S1 := by
  unfold newV
  rw [hc]
  show (match k.init with
    | none => _
    | some f => (call f (.r S.length :: vs) (S ++ [Cell.ins c []])).bind fun v S1 => (match v with
      | .t .non => finV k.frozen S.length S1
      | _ => .bad)) = _
  rw [hi]
  show (call f (.r S.length :: vs) (S ++ [Cell.ins c []])).bind _ = _
  rw [h]
  rfl
theorem newV_X {tb : Tab} {call : Call} {c f : Nat} {k : Cl} {vs : List Val} {S S1 : Store} {x : Exn} (hc : tb.cl c = some k) (hi : k.init = some f) (h : call f (.r S.length :: vs) (S ++ [.ins c []]) = .ex x S1) : newV tb call c vs S = .ex x S1 := by
  unfold newV
  rw [hc]
  show (match k.init with
    | none => _
    | some f => (call f (.r S.length :: vs) (S ++ [Cell.ins c []])).bind fun v S1 => (match v with
      | .t .non => finV k.frozen S.length S1
      | _ => .bad)) = _
  rw [hi]
  show (call f (.r S.length :: vs) (S ++ [Cell.ins c []])).bind _ = _
  rw [h]
  rfl
theorem cl_Program : tab.cl 18 = some ⟨true, some 114, [5, 6], [(20, 115), (21, 116)], [18]⟩ := rfl
theorem prog_new (n : Nat) (hv : T) (h : CodesV S cv xs) (hx : ∀ t ∈ xs, handT t = true) (hh : handT hv = true) :
    newV tab (callF tab (n + 2)) 18 [cv, .t hv] S = if okP xs hv then .ok (.t (progT xs hv)) (S ++ [.dead]) else .ex ⟨1, []⟩ (S ++ [.ins 18 []]) := by
  have e := prog_init n S.length hv (get_len S _) (h.more [.ins 18 []]) hx hh
  cases q : okP xs hv with
  | false =>
    rw [q, if_neg Bool.false_ne_true] at e
    rw [if_neg Bool.false_ne_true]
    exact newV_X cl_Program rfl e
  | true =>
    rw [q, if_pos rfl, set_last] at e
    rw [if_pos rfl]
    refine (newV_I cl_Program rfl e).trans ?_
    unfold finV
    rw [if_pos rfl, toT_ins (get_len S _) rfl, set_last]
    rfl
/-- the hall left out -/
theorem prog_new1 (n : Nat) (h : CodesV S cv xs) (hx : ∀ t ∈ xs, handT t = true) :
    newV tab (callF tab (n + 2)) 18 [cv] S = if okP xs .non then .ok (.t (progT xs .non)) (S ++ [.dead]) else .ex ⟨1, []⟩ (S ++ [.ins 18 []]) := by
  rw [← prog_new n .non h hx rfl]
  rfl
end
/-! ### its rows, its causes -/
theorem atL_map {α : Type} (f : α → T) (l : List α) (i : Int) : atL (l.map f) i = (atL l i).map f := by
  unfold atL
  rw [List.length_map]
  cases ix l.length i with
  | none => rfl
  | some j => rw [Option.bind_some, Option.bind_some, List.getElem?_map]
section
variable (m : Nat) (cs : List Int) (h : T) (p : Int) (S : Store)
theorem prog_len : bltV .len false [.t (.tup (cs.map T.int))] S = .ok (iV cs.length) S := by
  show R.ok (iV ((cs.map T.int).length : Nat)) S = _
  rw [List.length_map]
def rowAt (cs : List Int) (p : Int) : T := if (cs.length : Int) ≤ p then .non else foundX (cs[p.toNat]?.getD 0)
def causeAt (cs : List Int) (p : Int) : Int := if (cs.length : Int) ≤ p then 1 else if isNon (rowAt cs p) then 2 else 0
theorem call_row_at (hc : ∀ x ∈ cs, 0 ≤ x ∧ x < 16777216) (p0 : 0 ≤ p) : callF tab (m + 7) 115 [.t (progT (cs.map .int) h), iV p] S = .ok (.t (rowAt cs p)) S := by
  rw [show ([.t (progT (cs.map .int) h), iV p] : List Val) = [progT (cs.map .int) h, T.int p].map .t from rfl, callQ _ [some (.t (progT (cs.map .int) h)), some (iV p)] tab_Program_row_at rfl rfl, c_Program_row_at]
  have hf : dE tab (callF tab (m + 6)) (.fld (.var 0) 5) [some (.t (progT (cs.map .int) h)), some (iV p)] [] = .ok (.t (.tup (cs.map T.int))) [] := ev_fld (ev_var rfl) rfl
  have hb : dB tab (callF tab (m + 6)) (.val (.cmp .GtE (.var 1) (.blt .len false (.cons (.fld (.var 0) 5) .nil)))) [some (.t (progT (cs.map .int) h)), some (iV p)] [] = .ok (decide ((cs.length : Int) ≤ p)) [] :=
    evB_val (ev_cmp (ev_var rfl) (ev_blt (evs_cons hf evs_nil) (prog_len cs [])) rfl)
  unfold rowAt
  by_cases q : (cs.length : Int) ≤ p
  · rw [decide_eq_true q] at hb
    rw [stay_if true hb, if_pos rfl, if_pos q]
    rfl
  · rw [decide_eq_false q] at hb
    have hl : p.toNat < cs.length := by omega
    have hi : cs[p.toNat]? = some cs[p.toNat] := List.getElem?_eq_getElem hl
    have hs : subV (.t (.tup (cs.map T.int))) (iV p) [] = .ok (iV cs[p.toNat]) [] := by
      rw [sub_tup, atL_map, atL_nat p0 (by omega), hi]
      rfl
    have hb2 := hc _ (List.getElem_mem hl)
    have hr := call_row_ofX m cs[p.toNat] hb2.1 hb2.2 []
    rw [stay_ifF hb, if_neg q, hi, Option.getD_some, step_ret _ (ev_call (evs_cons (ev_sub hf (ev_var rfl) hs) evs_nil) hr)]
    rfl
end
end Rw

namespace Rw
open PySem PySem.Spec PyProof.Rows L2 PySem.W
/-! ### the cells of a script -/
def cell0 (ns : List Int) (k : Int) : Int := if ns = [] then ((7919 * k) + 11) else ((((ns[(k % (ns.length : Int)).toNat]?).getD 0 * 48271) + (104729 * k)) + ((k / (ns.length : Int)) * 7919))
def mixC (c k : Int) : Int := ((c % 2147483647) * (c % 2147483647) % 2147483629 * ((c % 2147483647) * (c % 2147483647) % 2147483629) + 69621 * ((c % 2147483647) * (c % 2147483647) % 2147483629) + k) % 2147483587
def cell (ns : List Int) (k : Int) : Int := mixC (cell0 ns k) k
theorem cell_bd (ns : List Int) (k : Int) : 0 ≤ cell ns k ∧ cell ns k < 2147483587 := by
  unfold cell mixC
  exact ⟨Int.emod_nonneg _ (by decide), Int.emod_lt_of_pos _ (by decide)⟩
theorem call_cell (n : Nat) (ns : List Int) (k : Int) (S : Store) (hl : ns.length ≤ 63) (hk : 0 ≤ k) : callF tab (n + 1) 117 [.t (.scr ns), .t (.int k)] S = .ok (.t (.int (cell ns k))) S := by
  have h1 := mod_bd (cell0 ns k) (j := 2147483647) (by decide)
  have h2 := mod_bd (cell0 ns k % 2147483647 * (cell0 ns k % 2147483647)) (j := 2147483629) (by decide)
  have m1 : bigI (cell0 ns k % 2147483647) = true := bigI_of (by omega) (by omega)
  have m2 : bigI (cell0 ns k % 2147483647 * (cell0 ns k % 2147483647) % 2147483629) = true := bigI_of (by omega) (by omega)
  rw [show ([.t (.scr ns), .t (.int k)] : List Val) = [T.scr ns, T.int k].map .t from rfl, callP _ tab__law_cell rfl rfl rfl]
  by_cases hn : ns = []
  · have e : cell0 [] k = ((7919 * k) + 11) := if_pos rfl
    subst hn
    rw [e] at m1 m2
    simp (decide := true) [f__law_cell, c__law_cell, dSs, dS, dE, dEs, dB, binI_mulL, binI_mulR, binI_mod, binI_div, m1, m2, cell, mixC, e]
  · have hp : 0 < ns.length := List.length_pos_iff.mpr hn
    have hr := mod_bd k (j := ns.length) (by omega)
    have e : cell0 ns k = ((((ns[(k % (ns.length : Int)).toNat]?).getD 0 * 48271) + (104729 * k)) + ((k / (ns.length : Int)) * 7919)) := if_neg hn
    have hg : atL ns (k % ns.length) = some ((ns[(k % ns.length).toNat]?).getD 0) := by
      rw [atL_nat hr.1 (by omega)]
      have : (k % ns.length).toNat < ns.length := by omega
      rw [List.getElem?_eq_getElem this]
      rfl
    rw [e] at m1 m2
    have p1 : (0 : Int) < ns.length := by omega
    have p2 : (ns.length : Int) < 1073741824 := by omega
    simp (decide := true) [f__law_cell, c__law_cell, dSs, dS, dE, dEs, dB, binI_mulL, binI_mulR, binI_mod p1, binI_div p1 p2, binI_mod, hn, m1, m2, cell, mixC, e, hg]

abbrev sV (x : Str) : Val := .t (.str x)
theorem retP {m : RS} {x : T} {S1 S : Store} (h : m = .rt (.t x) S1) : resP m S = .ok (.t x) S := by
  rw [h]
  rfl
/-! ### shapes of rows -/
inductive Shp where
  | e | b | g | bg | bn | bbb | bbs
def Shp.str : Shp → Str
  | .e => Str.ofString "" | .b => Str.ofString "b" | .g => Str.ofString "g" | .bg => Str.ofString "bg" | .bn => Str.ofString "bn" | .bbb => Str.ofString "bbb" | .bbs => Str.ofString "bbs"
/-- its marks -/
def Shp.ms : Shp → List Nat
  | .e => [] | .b => [98] | .g => [103] | .bg => [98, 103] | .bn => [98, 110] | .bbb => [98, 98, 98] | .bbs => [98, 98, 115]
def Kd.sh : Kd → Shp
  | .stop | .home => .e
  | .num => .bn
  | .zero | .link => .bg
  | .plus | .load | .store => .bbs
  | .jump => .g
  | .go | .ask | .tell | .why | .where_ | .aim => .b
  | _ => .bbb
def Shp.prt (s : Shp) (a b c n : Int) : List Int := match s with
  | .e => []
  | .b => [a]
  | .g => [n]
  | .bg | .bn => [a, n]
  | .bbb => [a, b, c]
  | .bbs => [a, b, n]
theorem told_prt (k : Kd) (a b c n : Int) : k.told a b c n = .tup (.str k.str :: (k.sh.prt a b c n).map .int) := by cases k <;> rfl
theorem prt_len (s : Shp) (a b c n : Int) : (s.prt a b c n).length = s.ms.length := by cases s <;> rfl
theorem sh_len (s : Shp) (S : Store) : lenV (sV s.str) S = .ok (iV s.ms.length) S := by cases s <;> rfl
theorem sh_blt (s : Shp) (mm : Bool) (S : Store) : bltV .len mm [sV s.str] S = .ok (iV s.ms.length) S := sh_len s S
theorem sh_at (s : Shp) (S : Store) {i : Nat} {m : Nat} (h : s.ms[i]? = some m) : subV (sV s.str) (iV i) S = .ok (sV ⟨#[m]⟩) S := by
  have hi := (List.getElem?_eq_some_iff.mp h).1
  have e : s.str.cps.toList = s.ms := by cases s <;> rfl
  have hl : s.str.length ≤ szLine := by cases s <;> decide
  show (if s.str.length ≤ szLine then ofT ((atL s.str.cps.toList (i : Int)).map fun c => T.str ⟨#[c]⟩) S else .bad) = _
  rw [if_pos hl, e, atL_nat (by omega) (by omega), Int.toNat_natCast, h]
  rfl
theorem call_shape (n : Nat) (k : Kd) (S : Store) : callF tab (n + 2) 119 [sV k.str] S = .ok (sV k.sh.str) S := by cases k <;> rfl
theorem sh_3 (s : Shp) : s.ms.length ≤ 3 := by cases s <;> decide
/-- the twenty-seven words -/
def kds : List Kd := [.stop, .num, .plus, .add, .sub, .mul, .div, .rest, .and_, .or_, .xor_, .up, .down, .low, .same, .load, .store, .jump, .zero, .link, .go, .ask, .tell, .why, .where_, .aim, .home]
theorem call_lwords (n : Nat) (S : Store) : callF tab (n + 1) 118 [] S = .ok (.t (.lst (kds.map fun k => .str k.str))) S := rfl
/-! ### parts -/
def sel (l : List Int) (i : Int) : Int := l.getD i.toNat 0
def partF (m : Nat) (c : Int) : Int := if m = 98 then c % 8 else if m = 115 then sel [c / 4 % 1024 - 512, -512, 511, c / 4 % 3 - 1] (c % 4) else sel [c / 4 % 1024, c / 4 % 70, 1023, c / 4 % 2] (c % 4)
theorem sel_at {l : List Int} {i : Int} (h0 : 0 ≤ i) (h1 : i < l.length) : atL (l.map T.int) i = some (.int (sel l i)) ∧ sel l i ∈ l := by
  rw [atL_nat h0 (by rw [List.length_map]; exact h1), List.getElem?_map]
  have hi : i.toNat < l.length := by omega
  unfold sel
  rw [List.getElem?_eq_getElem hi, List.getD_eq_getElem?_getD, List.getElem?_eq_getElem hi]
  exact ⟨rfl, List.getElem_mem hi⟩
theorem part_bd (m : Nat) (c : Int) : (m = 98 → 0 ≤ partF m c ∧ partF m c < 8) ∧ (m = 115 → -512 ≤ partF m c ∧ partF m c < 512) ∧ (m ≠ 98 → m ≠ 115 → 0 ≤ partF m c ∧ partF m c < 1024) := by
  have h4 := mod_bd c (j := 4) (by decide)
  have h8 := mod_bd c (j := 8) (by decide)
  have q1 := mod_bd (c / 4) (j := 1024) (by decide)
  have q2 := mod_bd (c / 4) (j := 3) (by decide)
  have q3 := mod_bd (c / 4) (j := 70) (by decide)
  have q4 := mod_bd (c / 4) (j := 2) (by decide)
  unfold partF
  refine ⟨fun h => ?_, fun h => ?_, fun h h' => ?_⟩
  · rw [if_pos h]; exact h8
  · rw [if_neg (by omega), if_pos h]
    have z := (sel_at (l := [c / 4 % 1024 - 512, -512, 511, c / 4 % 3 - 1]) h4.1 (by show _ < (4 : Int); omega)).2
    simp only [List.mem_cons, List.not_mem_nil, or_false] at z
    omega
  · rw [if_neg h, if_neg h']
    have z := (sel_at (l := [c / 4 % 1024, c / 4 % 70, 1023, c / 4 % 2]) h4.1 (by show _ < (4 : Int); omega)).2
    simp only [List.mem_cons, List.not_mem_nil, or_false] at z
    omega
theorem call_part (n : Nat) (s : Shp) {i m : Nat} (h : s.ms[i]? = some m) (c : Int) (S : Store) : callF tab (n + 1) 120 [sV ⟨#[m]⟩, iV c] S = .ok (iV (partF m c)) S := by
  have h4 := mod_bd c (j := 4) (by decide)
  have hm : m = 98 ∨ m = 115 ∨ m = 103 ∨ m = 110 := by
    have z := List.mem_of_getElem? h
    cases s <;> simp [Shp.ms] at z <;> omega
  have s1 := (sel_at (l := [c / 4 % 1024 - 512, -512, 511, c / 4 % 3 - 1]) h4.1 (by show _ < (4 : Int); omega)).1
  have s2 := (sel_at (l := [c / 4 % 1024, c / 4 % 70, 1023, c / 4 % 2]) h4.1 (by show _ < (4 : Int); omega)).1
  have s1 : atL [T.int (c / 4 % 1024 - 512), .int (-512), .int 511, .int (c / 4 % 3 - 1)] (c % 4) = _ := s1
  have s2 : atL [T.int (c / 4 % 1024), .int (c / 4 % 70), .int 1023, .int (c / 4 % 2)] (c % 4) = _ := s2
  rw [show ([sV ⟨#[m]⟩, iV c] : List Val) = [T.str ⟨#[m]⟩, .int c].map .t from rfl, callQ _ [some (sV ⟨#[m]⟩), some (iV c)] tab__law_part_by rfl rfl, c__law_part_by]
  have t : ∀ (x : Str) (k : Bool), cmpT .Eq (.str ⟨#[m]⟩) (.str x) = some k → dB tab (callF tab n) (.val (.cmp .Eq (.var 0) (.con (.str x)))) [some (sV ⟨#[m]⟩), some (iV c)] [] = .ok k [] := fun x k e => evB_val (ev_cmp (ev_var rfl) (ev_con _) (by rw [cmpV_t, e]; rfl))
  rcases hm with rfl | rfl | rfl | rfl
  · rw [show partF 98 c = c % 8 from if_pos rfl]
    exact retP (S1 := []) (sx_ifT (t (Str.ofString "b") true rfl) (sx_seq_rt (sx_ret (ev_bin (x := iV c) (y := iV 8) (S1 := []) (S2 := []) (ev_var rfl) (ev_con _) rfl))))
  · rw [show partF 115 c = sel [c / 4 % 1024 - 512, -512, 511, c / 4 % 3 - 1] (c % 4) from rfl]
    rw [stay_ifF (t (Str.ofString "b") false rfl)]
    refine retP (S1 := []) (sx_ifT (t (Str.ofString "s") true rfl) (sx_seq_rt (sx_ret ?_)))
    simp (decide := true) [dE, dEs, binI_mod, binI_div, s1]
  · rw [show partF 103 c = sel [c / 4 % 1024, c / 4 % 70, 1023, c / 4 % 2] (c % 4) from rfl]
    rw [stay_ifF (t (Str.ofString "b") false rfl), stay_ifF (t (Str.ofString "s") false rfl)]
    refine retP (S1 := []) (sx_ret ?_)
    simp (decide := true) [dE, dEs, binI_mod, binI_div, s2]
  · rw [show partF 110 c = sel [c / 4 % 1024, c / 4 % 70, 1023, c / 4 % 2] (c % 4) from rfl]
    rw [stay_ifF (t (Str.ofString "b") false rfl), stay_ifF (t (Str.ofString "s") false rfl)]
    refine retP (S1 := []) (sx_ret ?_)
    simp (decide := true) [dE, dEs, binI_mod, binI_div, s2]
end Rw

namespace Rw
open PySem PySem.Spec PyProof.Rows L2 PySem.W
/-! ### rows drawn, by their shapes -/
theorem at_0 {α : Type} (x : α) (xs : List α) : atL (x :: xs) 0 = some x := by
  rw [atL_nat (by decide) (by simp only [List.length_cons]; omega)]
  rfl
theorem at_S {α : Type} (x : α) (xs : List α) {j : Nat} {y : α} (h : xs[j]? = some y) : atL (x :: xs) (1 + (j : Int)) = some y := by
  have hj := (List.getElem?_eq_some_iff.mp h).1
  rw [atL_nat (by omega) (by simp only [List.length_cons]; omega), show (1 + (j : Int)).toNat = j + 1 by omega, List.getElem?_cons_succ]
  exact h
theorem sub_0 (k : Kd) (a b c n : Int) (S : Store) : subV (.t (k.told a b c n)) (iV 0) S = .ok (sV k.str) S := by
  rw [told_prt, sub_tup, at_0]
  rfl
theorem sub_S (k : Kd) (a b c n : Int) (S : Store) {j : Nat} {v : Int} (h : (k.sh.prt a b c n)[j]? = some v) : subV (.t (k.told a b c n)) (iV (1 + (j : Int))) S = .ok (iV v) S := by
  rw [told_prt, sub_tup, at_S _ _ (y := T.int v) (by rw [List.getElem?_map, h]; rfl)]
  rfl
/-- parts that fit a shape -/
structure Fits (s : Shp) (f : Nat → Int) : Prop where
  bd : ∀ j m, s.ms[j]? = some m → (m = 98 → 0 ≤ f j ∧ f j < 8) ∧ (m = 115 → -512 ≤ f j ∧ f j < 512) ∧ (m ≠ 98 → m ≠ 115 → 0 ≤ f j ∧ f j < 1024)
theorem fits_row (k : Kd) (f : Nat → Int) (h : Fits k.sh f) : ∃ a b c n, k.ok a b c n ∧ k.sh.prt a b c n = (List.range k.sh.ms.length).map f := by
  have hb := h.bd
  have z : (0 : Int) ≤ 0 ∧ (0 : Int) < 8 := by decide
  have mk : ∀ a b c n : Int, (0 ≤ a ∧ a < 8) → (0 ≤ b ∧ b < 8) → (0 ≤ c ∧ c < 8) → k.nOk n → k.ok a b c n := fun a b c n h1 h2 h3 h4 => ⟨h1.1, h1.2, h2.1, h2.2, h3.1, h3.2, h4⟩
  cases k
  case stop => exact ⟨0, 0, 0, 0, mk _ _ _ _ z z z trivial, rfl⟩
  case home => exact ⟨0, 0, 0, 0, mk _ _ _ _ z z z trivial, rfl⟩
  case num => exact ⟨f 0, 0, 0, f 1, mk _ _ _ _ ((hb 0 98 rfl).1 rfl) z z ((hb 1 110 rfl).2.2 (by decide) (by decide)), rfl⟩
  case zero => exact ⟨f 0, 0, 0, f 1, mk _ _ _ _ ((hb 0 98 rfl).1 rfl) z z ((hb 1 103 rfl).2.2 (by decide) (by decide)), rfl⟩
  case link => exact ⟨f 0, 0, 0, f 1, mk _ _ _ _ ((hb 0 98 rfl).1 rfl) z z ((hb 1 103 rfl).2.2 (by decide) (by decide)), rfl⟩
  case plus => exact ⟨f 0, f 1, 0, f 2, mk _ _ _ _ ((hb 0 98 rfl).1 rfl) ((hb 1 98 rfl).1 rfl) z ((hb 2 115 rfl).2.1 rfl), rfl⟩
  case load => exact ⟨f 0, f 1, 0, f 2, mk _ _ _ _ ((hb 0 98 rfl).1 rfl) ((hb 1 98 rfl).1 rfl) z ((hb 2 115 rfl).2.1 rfl), rfl⟩
  case store => exact ⟨f 0, f 1, 0, f 2, mk _ _ _ _ ((hb 0 98 rfl).1 rfl) ((hb 1 98 rfl).1 rfl) z ((hb 2 115 rfl).2.1 rfl), rfl⟩
  case jump => exact ⟨0, 0, 0, f 0, mk _ _ _ _ z z z ((hb 0 103 rfl).2.2 (by decide) (by decide)), rfl⟩
  case go => exact ⟨f 0, 0, 0, 0, mk _ _ _ _ ((hb 0 98 rfl).1 rfl) z z trivial, rfl⟩
  case ask => exact ⟨f 0, 0, 0, 0, mk _ _ _ _ ((hb 0 98 rfl).1 rfl) z z trivial, rfl⟩
  case tell => exact ⟨f 0, 0, 0, 0, mk _ _ _ _ ((hb 0 98 rfl).1 rfl) z z trivial, rfl⟩
  case why => exact ⟨f 0, 0, 0, 0, mk _ _ _ _ ((hb 0 98 rfl).1 rfl) z z trivial, rfl⟩
  case where_ => exact ⟨f 0, 0, 0, 0, mk _ _ _ _ ((hb 0 98 rfl).1 rfl) z z trivial, rfl⟩
  case aim => exact ⟨f 0, 0, 0, 0, mk _ _ _ _ ((hb 0 98 rfl).1 rfl) z z trivial, rfl⟩
  all_goals exact ⟨f 0, f 1, f 2, 0, mk _ _ _ _ ((hb 0 98 rfl).1 rfl) ((hb 1 98 rfl).1 rfl) ((hb 2 98 rfl).1 rfl) trivial, rfl⟩
theorem call_told_by (n : Nat) (ns : List Int) (i : Int) (hl : ns.length ≤ 63) (hi : 0 ≤ i) (S : Store) : ∃ (k : Kd) (a b c d : Int), k.ok a b c d ∧ callF tab (n + 3) 121 [.t (.scr ns), iV i] S = .ok (.t (k.told a b c d)) S := by
  have ez : szLine = 16777216 := rfl
  have hc := call_cell (n + 1) ns i [] hl hi
  have m27 := mod_bd (cell ns i) (j := 27) (by decide)
  have hj : (cell ns i % 27).toNat < kds.length := by show _ < 27; omega
  let k : Kd := kds[(cell ns i % 27).toNat]
  have ek : kds[(cell ns i % 27).toNat]? = some k := List.getElem?_eq_getElem hj
  let f : Nat → Int := fun j => partF ((k.sh.ms[j]?).getD 0) (cell ns (2000 + 3 * i + (j : Int)))
  obtain ⟨a, b, c, d, ok, ep⟩ := fits_row k f ⟨fun j m hm => by
    have e : f j = partF m (cell ns (2000 + 3 * i + (j : Int))) := by
      show partF ((k.sh.ms[j]?).getD 0) _ = _
      rw [hm]
      rfl
    rw [e]
    exact part_bd m _⟩
  refine ⟨k, a, b, c, d, ok, ?_⟩
  rw [show ([.t (.scr ns), iV i] : List Val) = [T.scr ns, .int i].map .t from rfl, callQ _ [some (.t (.scr ns)), some (iV i), none, none, none, none] tab__law_told_by rfl rfl, c__law_told_by]
  rw [stay_set (sV k.str) (by
    refine ev_sub (ev_call evs_nil (call_lwords (n + 1) [])) (ev_bin (x := iV (cell ns i)) (y := iV 27) (S1 := []) (S2 := []) (ev_call (evs_cons (ev_var rfl) (evs_cons (ev_var rfl) evs_nil)) hc) (ev_con _) rfl) ?_
    show ofT (atL _ (cell ns i % 27)) [] = _
    rw [atL_nat m27.1 (by rw [List.length_map]; show _ < (27 : Int); omega), List.getElem?_map, ek]
    rfl)]
  simp only [List.set_cons_succ, List.set_cons_zero]
  rw [stay_set (sV k.sh.str) (ev_call (evs_cons (ev_var rfl) evs_nil) (call_shape n k []))]
  simp only [List.set_cons_succ, List.set_cons_zero]
  have l3 := sh_3 k.sh
  rw [stay_set (.t (.lst ((List.range k.sh.ms.length).map fun j => T.int (f j)))) (by
    refine comp_map (w := none) (List.range k.sh.ms.length) (fun j => iV ((j : Nat) : Int)) (fun j => T.int (f j)) (by rw [List.length_range]; omega) ?_ (okW_none _) fun j hj => ?_
    · rw [evs_cons (ev_blt (evs_cons (ev_var rfl) evs_nil) (sh_blt k.sh false [])) evs_nil]
      show items .range [iV k.sh.ms.length] [] = _
      rw [items_rng1 _ _ (rngOk_of (by omega) (by omega))]
      unfold rng
      rw [show ((k.sh.ms.length : Int) - 0).toNat = k.sh.ms.length by omega]
      congr 2
      refine List.map_congr_left fun i _ => ?_
      show Val.t (T.int (0 + (i : Int))) = _
      rw [Int.zero_add]
    · have hj := List.mem_range.mp hj
      have em : k.sh.ms[j]? = some k.sh.ms[j] := List.getElem?_eq_getElem hj
      have hc2 := call_cell (n + 1) ns (2000 + 3 * i + (j : Int)) [] hl (by omega)
      refine ⟨[some (.t (.scr ns)), some (iV i), some (sV k.str), some (sV k.sh.str), none, some (iV j)], rfl, ?_⟩
      refine ev_call (evs_cons (ev_sub (ev_var rfl) (ev_var rfl) (sh_at k.sh [] em)) (evs_cons (v := iV (cell ns (2000 + 3 * i + (j : Int)))) (S1 := []) (ev_call (evs_cons (ev_var rfl) (evs_cons (ev_bin (x := iV (2000 + 3 * i)) (y := iV j) (S1 := []) (S2 := []) (ev_bin (x := iV 2000) (y := iV (3 * i)) (S1 := []) (S2 := []) (ev_con _) (ev_bin (x := iV 3) (y := iV i) (S1 := []) (S2 := []) (ev_con _) (ev_var rfl) rfl) rfl) (ev_var rfl) rfl) evs_nil)) hc2) evs_nil)) ?_
      have e := call_part (n + 1) k.sh em (cell ns (2000 + 3 * i + (j : Int))) []
      rw [e]
      show R.ok (iV (partF k.sh.ms[j] _)) [] = .ok (iV (partF ((k.sh.ms[j]?).getD 0) _)) []
      rw [em]
      rfl)]
  simp only [List.set_cons_succ, List.set_cons_zero]
  refine retP (S1 := []) (sx_ret ?_)
  rw [told_prt, ep, List.map_map]
  refine ev_bin (x := .t (.tup [.str k.str])) (y := .t (.tup ((List.range k.sh.ms.length).map fun j => T.int (f j)))) (S1 := []) (S2 := []) (ev_tup (evs_cons (ev_var rfl) evs_nil) rfl) (ev_blt (evs_cons (ev_var rfl) evs_nil) (blt_tuple _ _ _ (by rw [List.length_map, List.length_range]; omega))) ?_
  show (if [T.str k.str].length + ((List.range k.sh.ms.length).map fun j => T.int (f j)).length ≤ szLine then R.ok (Val.t (.tup ([T.str k.str] ++ (List.range k.sh.ms.length).map fun j => T.int (f j)))) [] else .bad) = _
  rw [if_pos (by rw [List.length_map, List.length_range]; show 1 + _ ≤ _; omega)]
  rfl
/-! ### its code -/
def cstep (acc : Int) (j m : Nat) (v : Int) : Int := if m = 98 then acc + v * [65536, 8192, 1024].getD j 0 else acc + v % 1024
def cfold (ms : List Nat) (ps : List Int) (x : Int) (j : Nat) : Int := (List.range j).foldl (fun acc i => cstep acc i (ms.getD i 0) (ps.getD i 0)) x
theorem cfold_S (ms : List Nat) (ps : List Int) (x : Int) (j : Nat) : cfold ms ps x (j + 1) = cstep (cfold ms ps x j) j (ms.getD j 0) (ps.getD j 0) := by
  unfold cfold
  rw [List.range_succ, List.foldl_append]
  rfl
theorem cfold_code {k : Kd} {a b c n : Int} (h : k.ok a b c n) : cfold k.sh.ms (k.sh.prt a b c n) (k.op * 524288) k.sh.ms.length = k.code a b c n := by
  obtain ⟨a0, a1, b0, b1, c0, c1, hn⟩ := h
  cases k <;> simp [cfold, cstep, Kd.sh, Shp.ms, Shp.prt, Kd.code, Kd.op, List.range_succ] <;> simp only [Kd.nOk] at hn <;> omega
theorem mark_eq (s : Shp) {j m : Nat} (h : s.ms[j]? = some m) : cmpT .Eq (.str ⟨#[m]⟩) (.str (Str.ofString "b")) = some (decide (m = 98)) := by
  have z := List.mem_of_getElem? h
  have hm : m = 98 ∨ m = 115 ∨ m = 103 ∨ m = 110 := by cases s <;> simp [Shp.ms] at z <;> omega
  rcases hm with rfl | rfl | rfl | rfl <;> rfl
theorem call_code (n : Nat) {k : Kd} {a b c d : Int} (h : k.ok a b c d) (S : Store) : callF tab (n + 3) 122 [.t (k.told a b c d)] S = .ok (iV (k.code a b c d)) S := by
  have l3 := sh_3 k.sh
  have lp := prt_len k.sh a b c d
  rw [show ([.t (k.told a b c d)] : List Val) = [k.told a b c d].map .t from rfl, callQ _ [some (.t (k.told a b c d)), none, none, none] tab__law_code rfl rfl, c__law_code]
  have e0 : ∀ env : Env, env[0]? = some (some (.t (k.told a b c d))) → dE tab (callF tab (n + 2)) (.sub (.var 0) (.con (.int 0))) env [] = .ok (sV k.str) [] := fun env e => ev_sub (ev_var e) (ev_con _) (sub_0 k a b c d [])
  rw [stay_set (sV k.sh.str) (ev_call (evs_cons (e0 _ rfl) evs_nil) (call_shape n k []))]
  simp only [List.set_cons_succ, List.set_cons_zero]
  have ix : bmV .index (.t (.lst (kds.map fun k => .str k.str))) [sV k.str] [] = .ok (iV k.op) [] := by cases k <;> rfl
  have big : bigI 524288 = true := by decide
  rw [stay_set (iV (k.op * 524288)) (by
    refine ev_bin (x := iV k.op) (y := iV 524288) (S1 := []) (S2 := []) (ev_bm (ev_call evs_nil (call_lwords (n + 1) [])) rfl (evs_cons (e0 _ rfl) evs_nil) ix) rfl ?_
    rw [binV_int, binI_mulR big]
    rfl)]
  simp only [List.set_cons_succ, List.set_cons_zero]
  rw [step_for (vs := [iV k.sh.ms.length]) (its := rng 0 k.sh.ms.length) (w := none) (S1 := []) (S2 := []) (evs_cons (ev_blt (evs_cons (ev_var rfl) evs_nil) (sh_blt k.sh false [])) evs_nil) (items_rng1 _ _ (rngOk_of (by omega) (by omega)))]
  obtain ⟨e1, S1, hf, ⟨hS, b3, he⟩⟩ := forL_idx (w := none) (many := false) (tg := [3]) (body := fun env S => dSs tab (callF tab (n + 2)) b__law_code_0 env S)
    (fun j env S => S = [] ∧ ∃ b3 : Option Val, env = [some (.t (k.told a b c d)), some (sV k.sh.str), some (iV (cfold k.sh.ms (k.sh.prt a b c d) (k.op * 524288) j)), b3]) (fun _ _ S _ => okW_none S) (rng 0 k.sh.ms.length) 0 [some (.t (k.told a b c d)), some (sV k.sh.str), some (iV (k.op * 524288)), none] [] ⟨rfl, none, rfl⟩ (by
      rintro i v env S hv ⟨rfl, b3, rfl⟩
      have hi : i < k.sh.ms.length := by
        have := (List.getElem?_eq_some_iff.mp hv).1
        rw [rng_len] at this
        omega
      rw [rng_get (by omega)] at hv
      cases hv
      rw [Int.zero_add]
      have em : k.sh.ms[i]? = some k.sh.ms[i] := List.getElem?_eq_getElem hi
      have hi2 : i < (k.sh.prt a b c d).length := by omega
      have ep : (k.sh.prt a b c d)[i]? = some (k.sh.prt a b c d)[i] := List.getElem?_eq_getElem hi2
      generalize hx : cfold k.sh.ms (k.sh.prt a b c d) (k.op * 524288) (0 + i) = x
      have t : dB tab (callF tab (n + 2)) (.val (.cmp .Eq (.sub (.var 1) (.var 3)) (.con (.str (Str.ofString "b"))))) [some (.t (k.told a b c d)), some (sV k.sh.str), some (iV x), some (iV i)] [] = .ok (decide (k.sh.ms[i] = 98)) [] :=
        evB_val (ev_cmp (ev_sub (ev_var rfl) (ev_var rfl) (sh_at k.sh [] em)) (ev_con _) (by rw [cmpV_t, mark_eq k.sh em]; rfl))
      have part : dE tab (callF tab (n + 2)) (.sub (.var 0) (.bin .Add (.con (.int 1)) (.var 3))) [some (.t (k.told a b c d)), some (sV k.sh.str), some (iV x), some (iV i)] [] = .ok (iV (k.sh.prt a b c d)[i]) [] :=
        ev_sub (ev_var rfl) (ev_bin (x := iV 1) (y := iV i) (S1 := []) (S2 := []) (ev_con _) (ev_var rfl) rfl) (sub_S k a b c d [] ep)
      refine ⟨_, [some (.t (k.told a b c d)), some (sV k.sh.str), some (iV (cstep x i k.sh.ms[i] (k.sh.prt a b c d)[i])), some (iV i)], [], rfl, ?_, rfl, some (iV i), ?_⟩
      · show dSs tab (callF tab (n + 2)) b__law_code_0 [some (.t (k.told a b c d)), some (sV k.sh.str), some (iV x), some (iV i)] [] = _
        unfold b__law_code_0 cstep
        by_cases q : k.sh.ms[i] = 98
        · rw [decide_eq_true q] at t
          rw [if_pos q]
          have w3 : atL [T.int 65536, .int 8192, .int 1024] (i : Int) = some (.int ([65536, 8192, 1024].getD i 0)) := by
            rcases (by omega : i = 0 ∨ i = 1 ∨ i = 2) with rfl | rfl | rfl <;> rfl
          have big2 : bigI ([65536, 8192, 1024].getD i 0) = true := by
            rcases (by omega : i = 0 ∨ i = 1 ∨ i = 2) with rfl | rfl | rfl <;> decide
          refine sx_ifT t (sx_seq (sx_set (ev_bin (x := iV x) (y := iV ((k.sh.prt a b c d)[i] * [65536, 8192, 1024].getD i 0)) (S1 := []) (S2 := []) (ev_var rfl) (ev_bin (x := iV (k.sh.prt a b c d)[i]) (y := iV ([65536, 8192, 1024].getD i 0)) (S1 := []) (S2 := []) part (ev_sub (x := .t (.lst [.int 65536, .int 8192, .int 1024])) (S1 := []) rfl (ev_var rfl) (by rw [sub_lst, w3]; rfl)) ?_) rfl) rfl) rfl)
          rw [binV_int, binI_mulR big2]
          rfl
        · rw [decide_eq_false q] at t
          rw [if_neg q]
          exact sx_ifF t (sx_seq (sx_set (ev_bin (x := iV x) (y := iV ((k.sh.prt a b c d)[i] % 1024)) (S1 := []) (S2 := []) (ev_var rfl) (ev_bin part (ev_con _) rfl) rfl) rfl) rfl)
      · rw [show 0 + i + 1 = (0 + i) + 1 from rfl, cfold_S, hx, Nat.zero_add]
        have g1 : k.sh.ms.getD i 0 = k.sh.ms[i] := by rw [List.getD_eq_getElem?_getD, em]; rfl
        have g2 : (k.sh.prt a b c d).getD i 0 = (k.sh.prt a b c d)[i] := by rw [List.getD_eq_getElem?_getD, ep]; rfl
        rw [g1, g2])
  subst hS
  subst he
  rw [hf, seq_nx, rng_len, Nat.zero_add, show ((k.sh.ms.length : Int) - 0).toNat = k.sh.ms.length by omega, cfold_code h]
  exact retP (S1 := []) (sx_ret (ev_var rfl))
end Rw

namespace Rw
open PySem PySem.Spec PyProof.Rows L2 PySem.W
theorem ev_join {tb : Tab} {call : Call} {a : IE} {es : IEs} {env : Env} {S S1 S2 : Store} {x : Str} {vs : List Val} {r : R Val} (h1 : dE tb call a env S = .ok (.t (.str x)) S1) (h2 : dEs tb call es env S1 = .ok vs S2) (h3 : joinV (.t (.str x)) vs S2 = r) : dE tb call (.join a es) env S = r := by
  show (dE tb call a env S).bind (fun x S => if strB x then (dEs tb call es env S).bind fun vs S => joinV x vs S else .bad) = r
  rw [h1, R.bind_ok, if_pos (show strB (.t (.str x)) = true from rfl), h2, R.bind_ok, h3]
theorem ev_dget {tb : Tab} {call : Call} {g : Nat} {e : IE} {env : Env} {S S1 : Store} {x : Val} {r : R Val} (h1 : dE tb call e env S = .ok x S1) (h2 : dgetV (tb.dc g) x S1 = r) : dE tb call (.dget g e) env S = r := by
  show (dE tb call e env S).bind (fun x S => dgetV (tb.dc g) x S) = r
  rw [h1, R.bind_ok, h2]
/-! ### a number's text -/
def itx (v : Int) : Str := Str.ofString (toString v)
def smallI (v : Int) : Prop := v.natAbs < 100000000000000000000
theorem itx_len {v : Int} (h : smallI v) : (itx v).length ≤ 21 := by
  have e := int_text_length_le10 (k := 20) (by decide) h
  show (Str.ofString (toString v)).length ≤ 21
  rw [PySem.ofString_length]
  exact e
theorem log_small {v : Int} (h : smallI v) : v.natAbs.log2 < 1920 := by
  by_cases z : v.natAbs = 0
  · rw [z]
    decide
  · rw [Nat.log2_lt z]
    have h1 : (100000000000000000000 : Nat) ≤ 2 ^ 67 := by decide
    have h2 : (2 : Nat) ^ 67 ≤ 2 ^ 1920 := Nat.pow_le_pow_right (by decide) (by decide)
    exact Nat.lt_of_lt_of_le h (Nat.le_trans h1 h2)
theorem blt_str {v : Int} (h : smallI v) (mm : Bool) (S : Store) : bltV .str mm [iV v] S = .ok (sV (itx v)) S := by
  show (if v.natAbs.log2 < 1920 then R.ok (Val.t (.str (Str.ofString (toString v)))) S else .bad) = _
  rw [if_pos (log_small h)]
  rfl
/-! ### a row's text -/
theorem str_app_len (x y : Str) : (x ++ y).length = x.length + y.length := by
  show (x.cps ++ y.cps).size = _
  exact Array.size_append
theorem str_nil_app (x : Str) : Str.ofString "" ++ x = x := by
  obtain ⟨c⟩ := x
  show (⟨#[] ++ c⟩ : Str) = ⟨c⟩
  rw [Array.empty_append]
def ptx (m : Nat) (v : Int) : Str := if m = 98 then Str.ofString "r" ++ itx v else itx v
theorem ptx_len {m : Nat} {v : Int} (h : smallI v) : (ptx m v).length ≤ 22 := by
  have := itx_len h
  unfold ptx
  split
  · rw [str_app_len]
    show 1 + _ ≤ _
    omega
  · omega
theorem add_str {x y : Str} (h : x.length + y.length ≤ 1000) (S : Store) : binV .Add (sV x) (sV y) S = .ok (sV (x ++ y)) S := by
  show ofT (if Operator.Add = .Add ∧ x.length + y.length ≤ szLine then some (.str (x ++ y)) else none) S = _
  rw [if_pos ⟨rfl, by show _ ≤ 16777216; omega⟩]
  rfl
def txs (ms : List Nat) (ps : List Int) : List Str := (ms.zip ps).map fun p => ptx p.1 p.2
def rowX (w : Str) (ms : List Nat) (ps : List Int) : Str := Txt.join (Str.ofString " ") (w :: txs ms ps)
def strC (l : List Str) : Cell := .lst ((l.map T.str).map .t)
theorem strsT_map : ∀ l : List Str, strsT (l.map .str) = some l
  | [] => rfl
  | x :: l => by
    show (strsT (l.map T.str)).map (x :: ·) = _
    rw [strsT_map l]
    rfl
theorem join_cell {S : Store} {n : Nat} {l : List Str} {x : Str} (h : S[n]? = some (strC l)) (hz : (l.map Str.length).sum + l.length * x.length ≤ 16777216) : joinV (sV x) [.r n] S = .ok (sV (Txt.join x l)) S := by
  have e : lstT S (.r n) = some (l.map .str) := by
    show (match S[n]? with
      | some (.lst vs) => allT vs
      | _ => none) = _
    rw [h]
    exact allT_map _
  show (match lstT S (.r n) with
    | some xs => (match strsT xs with
      | some ys => if (ys.map Str.length).sum + ys.length * x.length ≤ 16777216 then R.ok (Val.t (T.str (Txt.join x ys))) S else R.bad
      | none => R.bad)
    | none => R.bad) = _
  rw [e]
  show (match strsT (l.map T.str) with
      | some ys => if (ys.map Str.length).sum + ys.length * x.length ≤ 16777216 then R.ok (Val.t (T.str (Txt.join x ys))) S else R.bad
      | none => R.bad) = _
  rw [strsT_map]
  exact if_pos hz
theorem sum_len {l : List Str} {b : Nat} (h : ∀ x ∈ l, Str.length x ≤ b) : (l.map Str.length).sum ≤ l.length * b := by
  induction l with
  | nil => simp
  | cons x l ih =>
    rw [List.map_cons, List.sum_cons, List.length_cons, Nat.succ_mul]
    have := h x List.mem_cons_self
    have := ih fun y hy => h y (List.mem_cons_of_mem _ hy)
    omega
/-- the parts of a right row are small -/
theorem prt_small {k : Kd} {a b c n : Int} (h : k.ok a b c n) : ∀ v ∈ k.sh.prt a b c n, smallI v := by
  obtain ⟨a0, a1, b0, b1, c0, c1, hn⟩ := h
  intro v hv
  unfold smallI
  cases k <;> simp only [Kd.sh, Shp.prt, Kd.nOk, List.mem_cons, List.not_mem_nil, or_false] at hv hn <;> first | omega | (rcases hv with rfl | rfl | rfl <;> omega) | (rcases hv with rfl | rfl <;> omega) | (subst hv; omega) | (cases hv)
theorem word_len (k : Kd) : k.str.length ≤ 6 := by cases k <;> decide
theorem row_fit {k : Kd} {a b c n : Int} (h : k.ok a b c n) : ((k.str :: txs k.sh.ms (k.sh.prt a b c n)).map Str.length).sum + (k.str :: txs k.sh.ms (k.sh.prt a b c n)).length * (Str.ofString " ").length ≤ 16777216 := by
  have l1 : (txs k.sh.ms (k.sh.prt a b c n)).length ≤ 3 := by
    unfold txs
    rw [List.length_map, List.length_zip]
    have := sh_3 k.sh
    omega
  have all : ∀ x ∈ k.str :: txs k.sh.ms (k.sh.prt a b c n), x.length ≤ 22 := fun x hx => by
    rcases List.mem_cons.mp hx with rfl | hx
    · exact Nat.le_trans (word_len k) (by decide)
    · obtain ⟨p, hp, rfl⟩ := List.mem_map.mp hx
      exact ptx_len (prt_small h _ (List.of_mem_zip hp).2)
  have s := sum_len all
  rw [List.length_cons] at s ⊢
  have e : (Str.ofString " ").length = 1 := rfl
  rw [e]
  have : ((txs k.sh.ms (k.sh.prt a b c n)).length + 1) * 22 ≤ 4 * 22 := Nat.mul_le_mul_right _ (by omega)
  omega
/-- what so many turns have written -/
theorem txs_S (ms : List Nat) (ps : List Int) {j m : Nat} {v : Int} (hm : ms[j]? = some m) (hv : ps[j]? = some v) : (txs ms ps).take (j + 1) = (txs ms ps).take j ++ [ptx m v] := by
  have e : (txs ms ps)[j]? = some (ptx m v) := by
    unfold txs
    rw [List.getElem?_map, show (ms.zip ps)[j]? = some (m, v) from List.getElem?_zip_eq_some.mpr ⟨hm, hv⟩]
    rfl
  have hj := (List.getElem?_eq_some_iff.mp e).1
  rw [List.take_add_one, e]
  rfl
theorem app_str {n : Nat} {S : Store} {l : List Str} {x : Str} (h : S[n]? = some (strC l)) (hl : l.length < 1000000) : bmV .append (.r n) [sV x] S = .ok (.t .non) (S.set n (strC (l ++ [x]))) := by
  rw [app_h h (by rw [List.length_map, List.length_map]; show _ < 16777216; omega)]
  have e : (Cell.lst ((l.map T.str).map Val.t ++ [sV x])) = strC (l ++ [x]) := by
    unfold strC
    rw [List.map_append, List.map_append]
    rfl
  rw [e]
theorem call_line (n : Nat) {k : Kd} {a b c d : Int} (h : k.ok a b c d) (S : Store) : callF tab (n + 3) 123 [.t (k.told a b c d)] S = .ok (sV (rowX k.str k.sh.ms (k.sh.prt a b c d))) S := by
  have l3 := sh_3 k.sh
  have lp := prt_len k.sh a b c d
  have sm := prt_small h
  rw [show ([.t (k.told a b c d)] : List Val) = [k.told a b c d].map .t from rfl, callQ _ [some (.t (k.told a b c d)), none, none, none] tab__law_line rfl rfl, c__law_line]
  have e0 : ∀ env : Env, env[0]? = some (some (.t (k.told a b c d))) → dE tab (callF tab (n + 2)) (.sub (.var 0) (.con (.int 0))) env [] = .ok (sV k.str) [] := fun env e => ev_sub (ev_var e) (ev_con _) (sub_0 k a b c d [])
  rw [stay_set (sV k.sh.str) (ev_call (evs_cons (e0 _ rfl) evs_nil) (call_shape n k []))]
  simp only [List.set_cons_succ, List.set_cons_zero]
  rw [step_set (S1 := [strC [k.str]]) (.r 0) (ev_lst (evs_cons (e0 _ rfl) evs_nil) rfl)]
  simp only [List.set_cons_succ, List.set_cons_zero]
  rw [step_for (vs := [iV k.sh.ms.length]) (its := rng 0 k.sh.ms.length) (w := none) (S1 := [strC [k.str]]) (S2 := [strC [k.str]]) (evs_cons (ev_blt (evs_cons (ev_var rfl) evs_nil) (sh_blt k.sh false _)) evs_nil) (items_rng1 _ _ (rngOk_of (by omega) (by omega)))]
  obtain ⟨e1, S1, hf, ⟨hS, b3, he⟩⟩ := forL_idx (w := none) (many := false) (tg := [3]) (body := fun env S => dSs tab (callF tab (n + 2)) b__law_line_0 env S)
    (fun j env S => S = [strC (k.str :: (txs k.sh.ms (k.sh.prt a b c d)).take j)] ∧ ∃ b3 : Option Val, env = [some (.t (k.told a b c d)), some (sV k.sh.str), some (.r 0), b3]) (fun _ _ S _ => okW_none S) (rng 0 k.sh.ms.length) 0 [some (.t (k.told a b c d)), some (sV k.sh.str), some (.r 0), none] [strC [k.str]] ⟨rfl, none, rfl⟩ (by
      rintro i v env S hv ⟨rfl, b3, rfl⟩
      have hi : i < k.sh.ms.length := by
        have := (List.getElem?_eq_some_iff.mp hv).1
        rw [rng_len] at this
        omega
      rw [rng_get (by omega)] at hv
      cases hv
      rw [Int.zero_add, Nat.zero_add]
      have em : k.sh.ms[i]? = some k.sh.ms[i] := List.getElem?_eq_getElem hi
      have hi2 : i < (k.sh.prt a b c d).length := by omega
      have ep : (k.sh.prt a b c d)[i]? = some (k.sh.prt a b c d)[i] := List.getElem?_eq_getElem hi2
      have si := sm _ (List.mem_of_getElem? ep)
      generalize hq : (txs k.sh.ms (k.sh.prt a b c d)).take i = q
      have ql : q.length ≤ 3 := by
        rw [← hq, List.length_take]
        omega
      refine ⟨_, [some (.t (k.told a b c d)), some (sV k.sh.str), some (.r 0), some (iV i)], [strC (k.str :: (q ++ [ptx k.sh.ms[i] (k.sh.prt a b c d)[i]]))], rfl, ?_, by rw [txs_S _ _ em ep, hq], some (iV i), rfl⟩
      show dSs tab (callF tab (n + 2)) b__law_line_0 [some (.t (k.told a b c d)), some (sV k.sh.str), some (.r 0), some (iV i)] [strC (k.str :: q)] = _
      unfold b__law_line_0
      have t : dE tab (callF tab (n + 2)) (.cmp .Eq (.sub (.var 1) (.var 3)) (.con (.str (Str.ofString "b")))) [some (.t (k.told a b c d)), some (sV k.sh.str), some (.r 0), some (iV i)] [strC (k.str :: q)] = .ok (bV (decide (k.sh.ms[i] = 98))) [strC (k.str :: q)] :=
        ev_cmp (ev_sub (ev_var rfl) (ev_var rfl) (sh_at k.sh _ em)) (ev_con _) (by rw [cmpV_t, mark_eq k.sh em]; rfl)
      have part : dE tab (callF tab (n + 2)) (.blt .str false (.cons (.sub (.var 0) (.bin .Add (.con (.int 1)) (.var 3))) .nil)) [some (.t (k.told a b c d)), some (sV k.sh.str), some (.r 0), some (iV i)] [strC (k.str :: q)] = .ok (sV (itx (k.sh.prt a b c d)[i])) [strC (k.str :: q)] :=
        ev_blt (evs_cons (ev_sub (ev_var rfl) (ev_bin (x := iV 1) (y := iV i) (S1 := [strC (k.str :: q)]) (S2 := [strC (k.str :: q)]) (ev_con _) (ev_var rfl) rfl) (sub_S k a b c d _ ep)) evs_nil) (blt_str si false _)
      have hd : dE tab (callF tab (n + 2)) (.sub (.lst false (.cons (.con (.str (Str.ofString ""))) (.cons (.con (.str (Str.ofString "r"))) .nil))) (.blt .int false (.cons (.cmp .Eq (.sub (.var 1) (.var 3)) (.con (.str (Str.ofString "b")))) .nil))) [some (.t (k.told a b c d)), some (sV k.sh.str), some (.r 0), some (iV i)] [strC (k.str :: q)] = .ok (sV (if k.sh.ms[i] = 98 then Str.ofString "r" else Str.ofString "")) [strC (k.str :: q)] := by
        by_cases z : k.sh.ms[i] = 98
        · rw [decide_eq_true z] at t
          rw [if_pos z]
          exact ev_sub (x := .t (.lst [.str (Str.ofString ""), .str (Str.ofString "r")])) (y := iV 1) (S1 := [strC (k.str :: q)]) rfl (ev_blt (evs_cons t evs_nil) rfl) rfl
        · rw [decide_eq_false z] at t
          rw [if_neg z]
          exact ev_sub (x := .t (.lst [.str (Str.ofString ""), .str (Str.ofString "r")])) (y := iV 0) (S1 := [strC (k.str :: q)]) rfl (ev_blt (evs_cons t evs_nil) rfl) rfl
      have il := itx_len si
      have whole : dE tab (callF tab (n + 2)) (.bin .Add (.sub (.lst false (.cons (.con (.str (Str.ofString ""))) (.cons (.con (.str (Str.ofString "r"))) .nil))) (.blt .int false (.cons (.cmp .Eq (.sub (.var 1) (.var 3)) (.con (.str (Str.ofString "b")))) .nil))) (.blt .str false (.cons (.sub (.var 0) (.bin .Add (.con (.int 1)) (.var 3))) .nil))) [some (.t (k.told a b c d)), some (sV k.sh.str), some (.r 0), some (iV i)] [strC (k.str :: q)] = .ok (sV (ptx k.sh.ms[i] (k.sh.prt a b c d)[i])) [strC (k.str :: q)] := by
        refine ev_bin hd part ?_
        unfold ptx
        by_cases z : k.sh.ms[i] = 98
        · rw [if_pos z, if_pos z]
          exact add_str (by show 1 + _ ≤ _; omega) _
        · rw [if_neg z, if_neg z]
          rw [add_str (by show 0 + _ ≤ _; omega), str_nil_app]
      exact sx_expr (ev_bm (ev_var rfl) rfl (evs_cons whole evs_nil) (app_str (l := k.str :: q) rfl (by rw [List.length_cons]; omega))) rfl)
  subst hS
  subst he
  have el : (txs k.sh.ms (k.sh.prt a b c d)).take (0 + (rng 0 (k.sh.ms.length : Int)).length) = txs k.sh.ms (k.sh.prt a b c d) := List.take_of_length_le (by
    rw [rng_len]
    unfold txs
    rw [List.length_map, List.length_zip]
    omega)
  rw [el] at hf
  rw [hf, seq_nx]
  exact retP (sx_ret (ev_join (ev_con _) (evs_cons (ev_var rfl) evs_nil) (join_cell (n := 0) rfl (row_fit h))))
end Rw

namespace Rw
open PySem PySem.Spec PyProof.Rows L2 PySem.W
/-! ### the program's row_text -/
theorem call_shape_of (n : Nat) (k : Kd) (S : Store) : callF tab (n + 1) 1 [sV k.str] S = .ok (sV k.sh.str) S := by cases k <;> rfl
theorem call_part_text (n : Nat) (s : Shp) {i m : Nat} (h : s.ms[i]? = some m) {v : Int} (hv : smallI v) (S : Store) : callF tab (n + 1) 2 [sV ⟨#[m]⟩, iV v] S = .ok (sV (ptx m v)) S := by
  have il := itx_len hv
  rw [show ([sV ⟨#[m]⟩, iV v] : List Val) = [T.str ⟨#[m]⟩, .int v].map .t from rfl, callQ _ [some (sV ⟨#[m]⟩), some (iV v)] tab_part_text rfl rfl, c_part_text]
  have t : dB tab (callF tab n) (.val (.cmp .Eq (.var 0) (.glob 1))) [some (sV ⟨#[m]⟩), some (iV v)] [] = .ok (decide (m = 98)) [] := evB_val (ev_cmp (y := sV (Str.ofString "b")) (ev_var rfl) rfl (by rw [cmpV_t, mark_eq s h]; rfl))
  have st : dE tab (callF tab n) (.blt .str false (.cons (.var 1) .nil)) [some (sV ⟨#[m]⟩), some (iV v)] [] = .ok (sV (itx v)) [] := ev_blt (evs_cons (ev_var rfl) evs_nil) (blt_str hv false [])
  unfold ptx
  by_cases z : m = 98
  · rw [decide_eq_true z] at t
    rw [if_pos z]
    exact retP (S1 := []) (sx_ifT t (sx_seq_rt (sx_ret (ev_bin (ev_con _) st (add_str (by show 1 + _ ≤ _; omega) [])))))
  · rw [decide_eq_false z] at t
    rw [if_neg z]
    exact retP (S1 := []) (sx_ifF0 t (sx_ret st))
theorem sh_cps (s : Shp) : s.str.cps.toList = s.ms := by cases s <;> rfl
theorem zip_len (k : Kd) (a b c d : Int) : ((k.sh.ms.zip (k.sh.prt a b c d)).map fun p => Val.t (.tup [.str ⟨#[p.1]⟩, .int p.2])).length = k.sh.ms.length := by
  rw [List.length_map, List.length_zip, prt_len]
  omega
theorem slc_told (k : Kd) (a b c d : Int) (S : Store) : slcV false (.t (k.told a b c d)) (some 1) none S = .ok (.t (.tup ((k.sh.prt a b c d).map .int))) S := by
  cases k <;> rfl
theorem call_row_text (n : Nat) {k : Kd} {a b c d : Int} (h : k.ok a b c d) (S : Store) : callF tab (n + 4) 3 [.t (k.row a b c d)] S = .ok (sV (rowX k.str k.sh.ms (k.sh.prt a b c d))) S := by
  have l3 := sh_3 k.sh
  have lp := prt_len k.sh a b c d
  have sm := prt_small h
  rw [show ([.t (k.row a b c d)] : List Val) = [k.row a b c d].map .t from rfl, callQ _ [some (.t (k.row a b c d)), none, none, none, none] tab_row_text rfl rfl, c_row_text]
  rw [stay_set (.t (k.told a b c d)) (m_told n k a b c d rfl)]
  simp only [List.set_cons_succ, List.set_cons_zero]
  have e0 : ∀ (env : Env) (S : Store), env[1]? = some (some (.t (k.told a b c d))) → dE tab (callF tab (n + 3)) (.sub (.var 1) (.con (.int 0))) env S = .ok (sV k.str) S := fun env S e => ev_sub (ev_var e) (ev_con _) (sub_0 k a b c d S)
  rw [step_set (S1 := [strC [k.str]]) (.r 0) (ev_lst (evs_cons (e0 _ _ rfl) evs_nil) rfl)]
  simp only [List.set_cons_succ, List.set_cons_zero]
  have its : items .zip [sV k.sh.str, .t (.tup ((k.sh.prt a b c d).map .int))] [strC [k.str]] = .ok ((k.sh.ms.zip (k.sh.prt a b c d)).map fun p => Val.t (.tup [.str ⟨#[p.1]⟩, .int p.2]), none) [strC [k.str]] := by
    show R.ok ((k.sh.str.cps.toList.zip ((k.sh.prt a b c d).map T.int)).map fun p => Val.t (.tup [.str ⟨#[p.1]⟩, p.2]), none) _ = _
    rw [sh_cps, List.zip_map_right, List.map_map]
    rfl
  rw [step_for (vs := [sV k.sh.str, .t (.tup ((k.sh.prt a b c d).map .int))]) (its := (k.sh.ms.zip (k.sh.prt a b c d)).map fun p => Val.t (.tup [.str ⟨#[p.1]⟩, .int p.2])) (w := none) (S1 := [strC [k.str]]) (S2 := [strC [k.str]]) (evs_cons (ev_call (evs_cons (e0 _ _ rfl) evs_nil) (call_shape_of (n + 2) k _)) (evs_cons (ev_slcL (ev_var rfl) rfl (ev_con _) (slc_told k a b c d _)) evs_nil)) its]
  obtain ⟨e1, S1, hf, ⟨hS, b3, b4, he⟩⟩ := forL_idx (w := none) (many := true) (tg := [3, 4]) (body := fun env S => dSs tab (callF tab (n + 3)) b_row_text_0 env S)
    (fun j env S => S = [strC (k.str :: (txs k.sh.ms (k.sh.prt a b c d)).take j)] ∧ ∃ b3 b4 : Option Val, env = [some (.t (k.row a b c d)), some (.t (k.told a b c d)), some (.r 0), b3, b4]) (fun _ _ S _ => okW_none S) ((k.sh.ms.zip (k.sh.prt a b c d)).map fun p => Val.t (.tup [.str ⟨#[p.1]⟩, .int p.2])) 0 [some (.t (k.row a b c d)), some (.t (k.told a b c d)), some (.r 0), none, none] [strC [k.str]] ⟨rfl, none, none, rfl⟩ (by
      rintro i v env S hv ⟨rfl, b3, b4, rfl⟩
      have hi : i < k.sh.ms.length := by
        have := (List.getElem?_eq_some_iff.mp hv).1
        rw [zip_len] at this
        exact this
      have em : k.sh.ms[i]? = some k.sh.ms[i] := List.getElem?_eq_getElem hi
      have hi2 : i < (k.sh.prt a b c d).length := by omega
      have ep : (k.sh.prt a b c d)[i]? = some (k.sh.prt a b c d)[i] := List.getElem?_eq_getElem hi2
      have si := sm _ (List.mem_of_getElem? ep)
      rw [List.getElem?_map, show (k.sh.ms.zip (k.sh.prt a b c d))[i]? = some (k.sh.ms[i], (k.sh.prt a b c d)[i]) from List.getElem?_zip_eq_some.mpr ⟨em, ep⟩] at hv
      cases hv
      rw [Nat.zero_add]
      generalize hq : (txs k.sh.ms (k.sh.prt a b c d)).take i = q
      have ql : q.length ≤ 3 := by
        rw [← hq, List.length_take]
        omega
      refine ⟨[some (.t (k.row a b c d)), some (.t (k.told a b c d)), some (.r 0), some (sV ⟨#[k.sh.ms[i]]⟩), some (iV (k.sh.prt a b c d)[i])], [some (.t (k.row a b c d)), some (.t (k.told a b c d)), some (.r 0), some (sV ⟨#[k.sh.ms[i]]⟩), some (iV (k.sh.prt a b c d)[i])], [strC (k.str :: (q ++ [ptx k.sh.ms[i] (k.sh.prt a b c d)[i]]))], rfl, ?_, by rw [txs_S _ _ em ep, hq], _, _, rfl⟩
      unfold b_row_text_0
      exact sx_expr (ev_bm (ev_var rfl) rfl (evs_cons (ev_call (evs_cons (ev_var rfl) (evs_cons (ev_var rfl) evs_nil)) (call_part_text (n + 2) k.sh em si _)) evs_nil) (app_str (l := k.str :: q) rfl (by rw [List.length_cons]; omega))) rfl)
  subst hS
  subst he
  have el : (txs k.sh.ms (k.sh.prt a b c d)).take (0 + ((k.sh.ms.zip (k.sh.prt a b c d)).map fun p => Val.t (.tup [.str ⟨#[p.1]⟩, .int p.2])).length) = txs k.sh.ms (k.sh.prt a b c d) := List.take_of_length_le (by
    rw [zip_len]
    unfold txs
    rw [List.length_map, List.length_zip]
    omega)
  rw [el] at hf
  rw [hf, seq_nx]
  exact retP (sx_ret (ev_join (ev_con _) (evs_cons (ev_var rfl) evs_nil) (join_cell (n := 0) rfl (row_fit h))))
end Rw

namespace Rw
open PySem PySem.Spec PyProof.Rows L2 PySem.W
/-! ### codes and a hall, drawn -/
theorem xor_bd {x y : Int} (hx : 0 ≤ x) (hx2 : x < 16777216) (hy : 0 ≤ y) (hy2 : y < 16777216) : 0 ≤ Builtin.bitXor x y ∧ Builtin.bitXor x y < 16777216 := by
  rw [Bits.bitXor_pp hx hy]
  have z : x.toNat ^^^ y.toNat < 2 ^ 24 := Nat.xor_lt_two_pow (by omega) (by omega)
  omega
theorem shl_bd {b : Int} (h0 : 0 ≤ b) (h1 : b < 24) : (0 : Int) ≤ 1 * 2 ^ b.toNat ∧ (1 * 2 ^ b.toNat : Int) < 16777216 := by
  have z : (2 : Nat) ^ b.toNat < 2 ^ 24 := Nat.pow_lt_pow_right (by decide) (by omega)
  have e : (2 : Int) ^ b.toNat = ((2 ^ b.toNat : Nat) : Int) := by rw [Int.natCast_pow]; rfl
  rw [Int.one_mul, e]
  generalize (2 : Nat) ^ b.toNat = w at z
  have z : w < 16777216 := z
  omega
theorem cells_app {n : Nat} {S : Store} {l : List Int} {x : Int} (h : S[n]? = some (.lst (l.map iV))) (hl : l.length < 1000000) : bmV .append (.r n) [iV x] S = .ok (.t .non) (S.set n (.lst ((l ++ [x]).map iV))) := by
  rw [app_h h (by rw [List.length_map]; show _ < 16777216; omega), List.map_append]
  rfl
theorem call_codes (n : Nat) (ns : List Int) (hl : ns.length ≤ 63) : ∃ cs : List Int, cs.length ≤ 64 ∧ (∀ x ∈ cs, 0 ≤ x ∧ x < 16777216) ∧ ∀ S, callF tab (n + 4) 124 [.t (.scr ns), iV 12] S = .ok (.t (.lst (cs.map .int))) S := by
  have m3 := mod_bd (cell ns 901) (j := 3) (by decide)
  have s1 := (sel_at (l := [12, 12, 65]) m3.1 (by show _ < (3 : Int); omega))
  have s0 : atL [T.int 12, .int 12, .int 65] (cell ns 901 % 3) = _ := s1.1
  generalize hq : sel [12, 12, 65] (cell ns 901 % 3) = q at s0 s1
  have q0 : 0 < q ∧ q ≤ 65 := by
    have z := s1.2
    simp only [List.mem_cons, List.not_mem_nil, or_false] at z
    omega
  have mq := mod_bd (cell ns 900) q0.1
  let env0 : Env := [some (.t (.scr ns)), some (iV 12), some (iV (cell ns 900 % q)), some (.r 0), none, none, none]
  obtain ⟨e1, S1, hf, ⟨cs, hlen, hb, hS, b4, b5, b6, he⟩⟩ := forL_idx (w := none) (many := false) (tg := [4]) (body := fun env S => dSs tab (callF tab (n + 3)) b__law_codes_0 env S)
    (fun j env S => ∃ cs : List Int, cs.length = j ∧ (∀ x ∈ cs, 0 ≤ x ∧ x < 16777216) ∧ S = [.lst (cs.map iV)] ∧ ∃ b4 b5 b6 : Option Val, env = [some (.t (.scr ns)), some (iV 12), some (iV (cell ns 900 % q)), some (.r 0), b4, b5, b6]) (fun _ _ S _ => okW_none S) (rng 0 (cell ns 900 % q)) 0 env0 [.lst []] ⟨[], rfl, fun _ h => (by cases h), rfl, none, none, none, rfl⟩ (by
      rintro i v env S hv ⟨cs, hlen, hb, rfl, b4, b5, b6, rfl⟩
      have hi : i < (cell ns 900 % q).toNat := by
        have := (List.getElem?_eq_some_iff.mp hv).1
        rw [rng_len] at this
        omega
      rw [rng_get (by omega)] at hv
      cases hv
      rw [Int.zero_add]
      rw [Nat.zero_add] at hlen
      have hc := call_cell (n + 1) ns (100 + (i : Int)) [.lst (cs.map iV)] hl (by omega)
      obtain ⟨k, a, b, c, d, ok, ht⟩ := call_told_by n ns (200 + (i : Int)) hl (by omega) [.lst (cs.map iV)]
      have hcd := call_code n ok [.lst (cs.map iV)]
      have cb := code_bd ok
      generalize hm : cell ns (100 + (i : Int)) = m at hc
      have m24 := mod_bd (m / 5) (j := 16777216) (by decide)
      have mb := mod_bd (m / 5) (j := 24) (by decide)
      have sb := shl_bd mb.1 mb.2
      have xb := xor_bd cb.1 cb.2 sb.1 sb.2
      generalize hcode : k.code a b c d = code at hcd cb xb
      let fin : Int := if m % 5 = 1 then m / 5 % 16777216 else if m % 5 = 2 then Builtin.bitXor code (1 * 2 ^ (m / 5 % 24).toNat) else code
      have fb : 0 ≤ fin ∧ fin < 16777216 := by
        show 0 ≤ (if m % 5 = 1 then m / 5 % 16777216 else if m % 5 = 2 then Builtin.bitXor code (1 * 2 ^ (m / 5 % 24).toNat) else code) ∧ (if m % 5 = 1 then m / 5 % 16777216 else if m % 5 = 2 then Builtin.bitXor code (1 * 2 ^ (m / 5 % 24).toNat) else code) < 16777216
        split
        · exact m24
        · split
          · exact xb
          · exact cb
      refine ⟨_, [some (.t (.scr ns)), some (iV 12), some (iV (cell ns 900 % q)), some (.r 0), some (iV i), some (iV m), some (iV fin)], [.lst ((cs ++ [fin]).map iV)], rfl, ?_, cs ++ [fin], by rw [List.length_append, hlen, Nat.zero_add]; rfl, fun x hx => (by
        rcases List.mem_append.mp hx with h | h
        · exact hb x h
        · rw [List.mem_singleton.mp h]
          exact fb), rfl, _, _, _, rfl⟩
      show dSs tab (callF tab (n + 3)) b__law_codes_0 [some (.t (.scr ns)), some (iV 12), some (iV (cell ns 900 % q)), some (.r 0), some (iV i), b5, b6] [.lst (cs.map iV)] = _
      unfold b__law_codes_0
      refine sx_set (ev_call (evs_cons (ev_var rfl) (evs_cons (ev_bin (x := iV 100) (y := iV i) (ev_con _) (ev_var rfl) rfl) evs_nil)) hc) ?_
      simp only [List.set_cons_succ, List.set_cons_zero]
      refine sx_set (ev_call (evs_cons (ev_call (evs_cons (ev_var rfl) (evs_cons (ev_bin (x := iV 200) (y := iV i) (ev_con _) (ev_var rfl) rfl) evs_nil)) ht) evs_nil) hcd) ?_
      simp only [List.set_cons_succ, List.set_cons_zero]
      have t : ∀ (b6 : Option Val) (r : Int), dB tab (callF tab (n + 3)) (.val (.cmp .Eq (.bin .Mod (.var 5) (.con (.int 5))) (.con (.int r)))) [some (.t (.scr ns)), some (iV 12), some (iV (cell ns 900 % q)), some (.r 0), some (iV i), some (iV m), b6] [.lst (cs.map iV)] = .ok (decide (m % 5 = r)) [.lst (cs.map iV)] := fun b6 r =>
        evB_val (ev_cmp (ev_bin (x := iV m) (y := iV 5) (ev_var rfl) (ev_con _) rfl) (ev_con _) (by rw [cmpV_t, show cmpT .Eq (.int (m % 5)) (.int r) = eqT (.int (m % 5)) (.int r) from rfl, eqT_int]; rfl))
      have app : ∀ x : Int, dSs tab (callF tab (n + 3)) (.cons (.expr (.bm .append false (.var 3) (.cons (.var 6) .nil))) .nil) [some (.t (.scr ns)), some (iV 12), some (iV (cell ns 900 % q)), some (.r 0), some (iV i), some (iV m), some (iV x)] [.lst (cs.map iV)] = .nx [some (.t (.scr ns)), some (iV 12), some (iV (cell ns 900 % q)), some (.r 0), some (iV i), some (iV m), some (iV x)] [.lst ((cs ++ [x]).map iV)] := fun x =>
        sx_expr (ev_bm (ev_var rfl) rfl (evs_cons (ev_var rfl) evs_nil) (cells_app (n := 0) rfl (by omega))) rfl
      by_cases p1 : m % 5 = 1
      · have ef : fin = m / 5 % 16777216 := if_pos p1
        rw [ef]
        have t1 := t (some (iV code)) 1
        rw [decide_eq_true p1] at t1
        refine sx_ifT t1 (sx_seq (sx_set (v := iV (m / 5 % 16777216)) (S1 := [.lst (cs.map iV)]) (ev_bin (x := iV (m / 5)) (y := iV 16777216) (ev_bin (x := iV m) (y := iV 5) (ev_var rfl) (ev_con _) rfl) rfl rfl) rfl) ?_)
        simp only [List.set_cons_succ, List.set_cons_zero]
        have t2 := t (some (iV (m / 5 % 16777216))) 2
        rw [decide_eq_false (by omega)] at t2
        exact sx_ifF0 t2 (app _)
      · have t1 := t (some (iV code)) 1
        rw [decide_eq_false p1] at t1
        refine sx_ifF0 t1 ?_
        by_cases p2 : m % 5 = 2
        · have ef : fin = Builtin.bitXor code (1 * 2 ^ (m / 5 % 24).toNat) := by
            show (if m % 5 = 1 then m / 5 % 16777216 else if m % 5 = 2 then Builtin.bitXor code (1 * 2 ^ (m / 5 % 24).toNat) else code) = _
            rw [if_neg p1, if_pos p2]
          rw [ef]
          have t2 := t (some (iV code)) 2
          rw [decide_eq_true p2] at t2
          refine sx_ifT t2 (sx_seq (sx_set (v := iV (Builtin.bitXor code (1 * 2 ^ (m / 5 % 24).toNat))) (S1 := [.lst (cs.map iV)]) (ev_bin (x := iV code) (y := iV (1 * 2 ^ (m / 5 % 24).toNat)) (ev_var rfl) (ev_bin (x := iV 1) (y := iV (m / 5 % 24)) (ev_con _) (ev_bin (x := iV (m / 5)) (y := iV 24) (ev_bin (x := iV m) (y := iV 5) (ev_var rfl) (ev_con _) rfl) (ev_con _) rfl) ?_) rfl) rfl) ?_)
          · rw [binV_int, binI_shl mb.1 (by omega) (by decide)]
            rfl
          · simp only [List.set_cons_succ, List.set_cons_zero]
            exact app _
        · have ef : fin = code := by
            show (if m % 5 = 1 then m / 5 % 16777216 else if m % 5 = 2 then Builtin.bitXor code (1 * 2 ^ (m / 5 % 24).toNat) else code) = _
            rw [if_neg p1, if_neg p2]
          rw [ef]
          have t2 := t (some (iV code)) 2
          rw [decide_eq_false p2] at t2
          exact sx_ifF0 t2 (app _))
  refine ⟨cs, ?_, hb, fun S => ?_⟩
  · rw [hlen, rng_len]
    omega
  rw [show ([.t (.scr ns), iV 12] : List Val) = [T.scr ns, .int 12].map .t from rfl, callQ _ [some (.t (.scr ns)), some (iV 12), none, none, none, none, none] tab__law_codes rfl rfl, c__law_codes]
  have c0 := call_cell (n + 1) ns 900 [] hl (by decide)
  have c1 := call_cell (n + 1) ns 901 [] hl (by decide)
  rw [stay_set (iV (cell ns 900 % q)) (by
    refine ev_bin (x := iV (cell ns 900)) (y := iV q) (S1 := []) (S2 := []) (ev_call (evs_cons (ev_var rfl) (evs_cons (ev_con _) evs_nil)) c0) (ev_sub (x := .t (.lst [.int 12, .int 12, .int 65])) (y := iV (cell ns 901 % 3)) (S1 := []) (S2 := []) rfl (ev_bin (x := iV (cell ns 901)) (y := iV 3) (S1 := []) (S2 := []) (ev_call (evs_cons (ev_var rfl) (evs_cons (ev_con _) evs_nil)) c1) (ev_con _) rfl) (by rw [sub_lst, s0]; rfl)) ?_
    rw [binV_int, binI_mod q0.1]
    rfl)]
  simp only [List.set_cons_succ, List.set_cons_zero]
  rw [step_set (S1 := [.lst []]) (.r 0) rfl]
  simp only [List.set_cons_succ, List.set_cons_zero]
  rw [step_for (vs := [iV (cell ns 900 % q)]) (its := rng 0 (cell ns 900 % q)) (w := none) (S1 := [.lst []]) (S2 := [.lst []]) (evs_cons (ev_var rfl) evs_nil) (items_rng1 _ _ (rngOk_of (by omega) (by omega)))]
  subst hS
  subst he
  rw [hf, seq_nx, step_ret (.r 0) (ev_var rfl)]
  refine resP_lst (n := 0) ?_
  rw [List.map_map]
  rfl
def hallOk (h : T) : Prop := h = .non ∨ ∃ i : Int, h = .int i ∧ 0 ≤ i ∧ i ≤ 1023
theorem call_hall (n : Nat) (ns : List Int) (hl : ns.length ≤ 63) : ∃ h : T, hallOk h ∧ ∀ S, callF tab (n + 3) 125 [.t (.scr ns)] S = .ok (.t h) S := by
  have m4 := mod_bd (cell ns 903) (j := 4) (by decide)
  have b1 := mod_bd (cell ns 902) (j := 1024) (by decide)
  have b2 := mod_bd (cell ns 902) (j := 70) (by decide)
  let l : List T := [.non, .int (cell ns 902 % 1024), .int (cell ns 902 % 70), .int 0]
  have hlt : (cell ns 903 % 4).toNat < l.length := by show _ < 4; omega
  have e : atL l (cell ns 903 % 4) = some l[(cell ns 903 % 4).toNat] := by
    rw [atL_nat m4.1 (by show _ < (4 : Int); omega)]
    exact List.getElem?_eq_getElem hlt
  refine ⟨l[(cell ns 903 % 4).toNat], ?_, fun S => ?_⟩
  · have z : l[(cell ns 903 % 4).toNat] ∈ l := List.getElem_mem hlt
    revert z
    generalize l[(cell ns 903 % 4).toNat] = h
    intro z
    simp only [l, List.mem_cons, List.not_mem_nil, or_false] at z
    rcases z with rfl | rfl | rfl | rfl
    · exact .inl rfl
    · exact .inr ⟨_, rfl, by omega, by omega⟩
    · exact .inr ⟨_, rfl, by omega, by omega⟩
    · exact .inr ⟨0, rfl, by decide, by decide⟩
  · rw [show ([.t (.scr ns)] : List Val) = [T.scr ns].map .t from rfl, callQ _ [some (.t (.scr ns))] tab__law_hall rfl rfl, c__law_hall]
    have c2 := call_cell n ns 902 [] hl (by decide)
    have c3 := call_cell n ns 903 [] hl (by decide)
    refine retP (S1 := []) (sx_ret (ev_sub (x := .t (.lst l)) (y := iV (cell ns 903 % 4)) (S1 := []) (S2 := []) (ev_lst (vs := l.map .t) (S1 := []) (evs_cons (ev_con _) (evs_cons (ev_bin (x := iV (cell ns 902)) (y := iV 1024) (S1 := []) (S2 := []) (ev_call (evs_cons (ev_var rfl) (evs_cons (ev_con _) evs_nil)) c2) (ev_con _) rfl) (evs_cons (ev_bin (x := iV (cell ns 902)) (y := iV 70) (S1 := []) (S2 := []) (ev_call (evs_cons (ev_var rfl) (evs_cons (ev_con _) evs_nil)) c2) (ev_con _) rfl) (evs_cons (ev_con _) evs_nil)))) rfl) (ev_bin (x := iV (cell ns 903)) (y := iV 4) (S1 := []) (S2 := []) (ev_call (evs_cons (ev_var rfl) (evs_cons (ev_con _) evs_nil)) c3) (ev_con _) rfl) ?_))
    rw [sub_lst, e]
    rfl
end Rw

namespace Rw
open PySem PySem.Spec PyProof.Rows L2 PySem.W
/-! ### a program's text -/
def lineX (x : Int) : Str := match Kd.ofOp (x / 524288) with
  | none => Str.ofString "code " ++ itx x
  | some k => if k.cx x = x then rowX k.str k.sh.ms (k.sh.prt (xa x) (xb x) (xc x) (k.nby (xn x))) else Str.ofString "code " ++ itx x
theorem found_cases (x : Int) : (foundX x = .non ∧ lineX x = Str.ofString "code " ++ itx x) ∨ ∃ (k : Kd) (a b c n : Int), k.ok a b c n ∧ foundX x = k.row a b c n ∧ lineX x = rowX k.str k.sh.ms (k.sh.prt a b c n) := by
  unfold foundX lineX
  cases h : Kd.ofOp (x / 524288) with
  | none => exact .inl ⟨rfl, rfl⟩
  | some k =>
    by_cases q : k.cx x = x
    · refine .inr ⟨k, xa x, xb x, xc x, k.nby (xn x), x_ok k x, ?_, ?_⟩
      · show (if k.cx x = x then _ else _) = _
        rw [if_pos q]
      · show (if k.cx x = x then _ else _) = _
        rw [if_pos q]
    · refine .inl ⟨?_, ?_⟩
      · show (if k.cx x = x then _ else _) = _
        rw [if_neg q]
      · show (if k.cx x = x then _ else _) = _
        rw [if_neg q]
theorem code_small {x : Int} (x0 : 0 ≤ x) (x1 : x < 16777216) : smallI x := by
  unfold smallI
  omega
theorem join_le : ∀ (y : Str) (l : List Str), (Txt.join y l).length ≤ (l.map Str.length).sum + l.length * y.length := by
  intro y l
  rw [TL.join_eq, TL.len_tl, TL.tl_join]
  have key : ∀ (s : List Nat) (l : List (List Nat)), (TL.joinL s l).length ≤ (l.map List.length).sum + l.length * s.length := by
    intro s l
    induction l with
    | nil => simp [TL.joinL]
    | cons a l ih =>
      cases l with
      | nil => simp [TL.joinL]
      | cons b l =>
        show (a ++ (s ++ TL.joinL s (b :: l))).length ≤ _
        rw [List.length_append, List.length_append, List.map_cons, List.sum_cons, List.length_cons, Nat.succ_mul]
        omega
  have z := key (TL.tl y) (l.map TL.tl)
  rw [List.length_map, List.map_map] at z
  have e : (List.length ∘ TL.tl) = Str.length := by
    funext x
    exact (TL.len_tl x).symm
  rw [e, ← TL.len_tl] at z
  exact z
theorem rowX_len {k : Kd} {a b c n : Int} (h : k.ok a b c n) : (rowX k.str k.sh.ms (k.sh.prt a b c n)).length ≤ 100 := by
  have l1 : (txs k.sh.ms (k.sh.prt a b c n)).length ≤ 3 := by
    unfold txs
    rw [List.length_map, List.length_zip]
    have := sh_3 k.sh
    omega
  have all : ∀ x ∈ k.str :: txs k.sh.ms (k.sh.prt a b c n), x.length ≤ 22 := fun x hx => by
    rcases List.mem_cons.mp hx with rfl | hx
    · exact Nat.le_trans (word_len k) (by decide)
    · obtain ⟨p, hp, rfl⟩ := List.mem_map.mp hx
      exact ptx_len (prt_small h _ (List.of_mem_zip hp).2)
  have s := sum_len all
  have j := join_le (Str.ofString " ") (k.str :: txs k.sh.ms (k.sh.prt a b c n))
  have e : (Str.ofString " ").length = 1 := rfl
  rw [e] at j
  rw [List.length_cons] at s j
  show (Txt.join (Str.ofString " ") (k.str :: txs k.sh.ms (k.sh.prt a b c n))).length ≤ 100
  have : ((txs k.sh.ms (k.sh.prt a b c n)).length + 1) * 22 ≤ 4 * 22 := Nat.mul_le_mul_right _ (by omega)
  omega
theorem line_len {x : Int} (x0 : 0 ≤ x) (x1 : x < 16777216) : (lineX x).length ≤ 100 := by
  rcases found_cases x with ⟨_, e⟩ | ⟨k, a, b, c, n, ok, _, e⟩
  · have := itx_len (code_small x0 x1)
    rw [e, str_app_len]
    show 5 + _ ≤ _
    omega
  · rw [e]
    exact rowX_len ok
section
variable (n : Nat) {cs : List Int} {h : T}
theorem call_line_at (hc : ∀ x ∈ cs, 0 ≤ x ∧ x < 16777216) {j : Nat} (hj : j < cs.length) (S : Store) : callF tab (n + 8) 4 [.t (progT (cs.map .int) h), iV j] S = .ok (sV (lineX cs[j])) S := by
  have hb := hc _ (List.getElem_mem hj)
  have er : rowAt cs (j : Int) = foundX cs[j] := by
    unfold rowAt
    rw [if_neg (by omega), Int.toNat_natCast, List.getElem?_eq_getElem hj]
    rfl
  have hr := call_row_at n cs h (j : Int) [] hc (by omega)
  rw [er] at hr
  rw [show ([.t (progT (cs.map .int) h), iV j] : List Val) = [progT (cs.map .int) h, T.int j].map .t from rfl, callQ _ [some (.t (progT (cs.map .int) h)), some (iV j), none] tab_line_at rfl rfl, c_line_at]
  rw [stay_set (.t (foundX cs[j])) (ev_meth (S2 := []) (ev_var rfl) rfl (evs_cons (ev_var rfl) evs_nil) hr)]
  simp only [List.set_cons_succ, List.set_cons_zero]
  have hs : subV (.t (.tup (cs.map T.int))) (iV (j : Int)) [] = .ok (iV cs[j]) [] := by
    rw [sub_tup, atL_map, atL_nat (by omega) (by omega), Int.toNat_natCast, List.getElem?_eq_getElem hj]
    rfl
  have t : dB tab (callF tab (n + 7)) (.val (.cmp .Is (.var 2) (.con .non))) [some (.t (progT (cs.map .int) h)), some (iV j), some (.t (foundX cs[j]))] [] = .ok (isNon (foundX cs[j])) [] := evB_val (ev_cmp (ev_var rfl) (ev_con _) rfl)
  rcases found_cases cs[j] with ⟨e1, e2⟩ | ⟨k, a, b, c, d, ok, e1, e2⟩
  · rw [e1] at t ⊢
    have il := itx_len (code_small hb.1 hb.2)
    rw [e2]
    refine retP (S1 := []) (sx_ifT t (sx_seq_rt (sx_ret (ev_bin (ev_con _) (ev_blt (evs_cons (ev_sub (ev_fld (ev_var rfl) rfl) (ev_var rfl) hs) evs_nil) (blt_str (code_small hb.1 hb.2) false [])) (add_str (by show 5 + _ ≤ _; omega) [])))))
  · rw [e1, row_non] at t
    rw [e1, e2]
    exact retP (S1 := []) (sx_ifF0 t (sx_ret (ev_call (evs_cons (ev_var rfl) evs_nil) (call_row_text (n + 3) ok []))))
/-- the rows of a program's text -/
def hallX (h : T) : List Str := match h with
  | .int i => [Str.ofString "hall " ++ itx i]
  | _ => []
def linesX (cs : List Int) (h : T) : List Str := hallX h ++ cs.map lineX
def nl (x : Str) : Str := x ++ Str.ofString "\n"
def writX (cs : List Int) (h : T) : Str := Txt.join (Str.ofString "") ((linesX cs h).map nl)
theorem hall_len {h : T} (hh : hallOk h) : ∀ x ∈ hallX h, x.length ≤ 100 := by
  rcases hh with rfl | ⟨i, rfl, i0, i1⟩
  · exact fun x hx => by cases hx
  · intro x hx
    rw [List.mem_singleton.mp hx, str_app_len]
    have := itx_len (v := i) (by unfold smallI; omega)
    show 5 + _ ≤ _
    omega
theorem lines_len (hc : ∀ x ∈ cs, 0 ≤ x ∧ x < 16777216) (hh : hallOk h) : ∀ x ∈ linesX cs h, x.length ≤ 100 := by
  intro x hx
  rcases List.mem_append.mp hx with hx | hx
  · exact hall_len hh x hx
  · obtain ⟨y, hy, rfl⟩ := List.mem_map.mp hx
    exact line_len (hc y hy).1 (hc y hy).2
theorem lines_many (hl : cs.length ≤ 64) (hh : hallOk h) : (linesX cs h).length ≤ 65 := by
  unfold linesX
  rw [List.length_append, List.length_map]
  rcases hh with rfl | ⟨i, rfl, _⟩
  · show 0 + _ ≤ _
    omega
  · show 1 + _ ≤ _
    omega
theorem nl_fit {l : List Str} (hl : l.length ≤ 1000) (h : ∀ x ∈ l, x.length ≤ 100) (y : Str) (hy : y.length ≤ 1) : ((l.map nl).map Str.length).sum + (l.map nl).length * y.length ≤ 16777216 := by
  have all : ∀ x ∈ l.map nl, x.length ≤ 101 := fun x hx => by
    obtain ⟨z, hz, rfl⟩ := List.mem_map.mp hx
    have := h z hz
    unfold nl
    rw [str_app_len]
    show _ + 1 ≤ _
    omega
  have s := sum_len all
  rw [List.length_map] at s ⊢
  have : l.length * 101 ≤ 1000 * 101 := Nat.mul_le_mul_right _ hl
  have : l.length * y.length ≤ 1000 * 1 := Nat.mul_le_mul hl hy
  omega
theorem join_tree {S : Store} {l : List Str} {x : Str} (hz : (l.map Str.length).sum + l.length * x.length ≤ 16777216) : joinV (sV x) [.t (.lst (l.map T.str))] S = .ok (sV (Txt.join x l)) S := by
  show (match strsT (l.map T.str) with
      | some ys => if (ys.map Str.length).sum + ys.length * x.length ≤ 16777216 then R.ok (Val.t (T.str (Txt.join x ys))) S else R.bad
      | none => R.bad) = _
  rw [strsT_map]
  exact if_pos hz
theorem add_nl {x : Str} (h : x.length ≤ 100) (S : Store) : binV .Add (sV x) (sV (Str.ofString "\n")) S = .ok (sV (nl x)) S := add_str (by show _ + 1 ≤ _; omega) S
end
section
variable {tb : Tab} {call : Call} {env : Env}
/-- "".join([line + "\n" for line in lines]): lines a cell -/
theorem ev_joined {S : Store} {i v : Nat} {l : List Str} {env : Env} {k : Nat} (hi : (wipeE env [v])[i]? = some (some (.r k))) (hi0 : env[i]? = some (some (.r k))) (hv : v < env.length) (hk : S[k]? = some (strC l)) (hl : l.length ≤ 1000) (h : ∀ x ∈ l, x.length ≤ 100) :
    dE tb call (.join (.con (.str (Str.ofString ""))) (.cons (.comp false .seq (.cons (.var i) .nil) false [v] .nil (.bin .Add (.var v) (.con (.str (Str.ofString "\n"))))) .nil)) env S = .ok (sV (Txt.join (Str.ofString "") (l.map nl))) S := by
  have ez : szLine = 16777216 := rfl
  refine ev_join (ev_con _) (evs_cons (S1 := S) (v := .t (.lst ((l.map nl).map T.str))) ?_ evs_nil) (join_tree (nl_fit hl h _ (by decide)))
  have z := comp_map (tab := tb) (call := call) (kk := .seq) (src := .cons (.var i) .nil) (many := false) (tg := [v]) (elt := .bin .Add (.var v) (.con (.str (Str.ofString "\n")))) (env := env) (S := S) l (fun x => sV x) (fun x => T.str (nl x)) (by omega) (w := some (k, (l.map T.str).map .t)) (by
    rw [evs_cons (ev_var hi0) evs_nil, R.bind_ok, items_h hk, List.map_map]
    rfl) hk fun x hx => ⟨(wipeE env [v]).set v (some (sV x)), rfl, ev_bin (ev_var (by
      rw [List.getElem?_set_self]
      show v < (env.set v none).length
      rw [List.length_set]
      exact hv)) (ev_con _) (add_nl (h x hx) S)⟩
  rw [List.map_map]
  exact z
end
section
variable (n : Nat) {cs : List Int} {h : T}
theorem call_written (hl : cs.length ≤ 64) (hc : ∀ x ∈ cs, 0 ≤ x ∧ x < 16777216) (hh : hallOk h) (S : Store) : callF tab (n + 9) 5 [.t (progT (cs.map .int) h)] S = .ok (sV (writX cs h)) S := by
  have ez : szLine = 16777216 := rfl
  rw [show ([.t (progT (cs.map .int) h)] : List Val) = [progT (cs.map .int) h].map .t from rfl, callQ _ [some (.t (progT (cs.map .int) h)), none, none, none] tab_written rfl rfl, c_written]
  have hcomp : dE tab (callF tab (n + 8)) (.comp true .range (.cons (.blt .len false (.cons (.fld (.var 0) 5) .nil)) .nil) false [2] .nil (.call 4 (.cons (.var 0) (.cons (.var 2) .nil)))) [some (.t (progT (cs.map .int) h)), none, none, none] [] = .ok (.r 0) [strC (cs.map lineX)] := by
    rw [comp_V (List.range cs.length) (fun j => iV ((j : Nat) : Int)) (fun j => sV (lineX (cs[j]?.getD 0))) (fun _ => true) (by rw [List.length_range]; omega) (w := none) (by
      rw [evs_cons (ev_blt (evs_cons (ev_fld (ev_var rfl) rfl) evs_nil) (prog_len cs [])) evs_nil]
      show items .range [iV cs.length] [] = _
      rw [items_rng1 _ _ (rngOk_of (by omega) (by omega))]
      unfold rng
      rw [show ((cs.length : Int) - 0).toNat = cs.length by omega]
      congr 2
      refine List.map_congr_left fun i _ => ?_
      show Val.t (T.int (0 + (i : Int))) = _
      rw [Int.zero_add]) (okW_none _) fun j hj => ?_]
    · rw [alloc_r _ _ (by
        rw [List.length_map, List.filter_eq_self.mpr fun _ _ => rfl, List.length_range]
        omega)]
      have e : ((List.range cs.length).filter fun _ => true).map (fun j => sV (lineX (cs[j]?.getD 0))) = ((cs.map lineX).map T.str).map Val.t := by
        rw [List.filter_eq_self.mpr fun _ _ => rfl]
        refine List.ext_getElem (by simp) fun i h1 h2 => ?_
        have hi : i < cs.length := by simpa using h1
        simp [hi]
      rw [e]
      rfl
    · have hj := List.mem_range.mp hj
      refine ⟨[some (.t (progT (cs.map .int) h)), none, some (iV j), none], rfl, rfl, fun _ => ?_⟩
      rw [List.getElem?_eq_getElem hj]
      exact ev_call (evs_cons (ev_var rfl) (evs_cons (ev_var rfl) evs_nil)) (call_line_at n hc hj [])
  rw [step_set (.r 0) hcomp]
  simp only [List.set_cons_succ, List.set_cons_zero]
  have fin : ∀ l : List Str, l.length ≤ 65 → (∀ x ∈ l, x.length ≤ 100) → dE tab (callF tab (n + 8)) (.join (.con (.str (Str.ofString ""))) (.cons (.comp false .seq (.cons (.var 1) .nil) false [3] .nil (.bin .Add (.var 3) (.con (.str (Str.ofString "\n"))))) .nil)) [some (.t (progT (cs.map .int) h)), some (.r 0), none, none] [strC l] = .ok (sV (Txt.join (Str.ofString "") (l.map nl))) [strC l] := fun l h1 h2 =>
    ev_joined (k := 0) rfl rfl (by show 3 < 4; decide) rfl (by omega) h2
  have tt : dB tab (callF tab (n + 8)) (.val (.cmp .IsNot (.fld (.var 0) 6) (.con .non))) [some (.t (progT (cs.map .int) h)), some (.r 0), none, none] [strC (cs.map lineX)] = .ok (!isNon h) [strC (cs.map lineX)] := evB_val (ev_cmp (ev_fld (ev_var rfl) rfl) (ev_con _) (isNot_non h _))
  have lm := lines_many hl hh
  have ll := lines_len hc hh
  rcases hh with rfl | ⟨i, rfl, i0, i1⟩
  · exact retP (sx_ifF0 tt (sx_ret (fin _ lm ll)))
  · have is : smallI i := by unfold smallI; omega
    have il := itx_len is
    refine retP (sx_ifT tt (sx_seq (sx_expr (S1 := [strC (linesX cs (.int i))]) (v := .t .non) (ev_bm (S1 := [strC (cs.map lineX)]) (S2 := [strC (cs.map lineX)]) (ev_var rfl) rfl (evs_cons (ev_con _) (evs_cons (ev_bin (ev_con _) (ev_blt (evs_cons (ev_fld (ev_var rfl) rfl) evs_nil) (blt_str is false _)) (add_str (by show 5 + _ ≤ _; omega) _)) evs_nil)) ?_) rfl) (sx_ret (fin _ lm ll))))
    show (if (((cs.map lineX).map T.str).map Val.t).length < szLine ∧ (0:Int) ≤ 0 ∧ (0:Int) < 1048576 then _ else _) = _
    rw [if_pos ⟨by rw [List.length_map, List.length_map, List.length_map]; omega, by decide, by decide⟩]
    rfl
end
/-! ### line ends -/
theorem spl_count (c : Nat) : ∀ (l acc : List Nat), (TL.spl [c] 0 acc l).length = l.count c + 1
  | [], acc => by rw [TL.spl_nil]; rfl
  | d :: l, acc => by
    by_cases h : d = c
    · subst h
      rw [TL.spl_hit (show TL.pre [d] (d :: l) = true by show ((d :: l).take 1 == [d]) = true; simp), List.length_cons]
      show (TL.spl [d] 0 [] l).length + 1 = _
      rw [spl_count d l [], List.count_cons_self]
    · rw [TL.spl_miss (show TL.pre [c] (d :: l) = false by
        show ((d :: l).take 1 == [c]) = false
        simp [h]), spl_count c l _, List.count_cons_of_ne h]
theorem count_one (x : Str) (c : Nat) (hc : c < 256) : Txt.count x ⟨#[c]⟩ = ((TL.tl x).count c : Nat) := by
  by_cases hx : x.length < 1
  · obtain ⟨a⟩ := x
    have e : a = #[] := Array.eq_empty_of_size_eq_zero (by show a.size = 0; have : a.size < 1 := hx; omega)
    subst e
    unfold Txt.count
    rw [occ_nil_of_no ⟨#[]⟩ ⟨#[c]⟩ _ fun i hi => absurd (show i + 1 ≤ 0 from hi) (by omega)]
    rfl
  · have hk := TL.kind_ok (x := x) (y := ⟨#[c]⟩) (by simp [hc])
    have e := congrArg List.length (TL.split_spl x ⟨#[c]⟩ (by simp) hk)
    rw [List.length_map, show TL.tl ⟨#[c]⟩ = [c] from rfl, spl_count] at e
    unfold Txt.count
    have hlen : (⟨#[c]⟩ : Str).length = 1 := rfl
    have e2 : (Txt.split x ⟨#[c]⟩).length = (Builtin.Str.occurrences x ⟨#[c]⟩ 0 x.length (x.length + 1)).length + 1 := by
      unfold Txt.split
      rw [if_neg (by
        rw [hlen, decide_eq_false hx, decide_eq_false hk]
        decide)]
      split
      · rename_i h
        rw [List.isEmpty_iff.mp h]
        rfl
      · unfold Builtin.Str.partsBetween
        simp
    congr 1
    omega
theorem itx_signs (v : Int) : ∀ c ∈ TL.tl (itx v), c = 45 ∨ (48 ≤ c ∧ c ≤ 57) := by
  have nat : ∀ n : Nat, ∀ c ∈ TL.numL n, 48 ≤ c ∧ c ≤ 57 := fun n c hc => by
    refine ⟨?_, ?_⟩
    · exact Nat.le_of_not_lt fun h => TL.numL_free (n := n) (s := c) (.inl h) hc
    · exact Nat.le_of_not_lt fun h => TL.numL_free (n := n) (s := c) (.inr h) hc
  cases v with
  | ofNat n =>
    intro c hc
    have e : TL.tl (itx (Int.ofNat n)) = TL.numL n := TL.tl_num n
    rw [e] at hc
    exact .inr (nat n c hc)
  | negSucc n =>
    intro c hc
    have e : itx (Int.negSucc n) = Str.ofString ("-" ++ toString (n + 1)) := rfl
    have e1 : TL.numL (n + 1) = (toString (n + 1)).toList.map Char.toNat := by
      have z := TL.tl_num (n + 1)
      rw [TL.tl_ofString] at z
      exact z.symm
    rw [e, TL.tl_ofString, String.toList_append, List.map_append, ← e1] at hc
    rcases List.mem_append.mp hc with hc | hc
    · exact .inl (List.mem_singleton.mp hc)
    · exact .inr (nat _ c hc)
theorem nl_free_row {k : Kd} {a b c n : Int} : 10 ∉ TL.tl (rowX k.str k.sh.ms (k.sh.prt a b c n)) := by
  unfold rowX
  rw [TL.join_eq, TL.tl_join]
  have key : ∀ l : List (List Nat), (∀ p ∈ l, 10 ∉ p) → 10 ∉ TL.joinL (TL.tl (Str.ofString " ")) l := by
    intro l
    induction l with
    | nil => intro _ h; cases h
    | cons p l ih =>
      intro hp
      cases l with
      | nil => exact hp p List.mem_cons_self
      | cons q l =>
        intro h
        have h : 10 ∈ p ++ (TL.tl (Str.ofString " ") ++ TL.joinL (TL.tl (Str.ofString " ")) (q :: l)) := h
        rcases List.mem_append.mp h with h | h
        · exact hp p List.mem_cons_self h
        · rcases List.mem_append.mp h with h | h
          · revert h
            decide
          · exact ih (fun r hr => hp r (List.mem_cons_of_mem _ hr)) h
  refine key _ fun p hp => ?_
  rw [List.map_cons] at hp
  rcases List.mem_cons.mp hp with rfl | hp
  · cases k <;> decide
  · obtain ⟨t, ht, rfl⟩ := List.mem_map.mp hp
    obtain ⟨q, _, rfl⟩ := List.mem_map.mp ht
    intro h
    unfold ptx at h
    split at h
    · rw [TL.tl_append] at h
      rcases List.mem_append.mp h with h | h
      · revert h
        decide
      · have := itx_signs _ _ h
        omega
    · have := itx_signs _ _ h
      omega
theorem nl_free_word (w : Str) (hw : 10 ∉ TL.tl w) (v : Int) : 10 ∉ TL.tl (w ++ itx v) := by
  rw [TL.tl_append]
  intro h
  rcases List.mem_append.mp h with h | h
  · exact hw h
  · have := itx_signs _ _ h
    omega
theorem nl_free_line (x : Int) : 10 ∉ TL.tl (lineX x) := by
  rcases found_cases x with ⟨_, e⟩ | ⟨k, a, b, c, n, ok, _, e⟩
  · rw [e]
    exact nl_free_word _ (by decide) x
  · rw [e]
    exact nl_free_row
theorem count_nl : ∀ l : List Str, (∀ x ∈ l, 10 ∉ TL.tl x) → Txt.count (Txt.join (Str.ofString "") (l.map nl)) (Str.ofString "\n") = l.length := by
  intro l h
  rw [show Str.ofString "\n" = (⟨#[10]⟩ : Str) from rfl, count_one _ 10 (by decide), TL.join_eq, TL.tl_join]
  congr 1
  have key : ∀ l : List Str, (∀ x ∈ l, 10 ∉ TL.tl x) → (TL.joinL (TL.tl (Str.ofString "")) ((l.map nl).map TL.tl)).count 10 = l.length := by
    intro l
    induction l with
    | nil => intro _; rfl
    | cons x l ih =>
      intro h
      have hx : (TL.tl (nl x)).count 10 = 1 := by
        unfold nl
        rw [TL.tl_append, List.count_append, List.count_eq_zero.mpr (h x List.mem_cons_self)]
        rfl
      have ih := ih fun y hy => h y (List.mem_cons_of_mem _ hy)
      cases l with
      | nil => exact hx
      | cons y l =>
        show (TL.tl (nl x) ++ ([] ++ TL.joinL (TL.tl (Str.ofString "")) (((y :: l).map nl).map TL.tl))).count 10 = _
        rw [List.nil_append, List.count_append, hx, ih, List.length_cons (a := x)]
        omega
  exact key l h
end Rw

namespace Rw
open PySem PySem.Spec PyProof.Rows L2 PySem.W
theorem neS (x : Str) (S : Store) : cmpV .NotEq (sV x) (sV x) S = .ok (bV false) S := by
  have e : eqT (.str x) (.str x) = some true := eqT_refl (d := .str x) rfl (by show 0 ≤ 60; decide)
  rw [cmpV_t, cmpT_ne, e]
  rfl
theorem eqS (x : Str) (S : Store) : cmpV .Eq (sV x) (sV x) S = .ok (bV true) S := by
  have e : eqT (.str x) (.str x) = some true := eqT_refl (d := .str x) rfl (by show 0 ≤ 60; decide)
  rw [cmpV_t, cmpT_eq, e]
  rfl
theorem neI (cs : List Int) (S : Store) : cmpV .NotEq (.t (.tup (cs.map .int))) (.t (.tup (cs.map .int))) S = .ok (bV false) S := by
  rw [cmpV_t, cmpT_ne, eq_flat _ (by simp [flatT])]
  rfl
theorem neH {h : T} (hh : hallOk h) (S : Store) : cmpV .NotEq (.t h) (.t h) S = .ok (bV false) S := by
  rcases hh with rfl | ⟨i, rfl, _⟩
  · rfl
  · rw [cmpV_t, cmpT_ne, eqT_int, decide_eq_true rfl]
    rfl
theorem okP_cs {cs : List Int} {h : T} (hl : cs.length ≤ 64) (hc : ∀ x ∈ cs, 0 ≤ x ∧ x < 16777216) (hh : hallOk h) : okP (cs.map .int) h = true := by
  unfold okP
  rw [List.length_map, decide_eq_true hl]
  have e : ((cs.map T.int).all fun t => wholeT t 16777215) = true := by
    rw [List.all_eq_true]
    intro t ht
    obtain ⟨x, hx, rfl⟩ := List.mem_map.mp ht
    have := hc x hx
    show (decide (0 ≤ x) && decide (x ≤ 16777215)) = true
    rw [decide_eq_true this.1, decide_eq_true (by omega)]
    rfl
  rw [e]
  rcases hh with rfl | ⟨i, rfl, i0, i1⟩
  · rfl
  · show (true && (true && (false || (decide (0 ≤ i) && decide (i ≤ 1023))))) = true
    rw [decide_eq_true i0, decide_eq_true i1]
    rfl
theorem hand_int (cs : List Int) : ∀ t ∈ cs.map T.int, handT t = true := fun t ht => by
  obtain ⟨x, _, rfl⟩ := List.mem_map.mp ht
  rfl
theorem hand_hall {h : T} (hh : hallOk h) : handT h = true := by
  rcases hh with rfl | ⟨i, rfl, _⟩ <;> rfl
theorem main : ∀ ns : List Int, ns.length ≤ 63 → ∃ S, callF lawD.tab 12 126 [Val.t (.scr ns)] [] = .ok (.t (.bl true)) S := by
  intro ns hl
  have ez : szLine = 16777216 := rfl
  obtain ⟨cs, cl, hc, hcs⟩ := call_codes 7 ns hl
  obtain ⟨h, hh, hhs⟩ := call_hall 8 ns hl
  refine ⟨[], ?_⟩
  rw [show ([.t (.scr ns)] : List Val) = [T.scr ns].map .t from rfl, callQ _ [some (.t (.scr ns)), none, none, none, none, none, none, none, none, none, none] tab_law rfl rfl, c_law]
  rw [stay_set (.t (.lst (cs.map .int))) (ev_call (evs_cons (ev_var rfl) (evs_cons (ev_con _) evs_nil)) (hcs []))]
  simp only [List.set_cons_succ, List.set_cons_zero]
  rw [stay_set (.t h) (ev_call (evs_cons (ev_var rfl) evs_nil) (hhs []))]
  simp only [List.set_cons_succ, List.set_cons_zero]
  rw [step_set (S1 := [strC []]) (.r 0) rfl]
  simp only [List.set_cons_succ, List.set_cons_zero]
  refine retP (S1 := [strC (linesX cs h), .dead, .dead]) ?_
  -- the hall's row
  have l1 : ∀ r : RS, dSs tab (callF tab 11) (.cons (.for_ .seq (.cons (.var 1) .nil) false [4] b_law_0) (.cons (.set 6 (.join (.con (.str (Str.ofString ""))) (.cons (.comp false .seq (.cons (.var 3) .nil) false [7] .nil (.bin .Add (.var 7) (.con (.str (Str.ofString "\n"))))) .nil))) (.cons (.set 8 (.new 18 (.cons (.blt .tuple false (.cons (.var 1) .nil)) (.cons (.var 2) .nil)))) (.cons (.set 9 (.call 5 (.cons (.var 8) .nil))) (.cons (.ife (.ors (.cons (.not (.val (.isi (.var 9) false [.str]))) (.cons (.val (.cmp .NotEq (.var 9) (.var 6))) (.cons (.val (.cmp .NotEq (.fld (.var 8) 5) (.blt .tuple false (.cons (.var 1) .nil)))) (.cons (.val (.cmp .NotEq (.fld (.var 8) 6) (.var 2))) .nil))))) (.cons (.ret (.con (.bl false))) .nil) .nil) (.cons (.set 10 (.new 18 (.cons (.blt .tuple false (.cons (.rev false (.var 1)) .nil)) .nil))) (.cons (.ret (.ands (.cons (.cmp .Eq (.tcount (.call 5 (.cons (.var 10) .nil)) (.cons (.con (.str (Str.ofString "\n"))) .nil)) (.blt .len false (.cons (.var 1) .nil))) (.cons (.cmp .Eq (.call 5 (.cons (.var 8) .nil)) (.var 6)) .nil)))) .nil)))))))
      [some (.t (.scr ns)), some (.t (.lst (cs.map .int))), some (.t h), some (.r 0), none, none, none, none, none, none, none] [strC (hallX h)] = r → dSs tab (callF tab 11) (.cons (.ife (.val (.cmp .IsNot (.var 2) (.con .non))) (.cons (.expr (.bm .append false (.var 3) (.cons (.bin .Add (.con (.str (Str.ofString "hall "))) (.blt .str false (.cons (.var 2) .nil))) .nil))) .nil) .nil) (.cons (.for_ .seq (.cons (.var 1) .nil) false [4] b_law_0) (.cons (.set 6 (.join (.con (.str (Str.ofString ""))) (.cons (.comp false .seq (.cons (.var 3) .nil) false [7] .nil (.bin .Add (.var 7) (.con (.str (Str.ofString "\n"))))) .nil))) (.cons (.set 8 (.new 18 (.cons (.blt .tuple false (.cons (.var 1) .nil)) (.cons (.var 2) .nil)))) (.cons (.set 9 (.call 5 (.cons (.var 8) .nil))) (.cons (.ife (.ors (.cons (.not (.val (.isi (.var 9) false [.str]))) (.cons (.val (.cmp .NotEq (.var 9) (.var 6))) (.cons (.val (.cmp .NotEq (.fld (.var 8) 5) (.blt .tuple false (.cons (.var 1) .nil)))) (.cons (.val (.cmp .NotEq (.fld (.var 8) 6) (.var 2))) .nil))))) (.cons (.ret (.con (.bl false))) .nil) .nil) (.cons (.set 10 (.new 18 (.cons (.blt .tuple false (.cons (.rev false (.var 1)) .nil)) .nil))) (.cons (.ret (.ands (.cons (.cmp .Eq (.tcount (.call 5 (.cons (.var 10) .nil)) (.cons (.con (.str (Str.ofString "\n"))) .nil)) (.blt .len false (.cons (.var 1) .nil))) (.cons (.cmp .Eq (.call 5 (.cons (.var 8) .nil)) (.var 6)) .nil)))) .nil))))))))
      [some (.t (.scr ns)), some (.t (.lst (cs.map .int))), some (.t h), some (.r 0), none, none, none, none, none, none, none] [strC []] = r := by
    intro r hr
    have tt : dB tab (callF tab 11) (.val (.cmp .IsNot (.var 2) (.con .non))) [some (.t (.scr ns)), some (.t (.lst (cs.map .int))), some (.t h), some (.r 0), none, none, none, none, none, none, none] [strC []] = .ok (!isNon h) [strC []] := evB_val (ev_cmp (ev_var rfl) (ev_con _) (isNot_non h _))
    rcases hh with rfl | ⟨i, rfl, i0, i1⟩
    · exact sx_ifF0 tt hr
    · have is : smallI i := by unfold smallI; omega
      have il := itx_len is
      exact sx_ifT tt (sx_seq (sx_expr (v := .t .non) (S1 := [strC (hallX (.int i))]) (ev_bm (S1 := [strC []]) (S2 := [strC []]) (ev_var rfl) rfl (evs_cons (ev_bin (ev_con _) (ev_blt (evs_cons (ev_var rfl) evs_nil) (blt_str is false _)) (add_str (by show 5 + _ ≤ _; omega) _)) evs_nil) (app_str (n := 0) (l := []) rfl (by decide))) rfl) hr)
  refine l1 _ ?_
  clear l1
  have hh1 : (hallX h).length ≤ 1 := by rcases hh with rfl | ⟨i, rfl, _⟩ <;> simp [hallX]
  rw [step_for (vs := [.t (.lst (cs.map .int))]) (its := (cs.map T.int).map .t) (w := none) (S1 := [strC (hallX h)]) (S2 := [strC (hallX h)]) (evs_cons (ev_var rfl) evs_nil) rfl]
  obtain ⟨e1, S1, hf, ⟨hS, b4, b5, he⟩⟩ := forL_idx (w := none) (many := false) (tg := [4]) (body := fun env S => dSs tab (callF tab 11) b_law_0 env S)
    (fun j env S => S = [strC (hallX h ++ (cs.map lineX).take j)] ∧ ∃ b4 b5 : Option Val, env = [some (.t (.scr ns)), some (.t (.lst (cs.map .int))), some (.t h), some (.r 0), b4, b5, none, none, none, none, none]) (fun _ _ S _ => okW_none S) ((cs.map T.int).map .t) 0 [some (.t (.scr ns)), some (.t (.lst (cs.map .int))), some (.t h), some (.r 0), none, none, none, none, none, none, none] [strC (hallX h)] ⟨by rw [List.take_zero, List.append_nil], none, none, rfl⟩ (by
      rintro i v env S hv ⟨rfl, b4, b5, rfl⟩
      have hi : i < cs.length := by
        have := (List.getElem?_eq_some_iff.mp hv).1
        simpa using this
      rw [List.getElem?_map, List.getElem?_map, List.getElem?_eq_getElem hi] at hv
      cases hv
      rw [Nat.zero_add]
      have hb := hc _ (List.getElem_mem hi)
      have et : (cs.map lineX).take (i + 1) = (cs.map lineX).take i ++ [lineX cs[i]] := by
        rw [List.take_add_one, List.getElem?_map, List.getElem?_eq_getElem hi]
        rfl
      generalize hq : (cs.map lineX).take i = q
      have ql : q.length ≤ 64 := by
        rw [← hq, List.length_take, List.length_map]
        omega
      have lq : (hallX h ++ q).length < 1000000 := by rw [List.length_append]; omega
      refine ⟨_, [some (.t (.scr ns)), some (.t (.lst (cs.map .int))), some (.t h), some (.r 0), some (iV cs[i]), some (.t (foundX cs[i])), none, none, none, none, none], [strC ((hallX h ++ q) ++ [lineX cs[i]])], rfl, ?_, by rw [et, hq, List.append_assoc], _, _, rfl⟩
      show dSs tab (callF tab 11) b_law_0 [some (.t (.scr ns)), some (.t (.lst (cs.map .int))), some (.t h), some (.r 0), some (iV cs[i]), b5, none, none, none, none, none] [strC (hallX h ++ q)] = _
      unfold b_law_0
      refine sx_set (ev_call (evs_cons (ev_var rfl) evs_nil) (call_row_ofX 5 _ hb.1 hb.2 _)) ?_
      simp only [List.set_cons_succ, List.set_cons_zero]
      have t : dB tab (callF tab 11) (.val (.cmp .Is (.var 5) (.con .non))) [some (.t (.scr ns)), some (.t (.lst (cs.map .int))), some (.t h), some (.r 0), some (iV cs[i]), some (.t (foundX cs[i])), none, none, none, none, none] [strC (hallX h ++ q)] = .ok (isNon (foundX cs[i])) [strC (hallX h ++ q)] := evB_val (ev_cmp (ev_var rfl) (ev_con _) rfl)
      rcases found_cases cs[i] with ⟨f1, f2⟩ | ⟨k, a, b, c, d, ok, f1, f2⟩
      · rw [f1] at t ⊢
        have sm := code_small hb.1 hb.2
        have il := itx_len sm
        rw [f2]
        exact sx_ifT t (sx_seq (sx_expr (ev_bm (S1 := [strC (hallX h ++ q)]) (S2 := [strC (hallX h ++ q)]) (ev_var rfl) rfl (evs_cons (ev_bin (ev_con _) (ev_blt (evs_cons (ev_var rfl) evs_nil) (blt_str sm false _)) (add_str (by show 5 + _ ≤ _; omega) _)) evs_nil) (app_str (n := 0) rfl lq)) rfl) rfl)
      · rw [f1, row_non] at t
        rw [f1, f2]
        have mt : dE tab (callF tab 11) (.meth (.var 5) 9 .nil) [some (.t (.scr ns)), some (.t (.lst (cs.map .int))), some (.t h), some (.r 0), some (iV cs[i]), some (.t (k.row a b c d)), none, none, none, none, none] [strC (hallX h ++ q)] = .ok (.t (k.told a b c d)) [strC (hallX h ++ q)] := by cases k <;> rfl
        rw [step_if false t, if_neg Bool.false_ne_true]
        exact sx_seq (sx_expr (ev_bm (S1 := [strC (hallX h ++ q)]) (S2 := [strC (hallX h ++ q)]) (ev_var rfl) rfl (evs_cons (ev_call (evs_cons mt evs_nil) (call_line 8 ok _)) evs_nil) (app_str (n := 0) rfl lq)) rfl) rfl)
  subst hS
  subst he
  have el : (cs.map lineX).take (0 + ((cs.map T.int).map Val.t).length) = cs.map lineX := List.take_of_length_le (by simp)
  rw [el] at hf
  rw [hf, seq_nx]
  have ll := lines_len (h := h) hc hh
  have lm := lines_many (cs := cs) (h := h) cl hh
  have okp := okP_cs (h := h) cl hc hh
  have ctup : bltV .tuple false [.t (.lst (cs.map .int))] [strC (linesX cs h)] = .ok (.t (.tup (cs.map .int))) [strC (linesX cs h)] := blt_tuple _ _ _ (by rw [List.length_map]; omega)
  refine sx_set (ev_joined (k := 0) (S := [strC (linesX cs h)]) rfl rfl (by show 7 < 11; decide) rfl (by omega) ll) ?_
  simp only [List.set_cons_succ, List.set_cons_zero]
  have pn := prog_new 9 (S := [strC (linesX cs h)]) h (.tup (xs := cs.map .int) (by rw [List.length_map]; omega)) (hand_int cs) (hand_hall hh)
  rw [okp, if_pos rfl] at pn
  refine sx_set (ev_new (evs_cons (ev_blt (evs_cons (ev_var rfl) evs_nil) ctup) (evs_cons (ev_var rfl) evs_nil)) pn) ?_
  simp only [List.set_cons_succ, List.set_cons_zero]
  have wr := fun S => call_written 2 (h := h) cl hc hh S
  refine sx_set (ev_call (evs_cons (ev_var rfl) evs_nil) (wr _)) ?_
  simp only [List.set_cons_succ, List.set_cons_zero]
  refine sx_ifF0 (S1 := [strC (linesX cs h), .dead]) (evB_ors (evO_F (S1 := [strC (linesX cs h), .dead]) (evB_not (k := true) (evB_val (ev_isi (ev_var rfl) rfl))) (evO_F (S1 := [strC (linesX cs h), .dead]) (evB_val (ev_cmp (ev_var rfl) (ev_var rfl) (neS _ _))) (evO_F (S1 := [strC (linesX cs h), .dead]) (evB_val (ev_cmp (ev_fld (ev_var rfl) rfl) (ev_blt (evs_cons (ev_var rfl) evs_nil) (blt_tuple _ _ _ (by rw [List.length_map]; omega))) (neI _ _))) (evO_1 (evB_val (ev_cmp (ev_fld (ev_var rfl) rfl) (ev_var rfl) (neH hh _)))))))) ?_
  have hc2 : ∀ x ∈ cs.reverse, 0 ≤ x ∧ x < 16777216 := fun x hx => hc x (List.mem_reverse.mp hx)
  have cl2 : cs.reverse.length ≤ 64 := by rw [List.length_reverse]; exact cl
  have okp2 := okP_cs (h := .non) cl2 hc2 (.inl rfl)
  have pn2 := prog_new1 9 (S := [strC (linesX cs h), .dead]) (.tup (xs := cs.reverse.map .int) (by rw [List.length_map]; omega)) (hand_int cs.reverse)
  rw [okp2, if_pos rfl] at pn2
  have rv : revV false (.t (.lst (cs.map .int))) [strC (linesX cs h), .dead] = .ok (.t (.lst (cs.reverse.map .int))) [strC (linesX cs h), .dead] := by
    show alloc false ((cs.map T.int).map Val.t).reverse _ = _
    rw [← List.map_reverse, ← List.map_reverse, alloc_t _ _ (by rw [List.length_map]; omega)]
  refine sx_set (ev_new (evs_cons (ev_blt (evs_cons (ev_rev (ev_var rfl) rv) evs_nil) (blt_tuple _ _ _ (by rw [List.length_map]; omega))) evs_nil) pn2) ?_
  simp only [List.set_cons_succ, List.set_cons_zero]
  have wr2 := fun S => call_written 2 (h := .non) cl2 hc2 (.inl rfl) S
  have cnt : Txt.count (writX cs.reverse .non) (Str.ofString "\n") = cs.length := by
    unfold writX
    rw [count_nl _ fun x hx => ?_]
    · show (((hallX .non ++ cs.reverse.map lineX).length : Nat) : Int) = _
      rw [show hallX .non = [] from rfl, List.nil_append, List.length_map, List.length_reverse]
    · obtain ⟨y, _, rfl⟩ := List.mem_map.mp (show x ∈ cs.reverse.map lineX from hx)
      exact nl_free_line y
  refine sx_ret (ev_andT (S1 := [strC (linesX cs h), .dead, .dead]) (ev_cmp (x := iV cs.length) (y := iV cs.length) (S1 := [strC (linesX cs h), .dead, .dead]) (S2 := [strC (linesX cs h), .dead, .dead]) ?_ (ev_blt (evs_cons (ev_var rfl) evs_nil) ?_) ?_) (ev_and1 (ev_cmp (ev_call (evs_cons (ev_var rfl) evs_nil) (wr _)) (ev_var rfl) (eqS _ _))))
  · show R.bind (dE tab (callF tab 11) (.call 5 (.cons (.var 10) .nil)) _ _) (fun x S => if strB x then (dEs tab (callF tab 11) (.cons (.con (.str (Str.ofString "\n"))) .nil) _ S).bind fun vs S => tcountV x vs S else .bad) = _
    rw [ev_call (evs_cons (ev_var rfl) evs_nil) (wr2 _)]
    show R.ok (iV (Txt.count (writX cs.reverse .non) (Str.ofString "\n"))) _ = _
    rw [cnt]
    rfl
  · show R.ok (iV ((cs.map T.int).length : Nat)) _ = _
    rw [List.length_map]
  · rw [cmpV_t, cmpT_eq, eqT_int, decide_eq_true rfl]
    rfl
end Rw

namespace Rw
open PySem PySem.W PySem.Calls PyProof.Rows
open L2 (defArgs defBody defScope inClass)
/-! ### the head -/
def names0 : List PySem.Str := ["_wall", "PAIRS", "BOX", "SHAPES", "shape_of", "part_text", "row_text", "line_at", "written", "bits_of", "with_bits", "signed", "WORDS", "FIRST_PAIR", "Row"]
def names1 : List PySem.Str := ["Stop", "Num", "Plus", "Pair", "Load", "Store", "Jump", "Zero", "Link", "Go", "OfBox", "Ask", "Tell", "Why", "Where"]
def names2 : List PySem.Str := ["Aim", "Home", "LAST_PAIR", "code_of", "reckoning_row", "jumping_row", "other_row", "row_by", "row_of", "MillError", "NoProgram", "MOST_ROWS", "MOST_CODE", "MOST_PLACE", "is_whole"]
def names3 : List PySem.Str := ["Program", "_law_cell", "_law_words", "_law_shape", "_law_part_by", "_law_told_by", "_law_code", "_law_line", "_law_codes", "_law_hall"]
def names : List PySem.Str := names0 ++ names1 ++ names2 ++ names3
abbrev hprog : Program := (PySem.W.OpenLaw.row PySem.Challenge.rw_rowmill_k22_programs_written).prog
def o11_a : Obj := oT []
def o12_a : Obj := oF []
def o13_a : Obj := oC "code" [(zS "<module>" 182), (zS "<module>" 183), (zF 184), (zI (1) 0), (zI (0) 0), (zI (0) 0), (zI (0) 0), (zI (0) 0), (zR 11), (.bool false), (zI (181) 0), (zR 12), zN, zN, zN, zN, (zI (185) 0), (zI (1) 0), (zF 186)]
def o14_a : Obj := oP "frame" [some (zR 13), some (zR 3), some (zR 3), none, some (zS "__main__" 164), none, some (zR 0)]
noncomputable def tr_a (P : Params) : PySem.W.BT := (.node (boot_o_0 P) (.node (boot_o_1 P) (.node (boot_o_3 P) (.node (boot_o_7 P) .nil .nil) (.node o11_a .nil .nil)) (.node (boot_o_5 P) (.node (boot_o_9 P) .nil .nil) (.node o13_a .nil .nil))) (.node (boot_o_2 P) (.node (boot_o_4 P) (.node (boot_o_8 P) .nil .nil) (.node o12_a .nil .nil)) (.node (boot_o_6 P) (.node (boot_o_10 P) .nil .nil) (.node o14_a .nil .nil))))
def o3_0 (P : Params) : Obj := oD [zE P "__name__" 165 (zS "rowmill.jumps" 841), zE P "__doc__" 166 zN, zE P "__package__" 167 zN, zE P "__loader__" 168 (.builtin "__main__.__loader__#opaque"), zE P "__spec__" 169 zN, zE P "__annotations__" 170 (zR 6), zE P "__builtins__" 171 (zR 4), zE P "__file__" 173 (zF 172), zE P "__cached__" 174 zN, zE P "_wall" 193 (zR 21), zE P "PAIRS" 208 (zR 22), zE P "BOX" 210 (zS "b" 209), zE P "SHAPES" 256 (zR 23), zE P "shape_of" 263 (zR 30), zE P "part_text" 271 (zR 37), zE P "row_text" 282 (zR 44), zE P "line_at" 291 (zR 51), zE P "written" 297 (zR 56), zE P "bits_of" 308 (zR 63), zE P "with_bits" 319 (zR 70), zE P "signed" 327 (zR 77), zE P "WORDS" 342 (zR 78), zE P "FIRST_PAIR" 344 (zI (3) 343), zE P "Row" 452 (zR 172), zE P "Stop" 475 (zR 193), zE P "Num" 539 (zR 247), zE P "Plus" 612 (zR 308), zE P "Pair" 694 (zR 376), zE P "Load" 774 (zR 444), zE P "Store" 840 (zR 498), zE P "Jump" 897 (zR 545), zE P "Zero" 961 (zR 599)] 32
def o12_0 : Obj := oF [(zI (1) 0), (zI (0) 0), (zR 20), (zI (8) 0), (zI (0) 0), (zR 29), (zI (12) 0), (zI (0) 0), (zR 36), (zI (16) 0), (zI (0) 0), (zR 43), (zI (22) 0), (zI (0) 0), (zR 50), (zI (27) 0), (zI (0) 0), (zR 55), (zI (33) 0), (zI (0) 0), (zR 62), (zI (35) 0), (zI (0) 0), (zR 69), (zI (38) 0), (zI (0) 0), (zR 76), (zI (43) 0), (zI (0) 0), (zR 84), (zI (80) 0), (zI (0) 0), (zR 182), (zI (84) 0), (zI (0) 0), (zR 201), (zI (104) 0), (zI (0) 0), (zR 255), (zI (128) 0), (zI (0) 0), (zR 316), (zI (156) 0), (zI (0) 0), (zR 384), (zI (183) 0), (zI (0) 0), (zR 452), (zI (205) 0), (zI (0) 0), (zR 506), (zI (221) 0), (zI (0) 0), (zR 553)]
def o15_0 : Obj := oT []
def o16_0 : Obj := oF []
def o17_0 : Obj := oT [(zS "k" 190)]
def o18_0 : Obj := oT []
def o19_0 : Obj := oG (fG (top 0) "_wall" "_wall")
def o20_0 : Obj := oC "code" [(zS "_wall" 187), (zS "_wall" 188), (zF 189), (zI (1) 0), (zI (1) 0), (zI (0) 0), (zI (0) 0), (zI (3) 0), (zR 15), (.bool true), (zI (181) 0), (zR 16), zN, (zR 17), (zR 18), (zR 19), (zI (191) 0), (zI (1) 0), (zF 192)]
def o21_0 : Obj := oH (fH (top 0) "_wall" "_wall" zN zN (zS "__main__" 164) (zR 20))
def o22_0 : Obj := oT [(zS "add" 196), (zS "sub" 197), (zS "mul" 198), (zS "div" 199), (zS "rest" 200), (zS "and" 201), (zS "or" 202), (zS "xor" 203), (zS "up" 204), (zS "down" 205), (zS "low" 206), (zS "same" 207)]
def o23_0 (P : Params) : Obj := oD [zE P "stop" 211 (zS "" 212), zE P "num" 213 (zS "bn" 214), zE P "plus" 215 (zS "bbs" 216), zE P "load" 217 (zS "bbs" 218), zE P "store" 219 (zS "bbs" 220), zE P "jump" 221 (zS "g" 222), zE P "zero" 223 (zS "bg" 224), zE P "link" 225 (zS "bg" 226), zE P "go" 227 (zS "b" 228), zE P "ask" 229 (zS "b" 230), zE P "tell" 231 (zS "b" 232), zE P "why" 233 (zS "b" 234), zE P "where" 235 (zS "b" 236), zE P "aim" 237 (zS "b" 238), zE P "home" 239 (zS "" 240)] 15
def o24_0 : Obj := oT []
def o25_0 : Obj := oF []
def o26_0 : Obj := oT [(zS "word" 260)]
def o27_0 : Obj := oT []
def o28_0 : Obj := oG (fG (top 5) "shape_of" "shape_of")
def o29_0 : Obj := oC "code" [(zS "shape_of" 257), (zS "shape_of" 258), (zF 259), (zI (8) 0), (zI (1) 0), (zI (0) 0), (zI (0) 0), (zI (3) 0), (zR 24), (.bool true), (zI (181) 0), (zR 25), zN, (zR 26), (zR 27), (zR 28), (zI (261) 0), (zI (8) 0), (zF 262)]
def o30_0 : Obj := oH (fH (top 5) "shape_of" "shape_of" zN zN (zS "rowmill.writing" 194) (zR 29))
def o31_0 : Obj := oT []
def o32_0 : Obj := oF []
def o33_0 : Obj := oT [(zS "mark" 267), (zS "part" 268)]
def o34_0 : Obj := oT []
def o35_0 : Obj := oG (fG (top 6) "part_text" "part_text")
def o36_0 : Obj := oC "code" [(zS "part_text" 264), (zS "part_text" 265), (zF 266), (zI (12) 0), (zI (2) 0), (zI (0) 0), (zI (0) 0), (zI (3) 0), (zR 31), (.bool true), (zI (181) 0), (zR 32), zN, (zR 33), (zR 34), (zR 35), (zI (269) 0), (zI (12) 0), (zF 270)]
def o37_0 : Obj := oH (fH (top 6) "part_text" "part_text" zN zN (zS "rowmill.writing" 194) (zR 36))
def o38_0 : Obj := oT []
def o39_0 : Obj := oF []
def o40_0 : Obj := oT [(zS "row" 275), (zS "told" 276), (zS "words" 277), (zS "mark" 278), (zS "part" 279)]
def o41_0 : Obj := oT []
def o42_0 : Obj := oG (fG (top 7) "row_text" "row_text")
def o43_0 : Obj := oC "code" [(zS "row_text" 272), (zS "row_text" 273), (zF 274), (zI (16) 0), (zI (1) 0), (zI (0) 0), (zI (0) 0), (zI (3) 0), (zR 38), (.bool true), (zI (181) 0), (zR 39), zN, (zR 40), (zR 41), (zR 42), (zI (280) 0), (zI (16) 0), (zF 281)]
def o44_0 : Obj := oH (fH (top 7) "row_text" "row_text" zN zN (zS "rowmill.writing" 194) (zR 43))
def o45_0 : Obj := oT []
def o46_0 : Obj := oF []
def o47_0 : Obj := oT [(zS "program" 286), (zS "place" 287), (zS "row" 288)]
def o48_0 : Obj := oT []
def o49_0 : Obj := oG (fG (top 8) "line_at" "line_at")
def o50_0 : Obj := oC "code" [(zS "line_at" 283), (zS "line_at" 284), (zF 285), (zI (22) 0), (zI (2) 0), (zI (0) 0), (zI (0) 0), (zI (3) 0), (zR 45), (.bool true), (zI (181) 0), (zR 46), zN, (zR 47), (zR 48), (zR 49), (zI (289) 0), (zI (22) 0), (zF 290)]
def o51_0 : Obj := oH (fH (top 8) "line_at" "line_at" zN zN (zS "rowmill.writing" 194) (zR 50))
def o52_0 : Obj := oT []
def o53_0 : Obj := oF []
def o54_0 : Obj := oG (fG (top 9) "written" "written")
def o55_0 : Obj := oC "code" [(zS "written" 292), (zS "written" 293), (zF 294), (zI (27) 0), (zI (1) 0), (zI (0) 0), (zI (0) 0), (zI (3) 0), (zR 52), (.bool true), (zI (181) 0), (zR 53), zN, zN, zN, (zR 54), (zI (295) 0), (zI (27) 0), (zF 296)]
def o56_0 : Obj := oH (fH (top 9) "written" "written" zN zN (zS "rowmill.writing" 194) (zR 55))
def o57_0 : Obj := oT []
def o58_0 : Obj := oF []
def o59_0 : Obj := oT [(zS "number" 303), (zS "low" 304), (zS "many" 305)]
def o60_0 : Obj := oT []
def o61_0 : Obj := oG (fG (top 11) "bits_of" "bits_of")
def o62_0 : Obj := oC "code" [(zS "bits_of" 300), (zS "bits_of" 301), (zF 302), (zI (33) 0), (zI (3) 0), (zI (0) 0), (zI (0) 0), (zI (3) 0), (zR 57), (.bool true), (zI (181) 0), (zR 58), zN, (zR 59), (zR 60), (zR 61), (zI (306) 0), (zI (33) 0), (zF 307)]
def o63_0 : Obj := oH (fH (top 11) "bits_of" "bits_of" zN zN (zS "rowmill.bits" 298) (zR 62))
def o64_0 : Obj := oT []
def o65_0 : Obj := oF []
def o66_0 : Obj := oT [(zS "number" 312), (zS "low" 313), (zS "many" 314), (zS "part" 315), (zS "here" 316)]
def o67_0 : Obj := oT []
def o68_0 : Obj := oG (fG (top 12) "with_bits" "with_bits")
def o69_0 : Obj := oC "code" [(zS "with_bits" 309), (zS "with_bits" 310), (zF 311), (zI (35) 0), (zI (4) 0), (zI (0) 0), (zI (0) 0), (zI (3) 0), (zR 64), (.bool true), (zI (181) 0), (zR 65), zN, (zR 66), (zR 67), (zR 68), (zI (317) 0), (zI (35) 0), (zF 318)]
def o70_0 : Obj := oH (fH (top 12) "with_bits" "with_bits" zN zN (zS "rowmill.bits" 298) (zR 69))
def o71_0 : Obj := oT []
def o72_0 : Obj := oF []
def o73_0 : Obj := oT [(zS "part" 323), (zS "many" 324)]
def o74_0 : Obj := oT []
def o75_0 : Obj := oG (fG (top 13) "signed" "signed")
def o76_0 : Obj := oC "code" [(zS "signed" 320), (zS "signed" 321), (zF 322), (zI (38) 0), (zI (2) 0), (zI (0) 0), (zI (0) 0), (zI (3) 0), (zR 71), (.bool true), (zI (181) 0), (zR 72), zN, (zR 73), (zR 74), (zR 75), (zI (325) 0), (zI (38) 0), (zF 326)]
def o77_0 : Obj := oH (fH (top 13) "signed" "signed" zN zN (zS "rowmill.bits" 298) (zR 76))
def o78_0 : Obj := oT [(zS "add" 330), (zS "sub" 331), (zS "mul" 332), (zS "div" 333), (zS "rest" 334), (zS "and" 335), (zS "or" 336), (zS "xor" 337), (zS "up" 338), (zS "down" 339), (zS "low" 340), (zS "same" 341)]
def o79_0 : Obj := oT []
def o80_0 : Obj := oC "builtin_function_or_method" [(.builtin "type.__prepare__"), (.type "type")]
def o81_0 (P : Params) : Obj := oD [zE P "__module__" 352 (zS "rowmill.rows" 328), zE P "__qualname__" 354 (zS "Row" 353), zE P "__firstlineno__" 356 (zI (43) 355), zE P "op" 363 (zR 92), zE P "parts" 370 (zR 99), zE P "told" 377 (zR 106), zE P "reads" 384 (zR 113), zE P "named" 391 (zR 120), zE P "gives" 398 (zR 127), zE P "station" 405 (zR 134), zE P "known" 412 (zR 141), zE P "alone" 419 (zR 148), zE P "long" 426 (zR 155), zE P "reckoned" 435 (zR 162), zE P "goal" 444 (zR 169), zE P "__static_attributes__" 445 (zR 170)] 16
def o82_0 : Obj := oT []
def o83_0 : Obj := oF [(zI (45) 0), (zI (4) 0), (zR 91), (zI (48) 0), (zI (4) 0), (zR 98), (zI (51) 0), (zI (4) 0), (zR 105), (zI (54) 0), (zI (4) 0), (zR 112), (zI (57) 0), (zI (4) 0), (zR 119), (zI (60) 0), (zI (4) 0), (zR 126), (zI (63) 0), (zI (4) 0), (zR 133), (zI (66) 0), (zI (4) 0), (zR 140), (zI (69) 0), (zI (4) 0), (zR 147), (zI (72) 0), (zI (4) 0), (zR 154), (zI (75) 0), (zI (4) 0), (zR 161), (zI (78) 0), (zI (4) 0), (zR 168)]
def o84_0 : Obj := oC "code" [(zS "Row" 347), (zS "Row" 348), (zF 349), (zI (43) 0), (zI (0) 0), (zI (0) 0), (zI (0) 0), (zI (0) 0), (zR 82), (.bool false), (zI (181) 0), (zR 83), zN, zN, zN, zN, (zI (350) 0), (zI (43) 0), (zF 351)]
def o85_0 : Obj := oP "frame" [some (zR 84), some (zR 3), some (zR 81), none, some (zS "rowmill.rows" 328), none, some (zR 0)]
def o86_0 : Obj := oT []
def o87_0 : Obj := oF []
def o88_0 : Obj := oT [(zS "self" 360)]
def o89_0 : Obj := oT []
def o90_0 : Obj := oG (fG (inClass (top 17) 0) "op" "Row.op")
def o91_0 : Obj := oC "code" [(zS "op" 357), (zS "Row.op" 358), (zF 359), (zI (45) 0), (zI (1) 0), (zI (0) 0), (zI (0) 0), (zI (3) 0), (zR 86), (.bool true), (zI (181) 0), (zR 87), zN, (zR 88), (zR 89), (zR 90), (zI (361) 0), (zI (45) 0), (zF 362)]
def o92_0 : Obj := oH (fH (inClass (top 17) 0) "op" "Row.op" zN zN (zS "rowmill.rows" 328) (zR 91))
def o93_0 : Obj := oT []
def o94_0 : Obj := oF []
def o95_0 : Obj := oT [(zS "self" 367)]
def o96_0 : Obj := oT []
def o97_0 : Obj := oG (fG (inClass (top 17) 1) "parts" "Row.parts")
def o98_0 : Obj := oC "code" [(zS "parts" 364), (zS "Row.parts" 365), (zF 366), (zI (48) 0), (zI (1) 0), (zI (0) 0), (zI (0) 0), (zI (3) 0), (zR 93), (.bool true), (zI (181) 0), (zR 94), zN, (zR 95), (zR 96), (zR 97), (zI (368) 0), (zI (48) 0), (zF 369)]
def o99_0 : Obj := oH (fH (inClass (top 17) 1) "parts" "Row.parts" zN zN (zS "rowmill.rows" 328) (zR 98))
def o100_0 : Obj := oT []
def o101_0 : Obj := oF []
def o102_0 : Obj := oT [(zS "self" 374)]
def o103_0 : Obj := oT []
def o104_0 : Obj := oG (fG (inClass (top 17) 2) "told" "Row.told")
def o105_0 : Obj := oC "code" [(zS "told" 371), (zS "Row.told" 372), (zF 373), (zI (51) 0), (zI (1) 0), (zI (0) 0), (zI (0) 0), (zI (3) 0), (zR 100), (.bool true), (zI (181) 0), (zR 101), zN, (zR 102), (zR 103), (zR 104), (zI (375) 0), (zI (51) 0), (zF 376)]
def o106_0 : Obj := oH (fH (inClass (top 17) 2) "told" "Row.told" zN zN (zS "rowmill.rows" 328) (zR 105))
def o107_0 : Obj := oT []
def o108_0 : Obj := oF []
def o109_0 : Obj := oT [(zS "self" 381)]
def o110_0 : Obj := oT []
def o111_0 : Obj := oG (fG (inClass (top 17) 3) "reads" "Row.reads")
def o112_0 : Obj := oC "code" [(zS "reads" 378), (zS "Row.reads" 379), (zF 380), (zI (54) 0), (zI (1) 0), (zI (0) 0), (zI (0) 0), (zI (3) 0), (zR 107), (.bool true), (zI (181) 0), (zR 108), zN, (zR 109), (zR 110), (zR 111), (zI (382) 0), (zI (54) 0), (zF 383)]
def o113_0 : Obj := oH (fH (inClass (top 17) 3) "reads" "Row.reads" zN zN (zS "rowmill.rows" 328) (zR 112))
def o114_0 : Obj := oT []
def o115_0 : Obj := oF []
def o116_0 : Obj := oT [(zS "self" 388)]
def o117_0 : Obj := oT []
def o118_0 : Obj := oG (fG (inClass (top 17) 4) "named" "Row.named")
def o119_0 : Obj := oC "code" [(zS "named" 385), (zS "Row.named" 386), (zF 387), (zI (57) 0), (zI (1) 0), (zI (0) 0), (zI (0) 0), (zI (3) 0), (zR 114), (.bool true), (zI (181) 0), (zR 115), zN, (zR 116), (zR 117), (zR 118), (zI (389) 0), (zI (57) 0), (zF 390)]
def o120_0 : Obj := oH (fH (inClass (top 17) 4) "named" "Row.named" zN zN (zS "rowmill.rows" 328) (zR 119))
def o121_0 : Obj := oT []
def o122_0 : Obj := oF []
def o123_0 : Obj := oT [(zS "self" 395)]
def o124_0 : Obj := oT []
def o125_0 : Obj := oG (fG (inClass (top 17) 5) "gives" "Row.gives")
def o126_0 : Obj := oC "code" [(zS "gives" 392), (zS "Row.gives" 393), (zF 394), (zI (60) 0), (zI (1) 0), (zI (0) 0), (zI (0) 0), (zI (3) 0), (zR 121), (.bool true), (zI (181) 0), (zR 122), zN, (zR 123), (zR 124), (zR 125), (zI (396) 0), (zI (60) 0), (zF 397)]
def o127_0 : Obj := oH (fH (inClass (top 17) 5) "gives" "Row.gives" zN zN (zS "rowmill.rows" 328) (zR 126))
def o128_0 : Obj := oT []
def o129_0 : Obj := oF []
def o130_0 : Obj := oT [(zS "self" 402)]
def o131_0 : Obj := oT []
def o132_0 : Obj := oG (fG (inClass (top 17) 6) "station" "Row.station")
def o133_0 : Obj := oC "code" [(zS "station" 399), (zS "Row.station" 400), (zF 401), (zI (63) 0), (zI (1) 0), (zI (0) 0), (zI (0) 0), (zI (3) 0), (zR 128), (.bool true), (zI (181) 0), (zR 129), zN, (zR 130), (zR 131), (zR 132), (zI (403) 0), (zI (63) 0), (zF 404)]
def o134_0 : Obj := oH (fH (inClass (top 17) 6) "station" "Row.station" zN zN (zS "rowmill.rows" 328) (zR 133))
def o135_0 : Obj := oT []
def o136_0 : Obj := oF []
def o137_0 : Obj := oT [(zS "self" 409)]
def o138_0 : Obj := oT []
def o139_0 : Obj := oG (fG (inClass (top 17) 7) "known" "Row.known")
def o140_0 : Obj := oC "code" [(zS "known" 406), (zS "Row.known" 407), (zF 408), (zI (66) 0), (zI (1) 0), (zI (0) 0), (zI (0) 0), (zI (3) 0), (zR 135), (.bool true), (zI (181) 0), (zR 136), zN, (zR 137), (zR 138), (zR 139), (zI (410) 0), (zI (66) 0), (zF 411)]
def o141_0 : Obj := oH (fH (inClass (top 17) 7) "known" "Row.known" zN zN (zS "rowmill.rows" 328) (zR 140))
def o142_0 : Obj := oT []
def o143_0 : Obj := oF []
def o144_0 : Obj := oT [(zS "self" 416)]
def o145_0 : Obj := oT []
def o146_0 : Obj := oG (fG (inClass (top 17) 8) "alone" "Row.alone")
def o147_0 : Obj := oC "code" [(zS "alone" 413), (zS "Row.alone" 414), (zF 415), (zI (69) 0), (zI (1) 0), (zI (0) 0), (zI (0) 0), (zI (3) 0), (zR 142), (.bool true), (zI (181) 0), (zR 143), zN, (zR 144), (zR 145), (zR 146), (zI (417) 0), (zI (69) 0), (zF 418)]
def o148_0 : Obj := oH (fH (inClass (top 17) 8) "alone" "Row.alone" zN zN (zS "rowmill.rows" 328) (zR 147))
def o149_0 : Obj := oT []
def o150_0 : Obj := oF []
def o151_0 : Obj := oT [(zS "self" 423)]
def o152_0 : Obj := oT []
def o153_0 : Obj := oG (fG (inClass (top 17) 9) "long" "Row.long")
def o154_0 : Obj := oC "code" [(zS "long" 420), (zS "Row.long" 421), (zF 422), (zI (72) 0), (zI (1) 0), (zI (0) 0), (zI (0) 0), (zI (3) 0), (zR 149), (.bool true), (zI (181) 0), (zR 150), zN, (zR 151), (zR 152), (zR 153), (zI (424) 0), (zI (72) 0), (zF 425)]
def o155_0 : Obj := oH (fH (inClass (top 17) 9) "long" "Row.long" zN zN (zS "rowmill.rows" 328) (zR 154))
def o156_0 : Obj := oT []
def o157_0 : Obj := oF []
def o158_0 : Obj := oT [(zS "self" 430), (zS "words" 431), (zS "place" 432)]
def o159_0 : Obj := oT []
def o160_0 : Obj := oG (fG (inClass (top 17) 10) "reckoned" "Row.reckoned")
def o161_0 : Obj := oC "code" [(zS "reckoned" 427), (zS "Row.reckoned" 428), (zF 429), (zI (75) 0), (zI (3) 0), (zI (0) 0), (zI (0) 0), (zI (3) 0), (zR 156), (.bool true), (zI (181) 0), (zR 157), zN, (zR 158), (zR 159), (zR 160), (zI (433) 0), (zI (75) 0), (zF 434)]
def o162_0 : Obj := oH (fH (inClass (top 17) 10) "reckoned" "Row.reckoned" zN zN (zS "rowmill.rows" 328) (zR 161))
def o163_0 : Obj := oT []
def o164_0 : Obj := oF []
def o165_0 : Obj := oT [(zS "self" 439), (zS "words" 440), (zS "place" 441)]
def o166_0 : Obj := oT []
def o167_0 : Obj := oG (fG (inClass (top 17) 11) "goal" "Row.goal")
def o168_0 : Obj := oC "code" [(zS "goal" 436), (zS "Row.goal" 437), (zF 438), (zI (78) 0), (zI (3) 0), (zI (0) 0), (zI (0) 0), (zI (3) 0), (zR 163), (.bool true), (zI (181) 0), (zR 164), zN, (zR 165), (zR 166), (zR 167), (zI (442) 0), (zI (78) 0), (zF 443)]
def o169_0 : Obj := oH (fH (inClass (top 17) 11) "goal" "Row.goal" zN zN (zS "rowmill.rows" 328) (zR 168))
def o170_0 : Obj := oT []
def o171_0 (P : Params) : Obj := oD [zE P "__module__" 352 (zS "rowmill.rows" 328), zE P "__firstlineno__" 356 (zI (43) 355), zE P "op" 363 (zR 92), zE P "parts" 370 (zR 99), zE P "told" 377 (zR 106), zE P "reads" 384 (zR 113), zE P "named" 391 (zR 120), zE P "gives" 398 (zR 127), zE P "station" 405 (zR 134), zE P "known" 412 (zR 141), zE P "alone" 419 (zR 148), zE P "long" 426 (zR 155), zE P "reckoned" 435 (zR 162), zE P "goal" 444 (zR 169), zE P "__static_attributes__" 445 (zR 170), zE P "__dict__" 447 (zR 173), zE P "__weakref__" 449 (zR 174), zE P "__doc__" 450 zN] 4
def o172_0 : Obj := oK { name := Str.ofString "Row", bases := [(.type "object")], mro := [(zR 172), (.type "object")], ns := 171, qualname := Str.ofString "Row", hasDict := true, subclasses := [(zR 193), (zR 247), (zR 308), (zR 376), (zR 444), (zR 498), (zR 545), (zR 599)], abstract := false, hasDel := false } [none, none, some (zS "Row" 345), some (zS "Row" 353), some (.builtin "object.__new__"), some (.bool true)]
def o173_0 : Obj := oC "getset_descriptor" [(zS "__dict__" 446), (zR 172), (.builtin "function.__dict__"), (.builtin "function.__dict__#set")]
def o174_0 : Obj := oC "getset_descriptor" [(zS "__weakref__" 448), (zR 172), (.builtin "ExceptionGroup.__weakref__"), zN]
def o175_0 : Obj := oC "super" [(zR 172), (zR 172), (zR 172)]
def o176_0 : Obj := oC "builtin_function_or_method" [(.builtin "object.__init_subclass__"), (zR 172)]
def o177_0 : Obj := oT [(zR 172)]
def o178_0 : Obj := oC "builtin_function_or_method" [(.builtin "type.__prepare__"), (.type "type")]
def o179_0 (P : Params) : Obj := oD [zE P "__module__" 460 (zS "rowmill.rows" 328), zE P "__qualname__" 462 (zS "Stop" 461), zE P "__firstlineno__" 464 (zI (80) 463), zE P "told" 471 (zR 190), zE P "__static_attributes__" 472 (zR 191)] 5
def o180_0 : Obj := oT []
def o181_0 : Obj := oF [(zI (82) 0), (zI (4) 0), (zR 189)]
def o182_0 : Obj := oC "code" [(zS "Stop" 455), (zS "Stop" 456), (zF 457), (zI (80) 0), (zI (0) 0), (zI (0) 0), (zI (0) 0), (zI (0) 0), (zR 180), (.bool false), (zI (181) 0), (zR 181), zN, zN, zN, zN, (zI (458) 0), (zI (80) 0), (zF 459)]
def o183_0 : Obj := oP "frame" [some (zR 182), some (zR 3), some (zR 179), none, some (zS "rowmill.rows" 328), none, some (zR 0)]
def o184_0 : Obj := oT []
def o185_0 : Obj := oF []
def o186_0 : Obj := oT [(zS "self" 468)]
def o187_0 : Obj := oT []
def o188_0 : Obj := oG (fG (inClass (top 18) 0) "told" "Stop.told")
def o189_0 : Obj := oC "code" [(zS "told" 465), (zS "Stop.told" 466), (zF 467), (zI (82) 0), (zI (1) 0), (zI (0) 0), (zI (0) 0), (zI (3) 0), (zR 184), (.bool true), (zI (181) 0), (zR 185), zN, (zR 186), (zR 187), (zR 188), (zI (469) 0), (zI (82) 0), (zF 470)]
def o190_0 : Obj := oH (fH (inClass (top 18) 0) "told" "Stop.told" zN zN (zS "rowmill.rows" 328) (zR 189))
def o191_0 : Obj := oT []
def o192_0 (P : Params) : Obj := oD [zE P "__module__" 460 (zS "rowmill.rows" 328), zE P "__firstlineno__" 464 (zI (80) 463), zE P "told" 471 (zR 190), zE P "__static_attributes__" 472 (zR 191), zE P "__doc__" 473 zN] 2
def o193_0 : Obj := oK { name := Str.ofString "Stop", bases := [(zR 172)], mro := [(zR 193), (zR 172), (.type "object")], ns := 192, qualname := Str.ofString "Stop", hasDict := true, subclasses := [], abstract := false, hasDel := false } [some (zR 177), none, some (zS "Stop" 453), some (zS "Stop" 461), some (.builtin "object.__new__"), some (.bool true)]
def o194_0 : Obj := oC "super" [(zR 193), (zR 193), (zR 193)]
def o195_0 : Obj := oC "builtin_function_or_method" [(.builtin "object.__init_subclass__"), (zR 193)]
def o196_0 : Obj := oT [(zR 172)]
def o197_0 : Obj := oC "builtin_function_or_method" [(.builtin "type.__prepare__"), (.type "type")]
def o198_0 (P : Params) : Obj := oD [zE P "__module__" 483 (zS "rowmill.rows" 328), zE P "__qualname__" 485 (zS "Num" 484), zE P "__firstlineno__" 487 (zI (84) 486), zE P "__init__" 496 (zR 209), zE P "op" 503 (zR 216), zE P "parts" 510 (zR 223), zE P "told" 517 (zR 230), zE P "named" 524 (zR 237), zE P "reckoned" 533 (zR 244), zE P "__static_attributes__" 536 (zR 245)] 10
def o199_0 : Obj := oT []
def o200_0 : Obj := oF [(zI (86) 0), (zI (4) 0), (zR 208), (zI (90) 0), (zI (4) 0), (zR 215), (zI (93) 0), (zI (4) 0), (zR 222), (zI (96) 0), (zI (4) 0), (zR 229), (zI (99) 0), (zI (4) 0), (zR 236), (zI (102) 0), (zI (4) 0), (zR 243)]
def o201_0 : Obj := oC "code" [(zS "Num" 478), (zS "Num" 479), (zF 480), (zI (84) 0), (zI (0) 0), (zI (0) 0), (zI (0) 0), (zI (0) 0), (zR 199), (.bool false), (zI (181) 0), (zR 200), zN, zN, zN, zN, (zI (481) 0), (zI (84) 0), (zF 482)]
def o202_0 : Obj := oP "frame" [some (zR 201), some (zR 3), some (zR 198), none, some (zS "rowmill.rows" 328), none, some (zR 0)]
def o203_0 : Obj := oT []
def o204_0 : Obj := oF []
def o205_0 : Obj := oT [(zS "self" 491), (zS "a" 492), (zS "n" 493)]
def o206_0 : Obj := oT []
def o207_0 : Obj := oG (fG (inClass (top 19) 0) "__init__" "Num.__init__")
def o208_0 : Obj := oC "code" [(zS "__init__" 488), (zS "Num.__init__" 489), (zF 490), (zI (86) 0), (zI (3) 0), (zI (0) 0), (zI (0) 0), (zI (3) 0), (zR 203), (.bool true), (zI (181) 0), (zR 204), zN, (zR 205), (zR 206), (zR 207), (zI (494) 0), (zI (86) 0), (zF 495)]
def o209_0 : Obj := oH (fH (inClass (top 19) 0) "__init__" "Num.__init__" zN zN (zS "rowmill.rows" 328) (zR 208))
def o210_0 : Obj := oT []
def o211_0 : Obj := oF []
def o212_0 : Obj := oT [(zS "self" 500)]
def o213_0 : Obj := oT []
def o214_0 : Obj := oG (fG (inClass (top 19) 1) "op" "Num.op")
def o215_0 : Obj := oC "code" [(zS "op" 497), (zS "Num.op" 498), (zF 499), (zI (90) 0), (zI (1) 0), (zI (0) 0), (zI (0) 0), (zI (3) 0), (zR 210), (.bool true), (zI (181) 0), (zR 211), zN, (zR 212), (zR 213), (zR 214), (zI (501) 0), (zI (90) 0), (zF 502)]
def o216_0 : Obj := oH (fH (inClass (top 19) 1) "op" "Num.op" zN zN (zS "rowmill.rows" 328) (zR 215))
def o217_0 : Obj := oT []
def o218_0 : Obj := oF []
def o219_0 : Obj := oT [(zS "self" 507)]
def o220_0 : Obj := oT []
def o221_0 : Obj := oG (fG (inClass (top 19) 2) "parts" "Num.parts")
def o222_0 : Obj := oC "code" [(zS "parts" 504), (zS "Num.parts" 505), (zF 506), (zI (93) 0), (zI (1) 0), (zI (0) 0), (zI (0) 0), (zI (3) 0), (zR 217), (.bool true), (zI (181) 0), (zR 218), zN, (zR 219), (zR 220), (zR 221), (zI (508) 0), (zI (93) 0), (zF 509)]
def o223_0 : Obj := oH (fH (inClass (top 19) 2) "parts" "Num.parts" zN zN (zS "rowmill.rows" 328) (zR 222))
def o224_0 : Obj := oT []
def o225_0 : Obj := oF []
def o226_0 : Obj := oT [(zS "self" 514)]
def o227_0 : Obj := oT []
def o228_0 : Obj := oG (fG (inClass (top 19) 3) "told" "Num.told")
def o229_0 : Obj := oC "code" [(zS "told" 511), (zS "Num.told" 512), (zF 513), (zI (96) 0), (zI (1) 0), (zI (0) 0), (zI (0) 0), (zI (3) 0), (zR 224), (.bool true), (zI (181) 0), (zR 225), zN, (zR 226), (zR 227), (zR 228), (zI (515) 0), (zI (96) 0), (zF 516)]
def o230_0 : Obj := oH (fH (inClass (top 19) 3) "told" "Num.told" zN zN (zS "rowmill.rows" 328) (zR 229))
def o231_0 : Obj := oT []
def o232_0 : Obj := oF []
def o233_0 : Obj := oT [(zS "self" 521)]
def o234_0 : Obj := oT []
def o235_0 : Obj := oG (fG (inClass (top 19) 4) "named" "Num.named")
def o236_0 : Obj := oC "code" [(zS "named" 518), (zS "Num.named" 519), (zF 520), (zI (99) 0), (zI (1) 0), (zI (0) 0), (zI (0) 0), (zI (3) 0), (zR 231), (.bool true), (zI (181) 0), (zR 232), zN, (zR 233), (zR 234), (zR 235), (zI (522) 0), (zI (99) 0), (zF 523)]
def o237_0 : Obj := oH (fH (inClass (top 19) 4) "named" "Num.named" zN zN (zS "rowmill.rows" 328) (zR 236))
def o238_0 : Obj := oT []
def o239_0 : Obj := oF []
def o240_0 : Obj := oT [(zS "self" 528), (zS "words" 529), (zS "place" 530)]
def o241_0 : Obj := oT []
def o242_0 : Obj := oG (fG (inClass (top 19) 5) "reckoned" "Num.reckoned")
def o243_0 : Obj := oC "code" [(zS "reckoned" 525), (zS "Num.reckoned" 526), (zF 527), (zI (102) 0), (zI (3) 0), (zI (0) 0), (zI (0) 0), (zI (3) 0), (zR 238), (.bool true), (zI (181) 0), (zR 239), zN, (zR 240), (zR 241), (zR 242), (zI (531) 0), (zI (102) 0), (zF 532)]
def o244_0 : Obj := oH (fH (inClass (top 19) 5) "reckoned" "Num.reckoned" zN zN (zS "rowmill.rows" 328) (zR 243))
def o245_0 : Obj := oT [(zS "a" 534), (zS "n" 535)]
def o246_0 (P : Params) : Obj := oD [zE P "__module__" 483 (zS "rowmill.rows" 328), zE P "__firstlineno__" 487 (zI (84) 486), zE P "__init__" 496 (zR 209), zE P "op" 503 (zR 216), zE P "parts" 510 (zR 223), zE P "told" 517 (zR 230), zE P "named" 524 (zR 237), zE P "reckoned" 533 (zR 244), zE P "__static_attributes__" 536 (zR 245), zE P "__doc__" 537 zN] 2
def o247_0 : Obj := oK { name := Str.ofString "Num", bases := [(zR 172)], mro := [(zR 247), (zR 172), (.type "object")], ns := 246, qualname := Str.ofString "Num", hasDict := true, subclasses := [], abstract := false, hasDel := false } [some (zR 196), none, some (zS "Num" 476), some (zS "Num" 484), some (.builtin "object.__new__"), some (.bool true)]
def o248_0 : Obj := oC "super" [(zR 247), (zR 247), (zR 247)]
def o249_0 : Obj := oC "builtin_function_or_method" [(.builtin "object.__init_subclass__"), (zR 247)]
def o250_0 : Obj := oT [(zR 172)]
def o251_0 : Obj := oC "builtin_function_or_method" [(.builtin "type.__prepare__"), (.type "type")]
def o252_0 (P : Params) : Obj := oD [zE P "__module__" 547 (zS "rowmill.rows" 328), zE P "__qualname__" 549 (zS "Plus" 548), zE P "__firstlineno__" 551 (zI (104) 550), zE P "__init__" 561 (zR 263), zE P "op" 568 (zR 270), zE P "parts" 575 (zR 277), zE P "told" 582 (zR 284), zE P "reads" 589 (zR 291), zE P "named" 596 (zR 298), zE P "reckoned" 605 (zR 305), zE P "__static_attributes__" 609 (zR 306)] 11
def o253_0 : Obj := oT []
def o254_0 : Obj := oF [(zI (106) 0), (zI (4) 0), (zR 262), (zI (111) 0), (zI (4) 0), (zR 269), (zI (114) 0), (zI (4) 0), (zR 276), (zI (117) 0), (zI (4) 0), (zR 283), (zI (120) 0), (zI (4) 0), (zR 290), (zI (123) 0), (zI (4) 0), (zR 297), (zI (126) 0), (zI (4) 0), (zR 304)]
def o255_0 : Obj := oC "code" [(zS "Plus" 542), (zS "Plus" 543), (zF 544), (zI (104) 0), (zI (0) 0), (zI (0) 0), (zI (0) 0), (zI (0) 0), (zR 253), (.bool false), (zI (181) 0), (zR 254), zN, zN, zN, zN, (zI (545) 0), (zI (104) 0), (zF 546)]
def o256_0 : Obj := oP "frame" [some (zR 255), some (zR 3), some (zR 252), none, some (zS "rowmill.rows" 328), none, some (zR 0)]
def o257_0 : Obj := oT []
def o258_0 : Obj := oF []
def o259_0 : Obj := oT [(zS "self" 555), (zS "a" 556), (zS "b" 557), (zS "n" 558)]
def o260_0 : Obj := oT []
def o261_0 : Obj := oG (fG (inClass (top 20) 0) "__init__" "Plus.__init__")
def o262_0 : Obj := oC "code" [(zS "__init__" 552), (zS "Plus.__init__" 553), (zF 554), (zI (106) 0), (zI (4) 0), (zI (0) 0), (zI (0) 0), (zI (3) 0), (zR 257), (.bool true), (zI (181) 0), (zR 258), zN, (zR 259), (zR 260), (zR 261), (zI (559) 0), (zI (106) 0), (zF 560)]
def o263_0 : Obj := oH (fH (inClass (top 20) 0) "__init__" "Plus.__init__" zN zN (zS "rowmill.rows" 328) (zR 262))
def o264_0 : Obj := oT []
def o265_0 : Obj := oF []
def o266_0 : Obj := oT [(zS "self" 565)]
def o267_0 : Obj := oT []
def o268_0 : Obj := oG (fG (inClass (top 20) 1) "op" "Plus.op")
def o269_0 : Obj := oC "code" [(zS "op" 562), (zS "Plus.op" 563), (zF 564), (zI (111) 0), (zI (1) 0), (zI (0) 0), (zI (0) 0), (zI (3) 0), (zR 264), (.bool true), (zI (181) 0), (zR 265), zN, (zR 266), (zR 267), (zR 268), (zI (566) 0), (zI (111) 0), (zF 567)]
def o270_0 : Obj := oH (fH (inClass (top 20) 1) "op" "Plus.op" zN zN (zS "rowmill.rows" 328) (zR 269))
def o271_0 : Obj := oT []
def o272_0 : Obj := oF []
def o273_0 : Obj := oT [(zS "self" 572)]
def o274_0 : Obj := oT []
def o275_0 : Obj := oG (fG (inClass (top 20) 2) "parts" "Plus.parts")
def o276_0 : Obj := oC "code" [(zS "parts" 569), (zS "Plus.parts" 570), (zF 571), (zI (114) 0), (zI (1) 0), (zI (0) 0), (zI (0) 0), (zI (3) 0), (zR 271), (.bool true), (zI (181) 0), (zR 272), zN, (zR 273), (zR 274), (zR 275), (zI (573) 0), (zI (114) 0), (zF 574)]
def o277_0 : Obj := oH (fH (inClass (top 20) 2) "parts" "Plus.parts" zN zN (zS "rowmill.rows" 328) (zR 276))
def o278_0 : Obj := oT []
def o279_0 : Obj := oF []
def o280_0 : Obj := oT [(zS "self" 579)]
def o281_0 : Obj := oT []
def o282_0 : Obj := oG (fG (inClass (top 20) 3) "told" "Plus.told")
def o283_0 : Obj := oC "code" [(zS "told" 576), (zS "Plus.told" 577), (zF 578), (zI (117) 0), (zI (1) 0), (zI (0) 0), (zI (0) 0), (zI (3) 0), (zR 278), (.bool true), (zI (181) 0), (zR 279), zN, (zR 280), (zR 281), (zR 282), (zI (580) 0), (zI (117) 0), (zF 581)]
def o284_0 : Obj := oH (fH (inClass (top 20) 3) "told" "Plus.told" zN zN (zS "rowmill.rows" 328) (zR 283))
def o285_0 : Obj := oT []
def o286_0 : Obj := oF []
def o287_0 : Obj := oT [(zS "self" 586)]
def o288_0 : Obj := oT []
def o289_0 : Obj := oG (fG (inClass (top 20) 4) "reads" "Plus.reads")
def o290_0 : Obj := oC "code" [(zS "reads" 583), (zS "Plus.reads" 584), (zF 585), (zI (120) 0), (zI (1) 0), (zI (0) 0), (zI (0) 0), (zI (3) 0), (zR 285), (.bool true), (zI (181) 0), (zR 286), zN, (zR 287), (zR 288), (zR 289), (zI (587) 0), (zI (120) 0), (zF 588)]
def o291_0 : Obj := oH (fH (inClass (top 20) 4) "reads" "Plus.reads" zN zN (zS "rowmill.rows" 328) (zR 290))
def o292_0 : Obj := oT []
def o293_0 : Obj := oF []
def o294_0 : Obj := oT [(zS "self" 593)]
def o295_0 : Obj := oT []
def o296_0 : Obj := oG (fG (inClass (top 20) 5) "named" "Plus.named")
def o297_0 : Obj := oC "code" [(zS "named" 590), (zS "Plus.named" 591), (zF 592), (zI (123) 0), (zI (1) 0), (zI (0) 0), (zI (0) 0), (zI (3) 0), (zR 292), (.bool true), (zI (181) 0), (zR 293), zN, (zR 294), (zR 295), (zR 296), (zI (594) 0), (zI (123) 0), (zF 595)]
def o298_0 : Obj := oH (fH (inClass (top 20) 5) "named" "Plus.named" zN zN (zS "rowmill.rows" 328) (zR 297))
def o299_0 : Obj := oT []
def o300_0 : Obj := oF []
def o301_0 : Obj := oT [(zS "self" 600), (zS "words" 601), (zS "place" 602)]
def o302_0 : Obj := oT []
def o303_0 : Obj := oG (fG (inClass (top 20) 6) "reckoned" "Plus.reckoned")
def o304_0 : Obj := oC "code" [(zS "reckoned" 597), (zS "Plus.reckoned" 598), (zF 599), (zI (126) 0), (zI (3) 0), (zI (0) 0), (zI (0) 0), (zI (3) 0), (zR 299), (.bool true), (zI (181) 0), (zR 300), zN, (zR 301), (zR 302), (zR 303), (zI (603) 0), (zI (126) 0), (zF 604)]
def o305_0 : Obj := oH (fH (inClass (top 20) 6) "reckoned" "Plus.reckoned" zN zN (zS "rowmill.rows" 328) (zR 304))
def o306_0 : Obj := oT [(zS "a" 606), (zS "b" 607), (zS "n" 608)]
def o307_0 (P : Params) : Obj := oD [zE P "__module__" 547 (zS "rowmill.rows" 328), zE P "__firstlineno__" 551 (zI (104) 550), zE P "__init__" 561 (zR 263), zE P "op" 568 (zR 270), zE P "parts" 575 (zR 277), zE P "told" 582 (zR 284), zE P "reads" 589 (zR 291), zE P "named" 596 (zR 298), zE P "reckoned" 605 (zR 305), zE P "__static_attributes__" 609 (zR 306), zE P "__doc__" 610 zN] 2
def o308_0 : Obj := oK { name := Str.ofString "Plus", bases := [(zR 172)], mro := [(zR 308), (zR 172), (.type "object")], ns := 307, qualname := Str.ofString "Plus", hasDict := true, subclasses := [], abstract := false, hasDel := false } [some (zR 250), none, some (zS "Plus" 540), some (zS "Plus" 548), some (.builtin "object.__new__"), some (.bool true)]
def o309_0 : Obj := oC "super" [(zR 308), (zR 308), (zR 308)]
def o310_0 : Obj := oC "builtin_function_or_method" [(.builtin "object.__init_subclass__"), (zR 308)]
def o311_0 : Obj := oT [(zR 172)]
def o312_0 : Obj := oC "builtin_function_or_method" [(.builtin "type.__prepare__"), (.type "type")]
def o313_0 (P : Params) : Obj := oD [zE P "__module__" 620 (zS "rowmill.rows" 328), zE P "__qualname__" 622 (zS "Pair" 621), zE P "__firstlineno__" 624 (zI (128) 623), zE P "__init__" 635 (zR 324), zE P "op" 642 (zR 331), zE P "parts" 649 (zR 338), zE P "told" 656 (zR 345), zE P "reads" 663 (zR 352), zE P "named" 670 (zR 359), zE P "long" 677 (zR 366), zE P "reckoned" 686 (zR 373), zE P "__static_attributes__" 691 (zR 374)] 12
def o314_0 : Obj := oT []
def o315_0 : Obj := oF [(zI (130) 0), (zI (4) 0), (zR 323), (zI (136) 0), (zI (4) 0), (zR 330), (zI (139) 0), (zI (4) 0), (zR 337), (zI (142) 0), (zI (4) 0), (zR 344), (zI (145) 0), (zI (4) 0), (zR 351), (zI (148) 0), (zI (4) 0), (zR 358), (zI (151) 0), (zI (4) 0), (zR 365), (zI (154) 0), (zI (4) 0), (zR 372)]
def o316_0 : Obj := oC "code" [(zS "Pair" 615), (zS "Pair" 616), (zF 617), (zI (128) 0), (zI (0) 0), (zI (0) 0), (zI (0) 0), (zI (0) 0), (zR 314), (.bool false), (zI (181) 0), (zR 315), zN, zN, zN, zN, (zI (618) 0), (zI (128) 0), (zF 619)]
def o317_0 : Obj := oP "frame" [some (zR 316), some (zR 3), some (zR 313), none, some (zS "rowmill.rows" 328), none, some (zR 0)]
def o318_0 : Obj := oT []
def o319_0 : Obj := oF []
def o320_0 : Obj := oT [(zS "self" 628), (zS "word" 629), (zS "a" 630), (zS "b" 631), (zS "c" 632)]
def o321_0 : Obj := oT []
def o322_0 : Obj := oG (fG (inClass (top 21) 0) "__init__" "Pair.__init__")
def o323_0 : Obj := oC "code" [(zS "__init__" 625), (zS "Pair.__init__" 626), (zF 627), (zI (130) 0), (zI (5) 0), (zI (0) 0), (zI (0) 0), (zI (3) 0), (zR 318), (.bool true), (zI (181) 0), (zR 319), zN, (zR 320), (zR 321), (zR 322), (zI (633) 0), (zI (130) 0), (zF 634)]
def o324_0 : Obj := oH (fH (inClass (top 21) 0) "__init__" "Pair.__init__" zN zN (zS "rowmill.rows" 328) (zR 323))
def o325_0 : Obj := oT []
def o326_0 : Obj := oF []
def o327_0 : Obj := oT [(zS "self" 639)]
def o328_0 : Obj := oT []
def o329_0 : Obj := oG (fG (inClass (top 21) 1) "op" "Pair.op")
def o330_0 : Obj := oC "code" [(zS "op" 636), (zS "Pair.op" 637), (zF 638), (zI (136) 0), (zI (1) 0), (zI (0) 0), (zI (0) 0), (zI (3) 0), (zR 325), (.bool true), (zI (181) 0), (zR 326), zN, (zR 327), (zR 328), (zR 329), (zI (640) 0), (zI (136) 0), (zF 641)]
def o331_0 : Obj := oH (fH (inClass (top 21) 1) "op" "Pair.op" zN zN (zS "rowmill.rows" 328) (zR 330))
def o332_0 : Obj := oT []
def o333_0 : Obj := oF []
def o334_0 : Obj := oT [(zS "self" 646)]
def o335_0 : Obj := oT []
def o336_0 : Obj := oG (fG (inClass (top 21) 2) "parts" "Pair.parts")
def o337_0 : Obj := oC "code" [(zS "parts" 643), (zS "Pair.parts" 644), (zF 645), (zI (139) 0), (zI (1) 0), (zI (0) 0), (zI (0) 0), (zI (3) 0), (zR 332), (.bool true), (zI (181) 0), (zR 333), zN, (zR 334), (zR 335), (zR 336), (zI (647) 0), (zI (139) 0), (zF 648)]
def o338_0 : Obj := oH (fH (inClass (top 21) 2) "parts" "Pair.parts" zN zN (zS "rowmill.rows" 328) (zR 337))
def o339_0 : Obj := oT []
def o340_0 : Obj := oF []
def o341_0 : Obj := oT [(zS "self" 653)]
def o342_0 : Obj := oT []
def o343_0 : Obj := oG (fG (inClass (top 21) 3) "told" "Pair.told")
def o344_0 : Obj := oC "code" [(zS "told" 650), (zS "Pair.told" 651), (zF 652), (zI (142) 0), (zI (1) 0), (zI (0) 0), (zI (0) 0), (zI (3) 0), (zR 339), (.bool true), (zI (181) 0), (zR 340), zN, (zR 341), (zR 342), (zR 343), (zI (654) 0), (zI (142) 0), (zF 655)]
def o345_0 : Obj := oH (fH (inClass (top 21) 3) "told" "Pair.told" zN zN (zS "rowmill.rows" 328) (zR 344))
def o346_0 : Obj := oT []
def o347_0 : Obj := oF []
def o348_0 : Obj := oT [(zS "self" 660)]
def o349_0 : Obj := oT []
def o350_0 : Obj := oG (fG (inClass (top 21) 4) "reads" "Pair.reads")
def o351_0 : Obj := oC "code" [(zS "reads" 657), (zS "Pair.reads" 658), (zF 659), (zI (145) 0), (zI (1) 0), (zI (0) 0), (zI (0) 0), (zI (3) 0), (zR 346), (.bool true), (zI (181) 0), (zR 347), zN, (zR 348), (zR 349), (zR 350), (zI (661) 0), (zI (145) 0), (zF 662)]
def o352_0 : Obj := oH (fH (inClass (top 21) 4) "reads" "Pair.reads" zN zN (zS "rowmill.rows" 328) (zR 351))
def o353_0 : Obj := oT []
def o354_0 : Obj := oF []
def o355_0 : Obj := oT [(zS "self" 667)]
def o356_0 : Obj := oT []
def o357_0 : Obj := oG (fG (inClass (top 21) 5) "named" "Pair.named")
def o358_0 : Obj := oC "code" [(zS "named" 664), (zS "Pair.named" 665), (zF 666), (zI (148) 0), (zI (1) 0), (zI (0) 0), (zI (0) 0), (zI (3) 0), (zR 353), (.bool true), (zI (181) 0), (zR 354), zN, (zR 355), (zR 356), (zR 357), (zI (668) 0), (zI (148) 0), (zF 669)]
def o359_0 : Obj := oH (fH (inClass (top 21) 5) "named" "Pair.named" zN zN (zS "rowmill.rows" 328) (zR 358))
def o360_0 : Obj := oT []
def o361_0 : Obj := oF []
def o362_0 : Obj := oT [(zS "self" 674)]
def o363_0 : Obj := oT []
def o364_0 : Obj := oG (fG (inClass (top 21) 6) "long" "Pair.long")
def o365_0 : Obj := oC "code" [(zS "long" 671), (zS "Pair.long" 672), (zF 673), (zI (151) 0), (zI (1) 0), (zI (0) 0), (zI (0) 0), (zI (3) 0), (zR 360), (.bool true), (zI (181) 0), (zR 361), zN, (zR 362), (zR 363), (zR 364), (zI (675) 0), (zI (151) 0), (zF 676)]
def o366_0 : Obj := oH (fH (inClass (top 21) 6) "long" "Pair.long" zN zN (zS "rowmill.rows" 328) (zR 365))
def o367_0 : Obj := oT []
def o368_0 : Obj := oF []
def o369_0 : Obj := oT [(zS "self" 681), (zS "words" 682), (zS "place" 683)]
def o370_0 : Obj := oT []
def o371_0 : Obj := oG (fG (inClass (top 21) 7) "reckoned" "Pair.reckoned")
def o372_0 : Obj := oC "code" [(zS "reckoned" 678), (zS "Pair.reckoned" 679), (zF 680), (zI (154) 0), (zI (3) 0), (zI (0) 0), (zI (0) 0), (zI (3) 0), (zR 367), (.bool true), (zI (181) 0), (zR 368), zN, (zR 369), (zR 370), (zR 371), (zI (684) 0), (zI (154) 0), (zF 685)]
def o373_0 : Obj := oH (fH (inClass (top 21) 7) "reckoned" "Pair.reckoned" zN zN (zS "rowmill.rows" 328) (zR 372))
def o374_0 : Obj := oT [(zS "a" 687), (zS "b" 688), (zS "c" 689), (zS "word" 690)]
def o375_0 (P : Params) : Obj := oD [zE P "__module__" 620 (zS "rowmill.rows" 328), zE P "__firstlineno__" 624 (zI (128) 623), zE P "__init__" 635 (zR 324), zE P "op" 642 (zR 331), zE P "parts" 649 (zR 338), zE P "told" 656 (zR 345), zE P "reads" 663 (zR 352), zE P "named" 670 (zR 359), zE P "long" 677 (zR 366), zE P "reckoned" 686 (zR 373), zE P "__static_attributes__" 691 (zR 374), zE P "__doc__" 692 zN] 2
def o376_0 : Obj := oK { name := Str.ofString "Pair", bases := [(zR 172)], mro := [(zR 376), (zR 172), (.type "object")], ns := 375, qualname := Str.ofString "Pair", hasDict := true, subclasses := [], abstract := false, hasDel := false } [some (zR 311), none, some (zS "Pair" 613), some (zS "Pair" 621), some (.builtin "object.__new__"), some (.bool true)]
def o377_0 : Obj := oC "super" [(zR 376), (zR 376), (zR 376)]
def o378_0 : Obj := oC "builtin_function_or_method" [(.builtin "object.__init_subclass__"), (zR 376)]
def o379_0 : Obj := oT [(zR 172)]
def o380_0 : Obj := oC "builtin_function_or_method" [(.builtin "type.__prepare__"), (.type "type")]
def o381_0 (P : Params) : Obj := oD [zE P "__module__" 702 (zS "rowmill.rows" 328), zE P "__qualname__" 704 (zS "Load" 703), zE P "__firstlineno__" 706 (zI (156) 705), zE P "__init__" 716 (zR 392), zE P "op" 723 (zR 399), zE P "parts" 730 (zR 406), zE P "told" 737 (zR 413), zE P "reads" 744 (zR 420), zE P "named" 751 (zR 427), zE P "station" 758 (zR 434), zE P "reckoned" 767 (zR 441), zE P "__static_attributes__" 771 (zR 442)] 12
def o382_0 : Obj := oT []
def o383_0 : Obj := oF [(zI (158) 0), (zI (4) 0), (zR 391), (zI (163) 0), (zI (4) 0), (zR 398), (zI (166) 0), (zI (4) 0), (zR 405), (zI (169) 0), (zI (4) 0), (zR 412), (zI (172) 0), (zI (4) 0), (zR 419), (zI (175) 0), (zI (4) 0), (zR 426), (zI (178) 0), (zI (4) 0), (zR 433), (zI (181) 0), (zI (4) 0), (zR 440)]
def o384_0 : Obj := oC "code" [(zS "Load" 697), (zS "Load" 698), (zF 699), (zI (156) 0), (zI (0) 0), (zI (0) 0), (zI (0) 0), (zI (0) 0), (zR 382), (.bool false), (zI (181) 0), (zR 383), zN, zN, zN, zN, (zI (700) 0), (zI (156) 0), (zF 701)]
def o385_0 : Obj := oP "frame" [some (zR 384), some (zR 3), some (zR 381), none, some (zS "rowmill.rows" 328), none, some (zR 0)]
def o386_0 : Obj := oT []
def o387_0 : Obj := oF []
def o388_0 : Obj := oT [(zS "self" 710), (zS "a" 711), (zS "b" 712), (zS "n" 713)]
def o389_0 : Obj := oT []
def o390_0 : Obj := oG (fG (inClass (top 22) 0) "__init__" "Load.__init__")
def o391_0 : Obj := oC "code" [(zS "__init__" 707), (zS "Load.__init__" 708), (zF 709), (zI (158) 0), (zI (4) 0), (zI (0) 0), (zI (0) 0), (zI (3) 0), (zR 386), (.bool true), (zI (181) 0), (zR 387), zN, (zR 388), (zR 389), (zR 390), (zI (714) 0), (zI (158) 0), (zF 715)]
def o392_0 : Obj := oH (fH (inClass (top 22) 0) "__init__" "Load.__init__" zN zN (zS "rowmill.rows" 328) (zR 391))
def o393_0 : Obj := oT []
def o394_0 : Obj := oF []
def o395_0 : Obj := oT [(zS "self" 720)]
def o396_0 : Obj := oT []
def o397_0 : Obj := oG (fG (inClass (top 22) 1) "op" "Load.op")
def o398_0 : Obj := oC "code" [(zS "op" 717), (zS "Load.op" 718), (zF 719), (zI (163) 0), (zI (1) 0), (zI (0) 0), (zI (0) 0), (zI (3) 0), (zR 393), (.bool true), (zI (181) 0), (zR 394), zN, (zR 395), (zR 396), (zR 397), (zI (721) 0), (zI (163) 0), (zF 722)]
def o399_0 : Obj := oH (fH (inClass (top 22) 1) "op" "Load.op" zN zN (zS "rowmill.rows" 328) (zR 398))
def o400_0 : Obj := oT []
def o401_0 : Obj := oF []
def o402_0 : Obj := oT [(zS "self" 727)]
def o403_0 : Obj := oT []
def o404_0 : Obj := oG (fG (inClass (top 22) 2) "parts" "Load.parts")
def o405_0 : Obj := oC "code" [(zS "parts" 724), (zS "Load.parts" 725), (zF 726), (zI (166) 0), (zI (1) 0), (zI (0) 0), (zI (0) 0), (zI (3) 0), (zR 400), (.bool true), (zI (181) 0), (zR 401), zN, (zR 402), (zR 403), (zR 404), (zI (728) 0), (zI (166) 0), (zF 729)]
def o406_0 : Obj := oH (fH (inClass (top 22) 2) "parts" "Load.parts" zN zN (zS "rowmill.rows" 328) (zR 405))
def o407_0 : Obj := oT []
def o408_0 : Obj := oF []
def o409_0 : Obj := oT [(zS "self" 734)]
def o410_0 : Obj := oT []
def o411_0 : Obj := oG (fG (inClass (top 22) 3) "told" "Load.told")
def o412_0 : Obj := oC "code" [(zS "told" 731), (zS "Load.told" 732), (zF 733), (zI (169) 0), (zI (1) 0), (zI (0) 0), (zI (0) 0), (zI (3) 0), (zR 407), (.bool true), (zI (181) 0), (zR 408), zN, (zR 409), (zR 410), (zR 411), (zI (735) 0), (zI (169) 0), (zF 736)]
def o413_0 : Obj := oH (fH (inClass (top 22) 3) "told" "Load.told" zN zN (zS "rowmill.rows" 328) (zR 412))
def o414_0 : Obj := oT []
def o415_0 : Obj := oF []
def o416_0 : Obj := oT [(zS "self" 741)]
def o417_0 : Obj := oT []
def o418_0 : Obj := oG (fG (inClass (top 22) 4) "reads" "Load.reads")
def o419_0 : Obj := oC "code" [(zS "reads" 738), (zS "Load.reads" 739), (zF 740), (zI (172) 0), (zI (1) 0), (zI (0) 0), (zI (0) 0), (zI (3) 0), (zR 414), (.bool true), (zI (181) 0), (zR 415), zN, (zR 416), (zR 417), (zR 418), (zI (742) 0), (zI (172) 0), (zF 743)]
def o420_0 : Obj := oH (fH (inClass (top 22) 4) "reads" "Load.reads" zN zN (zS "rowmill.rows" 328) (zR 419))
def o421_0 : Obj := oT []
def o422_0 : Obj := oF []
def o423_0 : Obj := oT [(zS "self" 748)]
def o424_0 : Obj := oT []
def o425_0 : Obj := oG (fG (inClass (top 22) 5) "named" "Load.named")
def o426_0 : Obj := oC "code" [(zS "named" 745), (zS "Load.named" 746), (zF 747), (zI (175) 0), (zI (1) 0), (zI (0) 0), (zI (0) 0), (zI (3) 0), (zR 421), (.bool true), (zI (181) 0), (zR 422), zN, (zR 423), (zR 424), (zR 425), (zI (749) 0), (zI (175) 0), (zF 750)]
def o427_0 : Obj := oH (fH (inClass (top 22) 5) "named" "Load.named" zN zN (zS "rowmill.rows" 328) (zR 426))
def o428_0 : Obj := oT []
def o429_0 : Obj := oF []
def o430_0 : Obj := oT [(zS "self" 755)]
def o431_0 : Obj := oT []
def o432_0 : Obj := oG (fG (inClass (top 22) 6) "station" "Load.station")
def o433_0 : Obj := oC "code" [(zS "station" 752), (zS "Load.station" 753), (zF 754), (zI (178) 0), (zI (1) 0), (zI (0) 0), (zI (0) 0), (zI (3) 0), (zR 428), (.bool true), (zI (181) 0), (zR 429), zN, (zR 430), (zR 431), (zR 432), (zI (756) 0), (zI (178) 0), (zF 757)]
def o434_0 : Obj := oH (fH (inClass (top 22) 6) "station" "Load.station" zN zN (zS "rowmill.rows" 328) (zR 433))
def o435_0 : Obj := oT []
def o436_0 : Obj := oF []
def o437_0 : Obj := oT [(zS "self" 762), (zS "words" 763), (zS "place" 764)]
def o438_0 : Obj := oT []
def o439_0 : Obj := oG (fG (inClass (top 22) 7) "reckoned" "Load.reckoned")
def o440_0 : Obj := oC "code" [(zS "reckoned" 759), (zS "Load.reckoned" 760), (zF 761), (zI (181) 0), (zI (3) 0), (zI (0) 0), (zI (0) 0), (zI (3) 0), (zR 435), (.bool true), (zI (181) 0), (zR 436), zN, (zR 437), (zR 438), (zR 439), (zI (765) 0), (zI (181) 0), (zF 766)]
def o441_0 : Obj := oH (fH (inClass (top 22) 7) "reckoned" "Load.reckoned" zN zN (zS "rowmill.rows" 328) (zR 440))
def o442_0 : Obj := oT [(zS "a" 768), (zS "b" 769), (zS "n" 770)]
def o443_0 (P : Params) : Obj := oD [zE P "__module__" 702 (zS "rowmill.rows" 328), zE P "__firstlineno__" 706 (zI (156) 705), zE P "__init__" 716 (zR 392), zE P "op" 723 (zR 399), zE P "parts" 730 (zR 406), zE P "told" 737 (zR 413), zE P "reads" 744 (zR 420), zE P "named" 751 (zR 427), zE P "station" 758 (zR 434), zE P "reckoned" 767 (zR 441), zE P "__static_attributes__" 771 (zR 442), zE P "__doc__" 772 zN] 2
def o444_0 : Obj := oK { name := Str.ofString "Load", bases := [(zR 172)], mro := [(zR 444), (zR 172), (.type "object")], ns := 443, qualname := Str.ofString "Load", hasDict := true, subclasses := [], abstract := false, hasDel := false } [some (zR 379), none, some (zS "Load" 695), some (zS "Load" 703), some (.builtin "object.__new__"), some (.bool true)]
def o445_0 : Obj := oC "super" [(zR 444), (zR 444), (zR 444)]
def o446_0 : Obj := oC "builtin_function_or_method" [(.builtin "object.__init_subclass__"), (zR 444)]
def o447_0 : Obj := oT [(zR 172)]
def o448_0 : Obj := oC "builtin_function_or_method" [(.builtin "type.__prepare__"), (.type "type")]
def o449_0 (P : Params) : Obj := oD [zE P "__module__" 782 (zS "rowmill.rows" 328), zE P "__qualname__" 784 (zS "Store" 783), zE P "__firstlineno__" 786 (zI (183) 785), zE P "__init__" 796 (zR 460), zE P "op" 803 (zR 467), zE P "parts" 810 (zR 474), zE P "told" 817 (zR 481), zE P "reads" 824 (zR 488), zE P "reckoned" 833 (zR 495), zE P "__static_attributes__" 837 (zR 496)] 10
def o450_0 : Obj := oT []
def o451_0 : Obj := oF [(zI (185) 0), (zI (4) 0), (zR 459), (zI (190) 0), (zI (4) 0), (zR 466), (zI (193) 0), (zI (4) 0), (zR 473), (zI (196) 0), (zI (4) 0), (zR 480), (zI (199) 0), (zI (4) 0), (zR 487), (zI (202) 0), (zI (4) 0), (zR 494)]
def o452_0 : Obj := oC "code" [(zS "Store" 777), (zS "Store" 778), (zF 779), (zI (183) 0), (zI (0) 0), (zI (0) 0), (zI (0) 0), (zI (0) 0), (zR 450), (.bool false), (zI (181) 0), (zR 451), zN, zN, zN, zN, (zI (780) 0), (zI (183) 0), (zF 781)]
def o453_0 : Obj := oP "frame" [some (zR 452), some (zR 3), some (zR 449), none, some (zS "rowmill.rows" 328), none, some (zR 0)]
def o454_0 : Obj := oT []
def o455_0 : Obj := oF []
def o456_0 : Obj := oT [(zS "self" 790), (zS "a" 791), (zS "b" 792), (zS "n" 793)]
def o457_0 : Obj := oT []
def o458_0 : Obj := oG (fG (inClass (top 23) 0) "__init__" "Store.__init__")
def o459_0 : Obj := oC "code" [(zS "__init__" 787), (zS "Store.__init__" 788), (zF 789), (zI (185) 0), (zI (4) 0), (zI (0) 0), (zI (0) 0), (zI (3) 0), (zR 454), (.bool true), (zI (181) 0), (zR 455), zN, (zR 456), (zR 457), (zR 458), (zI (794) 0), (zI (185) 0), (zF 795)]
def o460_0 : Obj := oH (fH (inClass (top 23) 0) "__init__" "Store.__init__" zN zN (zS "rowmill.rows" 328) (zR 459))
def o461_0 : Obj := oT []
def o462_0 : Obj := oF []
def o463_0 : Obj := oT [(zS "self" 800)]
def o464_0 : Obj := oT []
def o465_0 : Obj := oG (fG (inClass (top 23) 1) "op" "Store.op")
def o466_0 : Obj := oC "code" [(zS "op" 797), (zS "Store.op" 798), (zF 799), (zI (190) 0), (zI (1) 0), (zI (0) 0), (zI (0) 0), (zI (3) 0), (zR 461), (.bool true), (zI (181) 0), (zR 462), zN, (zR 463), (zR 464), (zR 465), (zI (801) 0), (zI (190) 0), (zF 802)]
def o467_0 : Obj := oH (fH (inClass (top 23) 1) "op" "Store.op" zN zN (zS "rowmill.rows" 328) (zR 466))
def o468_0 : Obj := oT []
def o469_0 : Obj := oF []
def o470_0 : Obj := oT [(zS "self" 807)]
def o471_0 : Obj := oT []
def o472_0 : Obj := oG (fG (inClass (top 23) 2) "parts" "Store.parts")
def o473_0 : Obj := oC "code" [(zS "parts" 804), (zS "Store.parts" 805), (zF 806), (zI (193) 0), (zI (1) 0), (zI (0) 0), (zI (0) 0), (zI (3) 0), (zR 468), (.bool true), (zI (181) 0), (zR 469), zN, (zR 470), (zR 471), (zR 472), (zI (808) 0), (zI (193) 0), (zF 809)]
def o474_0 : Obj := oH (fH (inClass (top 23) 2) "parts" "Store.parts" zN zN (zS "rowmill.rows" 328) (zR 473))
def o475_0 : Obj := oT []
def o476_0 : Obj := oF []
def o477_0 : Obj := oT [(zS "self" 814)]
def o478_0 : Obj := oT []
def o479_0 : Obj := oG (fG (inClass (top 23) 3) "told" "Store.told")
def o480_0 : Obj := oC "code" [(zS "told" 811), (zS "Store.told" 812), (zF 813), (zI (196) 0), (zI (1) 0), (zI (0) 0), (zI (0) 0), (zI (3) 0), (zR 475), (.bool true), (zI (181) 0), (zR 476), zN, (zR 477), (zR 478), (zR 479), (zI (815) 0), (zI (196) 0), (zF 816)]
def o481_0 : Obj := oH (fH (inClass (top 23) 3) "told" "Store.told" zN zN (zS "rowmill.rows" 328) (zR 480))
def o482_0 : Obj := oT []
def o483_0 : Obj := oF []
def o484_0 : Obj := oT [(zS "self" 821)]
def o485_0 : Obj := oT []
def o486_0 : Obj := oG (fG (inClass (top 23) 4) "reads" "Store.reads")
def o487_0 : Obj := oC "code" [(zS "reads" 818), (zS "Store.reads" 819), (zF 820), (zI (199) 0), (zI (1) 0), (zI (0) 0), (zI (0) 0), (zI (3) 0), (zR 482), (.bool true), (zI (181) 0), (zR 483), zN, (zR 484), (zR 485), (zR 486), (zI (822) 0), (zI (199) 0), (zF 823)]
def o488_0 : Obj := oH (fH (inClass (top 23) 4) "reads" "Store.reads" zN zN (zS "rowmill.rows" 328) (zR 487))
def o489_0 : Obj := oT []
def o490_0 : Obj := oF []
def o491_0 : Obj := oT [(zS "self" 828), (zS "words" 829), (zS "place" 830)]
def o492_0 : Obj := oT []
def o493_0 : Obj := oG (fG (inClass (top 23) 5) "reckoned" "Store.reckoned")
def o494_0 : Obj := oC "code" [(zS "reckoned" 825), (zS "Store.reckoned" 826), (zF 827), (zI (202) 0), (zI (3) 0), (zI (0) 0), (zI (0) 0), (zI (3) 0), (zR 489), (.bool true), (zI (181) 0), (zR 490), zN, (zR 491), (zR 492), (zR 493), (zI (831) 0), (zI (202) 0), (zF 832)]
def o495_0 : Obj := oH (fH (inClass (top 23) 5) "reckoned" "Store.reckoned" zN zN (zS "rowmill.rows" 328) (zR 494))
def o496_0 : Obj := oT [(zS "a" 834), (zS "b" 835), (zS "n" 836)]
def o497_0 (P : Params) : Obj := oD [zE P "__module__" 782 (zS "rowmill.rows" 328), zE P "__firstlineno__" 786 (zI (183) 785), zE P "__init__" 796 (zR 460), zE P "op" 803 (zR 467), zE P "parts" 810 (zR 474), zE P "told" 817 (zR 481), zE P "reads" 824 (zR 488), zE P "reckoned" 833 (zR 495), zE P "__static_attributes__" 837 (zR 496), zE P "__doc__" 838 zN] 2
def o498_0 : Obj := oK { name := Str.ofString "Store", bases := [(zR 172)], mro := [(zR 498), (zR 172), (.type "object")], ns := 497, qualname := Str.ofString "Store", hasDict := true, subclasses := [], abstract := false, hasDel := false } [some (zR 447), none, some (zS "Store" 775), some (zS "Store" 783), some (.builtin "object.__new__"), some (.bool true)]
def o499_0 : Obj := oC "super" [(zR 498), (zR 498), (zR 498)]
def o500_0 : Obj := oC "builtin_function_or_method" [(.builtin "object.__init_subclass__"), (zR 498)]
def o501_0 : Obj := oT [(zR 172)]
def o502_0 : Obj := oC "builtin_function_or_method" [(.builtin "type.__prepare__"), (.type "type")]
def o503_0 (P : Params) : Obj := oD [zE P "__module__" 850 (zS "rowmill.jumps" 841), zE P "__qualname__" 852 (zS "Jump" 851), zE P "__firstlineno__" 854 (zI (205) 853), zE P "__init__" 862 (zR 514), zE P "op" 869 (zR 521), zE P "parts" 876 (zR 528), zE P "told" 883 (zR 535), zE P "goal" 892 (zR 542), zE P "__static_attributes__" 894 (zR 543)] 9
def o504_0 : Obj := oT []
def o505_0 : Obj := oF [(zI (207) 0), (zI (4) 0), (zR 513), (zI (210) 0), (zI (4) 0), (zR 520), (zI (213) 0), (zI (4) 0), (zR 527), (zI (216) 0), (zI (4) 0), (zR 534), (zI (219) 0), (zI (4) 0), (zR 541)]
def o506_0 : Obj := oC "code" [(zS "Jump" 845), (zS "Jump" 846), (zF 847), (zI (205) 0), (zI (0) 0), (zI (0) 0), (zI (0) 0), (zI (0) 0), (zR 504), (.bool false), (zI (181) 0), (zR 505), zN, zN, zN, zN, (zI (848) 0), (zI (205) 0), (zF 849)]
def o507_0 : Obj := oP "frame" [some (zR 506), some (zR 3), some (zR 503), none, some (zS "rowmill.jumps" 841), none, some (zR 0)]
def o508_0 : Obj := oT []
def o509_0 : Obj := oF []
def o510_0 : Obj := oT [(zS "self" 858), (zS "n" 859)]
def o511_0 : Obj := oT []
def o512_0 : Obj := oG (fG (inClass (top 25) 0) "__init__" "Jump.__init__")
def o513_0 : Obj := oC "code" [(zS "__init__" 855), (zS "Jump.__init__" 856), (zF 857), (zI (207) 0), (zI (2) 0), (zI (0) 0), (zI (0) 0), (zI (3) 0), (zR 508), (.bool true), (zI (181) 0), (zR 509), zN, (zR 510), (zR 511), (zR 512), (zI (860) 0), (zI (207) 0), (zF 861)]
def o514_0 : Obj := oH (fH (inClass (top 25) 0) "__init__" "Jump.__init__" zN zN (zS "rowmill.jumps" 841) (zR 513))
def o515_0 : Obj := oT []
def o516_0 : Obj := oF []
def o517_0 : Obj := oT [(zS "self" 866)]
def o518_0 : Obj := oT []
def o519_0 : Obj := oG (fG (inClass (top 25) 1) "op" "Jump.op")
def o520_0 : Obj := oC "code" [(zS "op" 863), (zS "Jump.op" 864), (zF 865), (zI (210) 0), (zI (1) 0), (zI (0) 0), (zI (0) 0), (zI (3) 0), (zR 515), (.bool true), (zI (181) 0), (zR 516), zN, (zR 517), (zR 518), (zR 519), (zI (867) 0), (zI (210) 0), (zF 868)]
def o521_0 : Obj := oH (fH (inClass (top 25) 1) "op" "Jump.op" zN zN (zS "rowmill.jumps" 841) (zR 520))
def o522_0 : Obj := oT []
def o523_0 : Obj := oF []
def o524_0 : Obj := oT [(zS "self" 873)]
def o525_0 : Obj := oT []
def o526_0 : Obj := oG (fG (inClass (top 25) 2) "parts" "Jump.parts")
def o527_0 : Obj := oC "code" [(zS "parts" 870), (zS "Jump.parts" 871), (zF 872), (zI (213) 0), (zI (1) 0), (zI (0) 0), (zI (0) 0), (zI (3) 0), (zR 522), (.bool true), (zI (181) 0), (zR 523), zN, (zR 524), (zR 525), (zR 526), (zI (874) 0), (zI (213) 0), (zF 875)]
def o528_0 : Obj := oH (fH (inClass (top 25) 2) "parts" "Jump.parts" zN zN (zS "rowmill.jumps" 841) (zR 527))
def o529_0 : Obj := oT []
def o530_0 : Obj := oF []
def o531_0 : Obj := oT [(zS "self" 880)]
def o532_0 : Obj := oT []
def o533_0 : Obj := oG (fG (inClass (top 25) 3) "told" "Jump.told")
def o534_0 : Obj := oC "code" [(zS "told" 877), (zS "Jump.told" 878), (zF 879), (zI (216) 0), (zI (1) 0), (zI (0) 0), (zI (0) 0), (zI (3) 0), (zR 529), (.bool true), (zI (181) 0), (zR 530), zN, (zR 531), (zR 532), (zR 533), (zI (881) 0), (zI (216) 0), (zF 882)]
def o535_0 : Obj := oH (fH (inClass (top 25) 3) "told" "Jump.told" zN zN (zS "rowmill.jumps" 841) (zR 534))
def o536_0 : Obj := oT []
def o537_0 : Obj := oF []
def o538_0 : Obj := oT [(zS "self" 887), (zS "words" 888), (zS "place" 889)]
def o539_0 : Obj := oT []
def o540_0 : Obj := oG (fG (inClass (top 25) 4) "goal" "Jump.goal")
def o541_0 : Obj := oC "code" [(zS "goal" 884), (zS "Jump.goal" 885), (zF 886), (zI (219) 0), (zI (3) 0), (zI (0) 0), (zI (0) 0), (zI (3) 0), (zR 536), (.bool true), (zI (181) 0), (zR 537), zN, (zR 538), (zR 539), (zR 540), (zI (890) 0), (zI (219) 0), (zF 891)]
def o542_0 : Obj := oH (fH (inClass (top 25) 4) "goal" "Jump.goal" zN zN (zS "rowmill.jumps" 841) (zR 541))
def o543_0 : Obj := oT [(zS "n" 893)]
def o544_0 (P : Params) : Obj := oD [zE P "__module__" 850 (zS "rowmill.jumps" 841), zE P "__firstlineno__" 854 (zI (205) 853), zE P "__init__" 862 (zR 514), zE P "op" 869 (zR 521), zE P "parts" 876 (zR 528), zE P "told" 883 (zR 535), zE P "goal" 892 (zR 542), zE P "__static_attributes__" 894 (zR 543), zE P "__doc__" 895 zN] 2
def o545_0 : Obj := oK { name := Str.ofString "Jump", bases := [(zR 172)], mro := [(zR 545), (zR 172), (.type "object")], ns := 544, qualname := Str.ofString "Jump", hasDict := true, subclasses := [], abstract := false, hasDel := false } [some (zR 501), none, some (zS "Jump" 843), some (zS "Jump" 851), some (.builtin "object.__new__"), some (.bool true)]
def o546_0 : Obj := oC "super" [(zR 545), (zR 545), (zR 545)]
def o547_0 : Obj := oC "builtin_function_or_method" [(.builtin "object.__init_subclass__"), (zR 545)]
def o548_0 : Obj := oT [(zR 172)]
def o549_0 : Obj := oC "builtin_function_or_method" [(.builtin "type.__prepare__"), (.type "type")]
def o550_0 (P : Params) : Obj := oD [zE P "__module__" 905 (zS "rowmill.jumps" 841), zE P "__qualname__" 907 (zS "Zero" 906), zE P "__firstlineno__" 909 (zI (221) 908), zE P "__init__" 918 (zR 561), zE P "op" 925 (zR 568), zE P "parts" 932 (zR 575), zE P "told" 939 (zR 582), zE P "reads" 946 (zR 589), zE P "goal" 955 (zR 596), zE P "__static_attributes__" 958 (zR 597)] 10
def o551_0 : Obj := oT []
def o552_0 : Obj := oF [(zI (223) 0), (zI (4) 0), (zR 560), (zI (227) 0), (zI (4) 0), (zR 567), (zI (230) 0), (zI (4) 0), (zR 574), (zI (233) 0), (zI (4) 0), (zR 581), (zI (236) 0), (zI (4) 0), (zR 588), (zI (239) 0), (zI (4) 0), (zR 595)]
def o553_0 : Obj := oC "code" [(zS "Zero" 900), (zS "Zero" 901), (zF 902), (zI (221) 0), (zI (0) 0), (zI (0) 0), (zI (0) 0), (zI (0) 0), (zR 551), (.bool false), (zI (181) 0), (zR 552), zN, zN, zN, zN, (zI (903) 0), (zI (221) 0), (zF 904)]
def o554_0 : Obj := oP "frame" [some (zR 553), some (zR 3), some (zR 550), none, some (zS "rowmill.jumps" 841), none, some (zR 0)]
def o555_0 : Obj := oT []
def o556_0 : Obj := oF []
def o557_0 : Obj := oT [(zS "self" 913), (zS "a" 914), (zS "n" 915)]
def o558_0 : Obj := oT []
def o559_0 : Obj := oG (fG (inClass (top 26) 0) "__init__" "Zero.__init__")
def o560_0 : Obj := oC "code" [(zS "__init__" 910), (zS "Zero.__init__" 911), (zF 912), (zI (223) 0), (zI (3) 0), (zI (0) 0), (zI (0) 0), (zI (3) 0), (zR 555), (.bool true), (zI (181) 0), (zR 556), zN, (zR 557), (zR 558), (zR 559), (zI (916) 0), (zI (223) 0), (zF 917)]
def o561_0 : Obj := oH (fH (inClass (top 26) 0) "__init__" "Zero.__init__" zN zN (zS "rowmill.jumps" 841) (zR 560))
def o562_0 : Obj := oT []
def o563_0 : Obj := oF []
def o564_0 : Obj := oT [(zS "self" 922)]
def o565_0 : Obj := oT []
def o566_0 : Obj := oG (fG (inClass (top 26) 1) "op" "Zero.op")
def o567_0 : Obj := oC "code" [(zS "op" 919), (zS "Zero.op" 920), (zF 921), (zI (227) 0), (zI (1) 0), (zI (0) 0), (zI (0) 0), (zI (3) 0), (zR 562), (.bool true), (zI (181) 0), (zR 563), zN, (zR 564), (zR 565), (zR 566), (zI (923) 0), (zI (227) 0), (zF 924)]
def o568_0 : Obj := oH (fH (inClass (top 26) 1) "op" "Zero.op" zN zN (zS "rowmill.jumps" 841) (zR 567))
def o569_0 : Obj := oT []
def o570_0 : Obj := oF []
def o571_0 : Obj := oT [(zS "self" 929)]
def o572_0 : Obj := oT []
def o573_0 : Obj := oG (fG (inClass (top 26) 2) "parts" "Zero.parts")
def o574_0 : Obj := oC "code" [(zS "parts" 926), (zS "Zero.parts" 927), (zF 928), (zI (230) 0), (zI (1) 0), (zI (0) 0), (zI (0) 0), (zI (3) 0), (zR 569), (.bool true), (zI (181) 0), (zR 570), zN, (zR 571), (zR 572), (zR 573), (zI (930) 0), (zI (230) 0), (zF 931)]
def o575_0 : Obj := oH (fH (inClass (top 26) 2) "parts" "Zero.parts" zN zN (zS "rowmill.jumps" 841) (zR 574))
def o576_0 : Obj := oT []
def o577_0 : Obj := oF []
def o578_0 : Obj := oT [(zS "self" 936)]
def o579_0 : Obj := oT []
def o580_0 : Obj := oG (fG (inClass (top 26) 3) "told" "Zero.told")
def o581_0 : Obj := oC "code" [(zS "told" 933), (zS "Zero.told" 934), (zF 935), (zI (233) 0), (zI (1) 0), (zI (0) 0), (zI (0) 0), (zI (3) 0), (zR 576), (.bool true), (zI (181) 0), (zR 577), zN, (zR 578), (zR 579), (zR 580), (zI (937) 0), (zI (233) 0), (zF 938)]
def o582_0 : Obj := oH (fH (inClass (top 26) 3) "told" "Zero.told" zN zN (zS "rowmill.jumps" 841) (zR 581))
def o583_0 : Obj := oT []
def o584_0 : Obj := oF []
def o585_0 : Obj := oT [(zS "self" 943)]
def o586_0 : Obj := oT []
def o587_0 : Obj := oG (fG (inClass (top 26) 4) "reads" "Zero.reads")
def o588_0 : Obj := oC "code" [(zS "reads" 940), (zS "Zero.reads" 941), (zF 942), (zI (236) 0), (zI (1) 0), (zI (0) 0), (zI (0) 0), (zI (3) 0), (zR 583), (.bool true), (zI (181) 0), (zR 584), zN, (zR 585), (zR 586), (zR 587), (zI (944) 0), (zI (236) 0), (zF 945)]
def o589_0 : Obj := oH (fH (inClass (top 26) 4) "reads" "Zero.reads" zN zN (zS "rowmill.jumps" 841) (zR 588))
def o590_0 : Obj := oT []
def o591_0 : Obj := oF []
def o592_0 : Obj := oT [(zS "self" 950), (zS "words" 951), (zS "place" 952)]
def o593_0 : Obj := oT []
def o594_0 : Obj := oG (fG (inClass (top 26) 5) "goal" "Zero.goal")
def o595_0 : Obj := oC "code" [(zS "goal" 947), (zS "Zero.goal" 948), (zF 949), (zI (239) 0), (zI (3) 0), (zI (0) 0), (zI (0) 0), (zI (3) 0), (zR 590), (.bool true), (zI (181) 0), (zR 591), zN, (zR 592), (zR 593), (zR 594), (zI (953) 0), (zI (239) 0), (zF 954)]
def o596_0 : Obj := oH (fH (inClass (top 26) 5) "goal" "Zero.goal" zN zN (zS "rowmill.jumps" 841) (zR 595))
def o597_0 : Obj := oT [(zS "a" 956), (zS "n" 957)]
def o598_0 (P : Params) : Obj := oD [zE P "__module__" 905 (zS "rowmill.jumps" 841), zE P "__firstlineno__" 909 (zI (221) 908), zE P "__init__" 918 (zR 561), zE P "op" 925 (zR 568), zE P "parts" 932 (zR 575), zE P "told" 939 (zR 582), zE P "reads" 946 (zR 589), zE P "goal" 955 (zR 596), zE P "__static_attributes__" 958 (zR 597), zE P "__doc__" 959 zN] 2
def o599_0 : Obj := oK { name := Str.ofString "Zero", bases := [(zR 172)], mro := [(zR 599), (zR 172), (.type "object")], ns := 598, qualname := Str.ofString "Zero", hasDict := true, subclasses := [], abstract := false, hasDel := false } [some (zR 548), none, some (zS "Zero" 898), some (zS "Zero" 906), some (.builtin "object.__new__"), some (.bool true)]
def o600_0 : Obj := oC "super" [(zR 599), (zR 599), (zR 599)]
def o601_0 : Obj := oC "builtin_function_or_method" [(.builtin "object.__init_subclass__"), (zR 599)]
noncomputable def tr_0 (P : Params) : PySem.W.BT := (.node (boot_o_0 P) (.node (boot_o_1 P) (.node (o3_0 P) (.node (boot_o_7 P) (.node o15_0 (.node o31_0 (.node o63_0 (.node o127_0 (.node o255_0 (.node o511_0 .nil .nil) .nil) (.node o383_0 .nil .nil)) (.node o191_0 (.node o319_0 (.node o575_0 .nil .nil) .nil) (.node o447_0 .nil .nil))) (.node o95_0 (.node o159_0 (.node o287_0 (.node o543_0 .nil .nil) .nil) (.node o415_0 .nil .nil)) (.node o223_0 (.node o351_0 .nil .nil) (.node o479_0 .nil .nil)))) (.node o47_0 (.node o79_0 (.node o143_0 (.node o271_0 (.node o527_0 .nil .nil) .nil) (.node o399_0 .nil .nil)) (.node o207_0 (.node o335_0 (.node o591_0 .nil .nil) .nil) (.node o463_0 .nil .nil))) (.node o111_0 (.node o175_0 (.node o303_0 (.node o559_0 .nil .nil) .nil) (.node o431_0 .nil .nil)) (.node o239_0 (.node o367_0 .nil .nil) (.node o495_0 .nil .nil))))) (.node (o23_0 P) (.node o39_0 (.node o71_0 (.node o135_0 (.node o263_0 (.node o519_0 .nil .nil) .nil) (.node o391_0 .nil .nil)) (.node o199_0 (.node o327_0 (.node o583_0 .nil .nil) .nil) (.node o455_0 .nil .nil))) (.node o103_0 (.node o167_0 (.node o295_0 (.node o551_0 .nil .nil) .nil) (.node o423_0 .nil .nil)) (.node o231_0 (.node o359_0 .nil .nil) (.node o487_0 .nil .nil)))) (.node o55_0 (.node o87_0 (.node o151_0 (.node o279_0 (.node o535_0 .nil .nil) .nil) (.node o407_0 .nil .nil)) (.node o215_0 (.node o343_0 (.node o599_0 .nil .nil) .nil) (.node o471_0 .nil .nil))) (.node o119_0 (.node o183_0 (.node o311_0 (.node o567_0 .nil .nil) .nil) (.node o439_0 .nil .nil)) (.node o247_0 (.node (o375_0 P) .nil .nil) (.node (o503_0 P) .nil .nil)))))) (.node o11_a (.node o19_0 (.node o35_0 (.node o67_0 (.node o131_0 (.node o259_0 (.node o515_0 .nil .nil) .nil) (.node o387_0 .nil .nil)) (.node o195_0 (.node o323_0 (.node o579_0 .nil .nil) .nil) (.node o451_0 .nil .nil))) (.node o99_0 (.node o163_0 (.node o291_0 (.node o547_0 .nil .nil) .nil) (.node o419_0 .nil .nil)) (.node o227_0 (.node o355_0 .nil .nil) (.node o483_0 .nil .nil)))) (.node o51_0 (.node o83_0 (.node o147_0 (.node o275_0 (.node o531_0 .nil .nil) .nil) (.node o403_0 .nil .nil)) (.node o211_0 (.node o339_0 (.node o595_0 .nil .nil) .nil) (.node o467_0 .nil .nil))) (.node o115_0 (.node (o179_0 P) (.node (o307_0 P) (.node o563_0 .nil .nil) .nil) (.node o435_0 .nil .nil)) (.node o243_0 (.node o371_0 .nil .nil) (.node o499_0 .nil .nil))))) (.node o27_0 (.node o43_0 (.node o75_0 (.node o139_0 (.node o267_0 (.node o523_0 .nil .nil) .nil) (.node o395_0 .nil .nil)) (.node o203_0 (.node o331_0 (.node o587_0 .nil .nil) .nil) (.node o459_0 .nil .nil))) (.node o107_0 (.node (o171_0 P) (.node o299_0 (.node o555_0 .nil .nil) .nil) (.node o427_0 .nil .nil)) (.node o235_0 (.node o363_0 .nil .nil) (.node o491_0 .nil .nil)))) (.node o59_0 (.node o91_0 (.node o155_0 (.node o283_0 (.node o539_0 .nil .nil) .nil) (.node o411_0 .nil .nil)) (.node o219_0 (.node o347_0 .nil .nil) (.node o475_0 .nil .nil))) (.node o123_0 (.node o187_0 (.node o315_0 (.node o571_0 .nil .nil) .nil) (.node (o443_0 P) .nil .nil)) (.node o251_0 (.node o379_0 .nil .nil) (.node o507_0 .nil .nil))))))) (.node (boot_o_5 P) (.node (boot_o_9 P) (.node o17_0 (.node o33_0 (.node o65_0 (.node o129_0 (.node o257_0 (.node o513_0 .nil .nil) .nil) (.node o385_0 .nil .nil)) (.node o193_0 (.node o321_0 (.node o577_0 .nil .nil) .nil) (.node (o449_0 P) .nil .nil))) (.node o97_0 (.node o161_0 (.node o289_0 (.node o545_0 .nil .nil) .nil) (.node o417_0 .nil .nil)) (.node o225_0 (.node o353_0 .nil .nil) (.node o481_0 .nil .nil)))) (.node o49_0 (.node (o81_0 P) (.node o145_0 (.node o273_0 (.node o529_0 .nil .nil) .nil) (.node o401_0 .nil .nil)) (.node o209_0 (.node o337_0 (.node o593_0 .nil .nil) .nil) (.node o465_0 .nil .nil))) (.node o113_0 (.node o177_0 (.node o305_0 (.node o561_0 .nil .nil) .nil) (.node o433_0 .nil .nil)) (.node o241_0 (.node o369_0 .nil .nil) (.node (o497_0 P) .nil .nil))))) (.node o25_0 (.node o41_0 (.node o73_0 (.node o137_0 (.node o265_0 (.node o521_0 .nil .nil) .nil) (.node o393_0 .nil .nil)) (.node o201_0 (.node o329_0 (.node o585_0 .nil .nil) .nil) (.node o457_0 .nil .nil))) (.node o105_0 (.node o169_0 (.node o297_0 (.node o553_0 .nil .nil) .nil) (.node o425_0 .nil .nil)) (.node o233_0 (.node o361_0 .nil .nil) (.node o489_0 .nil .nil)))) (.node o57_0 (.node o89_0 (.node o153_0 (.node o281_0 (.node o537_0 .nil .nil) .nil) (.node o409_0 .nil .nil)) (.node o217_0 (.node o345_0 (.node o601_0 .nil .nil) .nil) (.node o473_0 .nil .nil))) (.node o121_0 (.node o185_0 (.node (o313_0 P) (.node o569_0 .nil .nil) .nil) (.node o441_0 .nil .nil)) (.node o249_0 (.node o377_0 .nil .nil) (.node o505_0 .nil .nil)))))) (.node o13_a (.node o21_0 (.node o37_0 (.node o69_0 (.node o133_0 (.node o261_0 (.node o517_0 .nil .nil) .nil) (.node o389_0 .nil .nil)) (.node o197_0 (.node o325_0 (.node o581_0 .nil .nil) .nil) (.node o453_0 .nil .nil))) (.node o101_0 (.node o165_0 (.node o293_0 (.node o549_0 .nil .nil) .nil) (.node o421_0 .nil .nil)) (.node o229_0 (.node o357_0 .nil .nil) (.node o485_0 .nil .nil)))) (.node o53_0 (.node o85_0 (.node o149_0 (.node o277_0 (.node o533_0 .nil .nil) .nil) (.node o405_0 .nil .nil)) (.node o213_0 (.node o341_0 (.node o597_0 .nil .nil) .nil) (.node o469_0 .nil .nil))) (.node o117_0 (.node o181_0 (.node o309_0 (.node o565_0 .nil .nil) .nil) (.node o437_0 .nil .nil)) (.node o245_0 (.node o373_0 .nil .nil) (.node o501_0 .nil .nil))))) (.node o29_0 (.node o45_0 (.node o77_0 (.node o141_0 (.node o269_0 (.node o525_0 .nil .nil) .nil) (.node o397_0 .nil .nil)) (.node o205_0 (.node o333_0 (.node o589_0 .nil .nil) .nil) (.node o461_0 .nil .nil))) (.node o109_0 (.node o173_0 (.node o301_0 (.node o557_0 .nil .nil) .nil) (.node o429_0 .nil .nil)) (.node o237_0 (.node o365_0 .nil .nil) (.node o493_0 .nil .nil)))) (.node o61_0 (.node o93_0 (.node o157_0 (.node o285_0 (.node o541_0 .nil .nil) .nil) (.node o413_0 .nil .nil)) (.node o221_0 (.node o349_0 .nil .nil) (.node o477_0 .nil .nil))) (.node o125_0 (.node o189_0 (.node o317_0 (.node o573_0 .nil .nil) .nil) (.node o445_0 .nil .nil)) (.node o253_0 (.node (o381_0 P) .nil .nil) (.node o509_0 .nil .nil)))))))) (.node (boot_o_2 P) (.node (boot_o_4 P) (.node (boot_o_8 P) (.node o16_0 (.node o32_0 (.node o64_0 (.node o128_0 (.node o256_0 (.node o512_0 .nil .nil) .nil) (.node o384_0 .nil .nil)) (.node (o192_0 P) (.node o320_0 (.node o576_0 .nil .nil) .nil) (.node o448_0 .nil .nil))) (.node o96_0 (.node o160_0 (.node o288_0 (.node (o544_0 P) .nil .nil) .nil) (.node o416_0 .nil .nil)) (.node o224_0 (.node o352_0 .nil .nil) (.node o480_0 .nil .nil)))) (.node o48_0 (.node o80_0 (.node o144_0 (.node o272_0 (.node o528_0 .nil .nil) .nil) (.node o400_0 .nil .nil)) (.node o208_0 (.node o336_0 (.node o592_0 .nil .nil) .nil) (.node o464_0 .nil .nil))) (.node o112_0 (.node o176_0 (.node o304_0 (.node o560_0 .nil .nil) .nil) (.node o432_0 .nil .nil)) (.node o240_0 (.node o368_0 .nil .nil) (.node o496_0 .nil .nil))))) (.node o24_0 (.node o40_0 (.node o72_0 (.node o136_0 (.node o264_0 (.node o520_0 .nil .nil) .nil) (.node o392_0 .nil .nil)) (.node o200_0 (.node o328_0 (.node o584_0 .nil .nil) .nil) (.node o456_0 .nil .nil))) (.node o104_0 (.node o168_0 (.node o296_0 (.node o552_0 .nil .nil) .nil) (.node o424_0 .nil .nil)) (.node o232_0 (.node o360_0 .nil .nil) (.node o488_0 .nil .nil)))) (.node o56_0 (.node o88_0 (.node o152_0 (.node o280_0 (.node o536_0 .nil .nil) .nil) (.node o408_0 .nil .nil)) (.node o216_0 (.node o344_0 (.node o600_0 .nil .nil) .nil) (.node o472_0 .nil .nil))) (.node o120_0 (.node o184_0 (.node o312_0 (.node o568_0 .nil .nil) .nil) (.node o440_0 .nil .nil)) (.node o248_0 (.node o376_0 .nil .nil) (.node o504_0 .nil .nil)))))) (.node o12_0 (.node o20_0 (.node o36_0 (.node o68_0 (.node o132_0 (.node o260_0 (.node o516_0 .nil .nil) .nil) (.node o388_0 .nil .nil)) (.node o196_0 (.node o324_0 (.node o580_0 .nil .nil) .nil) (.node o452_0 .nil .nil))) (.node o100_0 (.node o164_0 (.node o292_0 (.node o548_0 .nil .nil) .nil) (.node o420_0 .nil .nil)) (.node o228_0 (.node o356_0 .nil .nil) (.node o484_0 .nil .nil)))) (.node o52_0 (.node o84_0 (.node o148_0 (.node o276_0 (.node o532_0 .nil .nil) .nil) (.node o404_0 .nil .nil)) (.node o212_0 (.node o340_0 (.node o596_0 .nil .nil) .nil) (.node o468_0 .nil .nil))) (.node o116_0 (.node o180_0 (.node o308_0 (.node o564_0 .nil .nil) .nil) (.node o436_0 .nil .nil)) (.node o244_0 (.node o372_0 .nil .nil) (.node o500_0 .nil .nil))))) (.node o28_0 (.node o44_0 (.node o76_0 (.node o140_0 (.node o268_0 (.node o524_0 .nil .nil) .nil) (.node o396_0 .nil .nil)) (.node o204_0 (.node o332_0 (.node o588_0 .nil .nil) .nil) (.node o460_0 .nil .nil))) (.node o108_0 (.node o172_0 (.node o300_0 (.node o556_0 .nil .nil) .nil) (.node o428_0 .nil .nil)) (.node o236_0 (.node o364_0 .nil .nil) (.node o492_0 .nil .nil)))) (.node o60_0 (.node o92_0 (.node o156_0 (.node o284_0 (.node o540_0 .nil .nil) .nil) (.node o412_0 .nil .nil)) (.node o220_0 (.node o348_0 .nil .nil) (.node o476_0 .nil .nil))) (.node o124_0 (.node o188_0 (.node o316_0 (.node o572_0 .nil .nil) .nil) (.node o444_0 .nil .nil)) (.node (o252_0 P) (.node o380_0 .nil .nil) (.node o508_0 .nil .nil))))))) (.node (boot_o_6 P) (.node (boot_o_10 P) (.node o18_0 (.node o34_0 (.node o66_0 (.node o130_0 (.node o258_0 (.node o514_0 .nil .nil) .nil) (.node o386_0 .nil .nil)) (.node o194_0 (.node o322_0 (.node o578_0 .nil .nil) .nil) (.node o450_0 .nil .nil))) (.node o98_0 (.node o162_0 (.node o290_0 (.node o546_0 .nil .nil) .nil) (.node o418_0 .nil .nil)) (.node o226_0 (.node o354_0 .nil .nil) (.node o482_0 .nil .nil)))) (.node o50_0 (.node o82_0 (.node o146_0 (.node o274_0 (.node o530_0 .nil .nil) .nil) (.node o402_0 .nil .nil)) (.node o210_0 (.node o338_0 (.node o594_0 .nil .nil) .nil) (.node o466_0 .nil .nil))) (.node o114_0 (.node o178_0 (.node o306_0 (.node o562_0 .nil .nil) .nil) (.node o434_0 .nil .nil)) (.node o242_0 (.node o370_0 .nil .nil) (.node o498_0 .nil .nil))))) (.node o26_0 (.node o42_0 (.node o74_0 (.node o138_0 (.node o266_0 (.node o522_0 .nil .nil) .nil) (.node o394_0 .nil .nil)) (.node o202_0 (.node o330_0 (.node o586_0 .nil .nil) .nil) (.node o458_0 .nil .nil))) (.node o106_0 (.node o170_0 (.node o298_0 (.node o554_0 .nil .nil) .nil) (.node o426_0 .nil .nil)) (.node o234_0 (.node o362_0 .nil .nil) (.node o490_0 .nil .nil)))) (.node o58_0 (.node o90_0 (.node o154_0 (.node o282_0 (.node o538_0 .nil .nil) .nil) (.node o410_0 .nil .nil)) (.node o218_0 (.node o346_0 .nil .nil) (.node o474_0 .nil .nil))) (.node o122_0 (.node o186_0 (.node o314_0 (.node o570_0 .nil .nil) .nil) (.node o442_0 .nil .nil)) (.node o250_0 (.node o378_0 .nil .nil) (.node o506_0 .nil .nil)))))) (.node o14_a (.node o22_0 (.node o38_0 (.node o70_0 (.node o134_0 (.node o262_0 (.node o518_0 .nil .nil) .nil) (.node o390_0 .nil .nil)) (.node (o198_0 P) (.node o326_0 (.node o582_0 .nil .nil) .nil) (.node o454_0 .nil .nil))) (.node o102_0 (.node o166_0 (.node o294_0 (.node (o550_0 P) .nil .nil) .nil) (.node o422_0 .nil .nil)) (.node o230_0 (.node o358_0 .nil .nil) (.node o486_0 .nil .nil)))) (.node o54_0 (.node o86_0 (.node o150_0 (.node o278_0 (.node o534_0 .nil .nil) .nil) (.node o406_0 .nil .nil)) (.node o214_0 (.node o342_0 (.node (o598_0 P) .nil .nil) .nil) (.node o470_0 .nil .nil))) (.node o118_0 (.node o182_0 (.node o310_0 (.node o566_0 .nil .nil) .nil) (.node o438_0 .nil .nil)) (.node (o246_0 P) (.node o374_0 .nil .nil) (.node o502_0 .nil .nil))))) (.node o30_0 (.node o46_0 (.node o78_0 (.node o142_0 (.node o270_0 (.node o526_0 .nil .nil) .nil) (.node o398_0 .nil .nil)) (.node o206_0 (.node o334_0 (.node o590_0 .nil .nil) .nil) (.node o462_0 .nil .nil))) (.node o110_0 (.node o174_0 (.node o302_0 (.node o558_0 .nil .nil) .nil) (.node o430_0 .nil .nil)) (.node o238_0 (.node o366_0 .nil .nil) (.node o494_0 .nil .nil)))) (.node o62_0 (.node o94_0 (.node o158_0 (.node o286_0 (.node o542_0 .nil .nil) .nil) (.node o414_0 .nil .nil)) (.node o222_0 (.node o350_0 .nil .nil) (.node o478_0 .nil .nil))) (.node o126_0 (.node o190_0 (.node o318_0 (.node o574_0 .nil .nil) .nil) (.node o446_0 .nil .nil)) (.node o254_0 (.node o382_0 .nil .nil) (.node o510_0 .nil .nil)))))))))
def o3_1 (P : Params) : Obj := oD [zE P "__name__" 165 (zS "law_rowmill_k22_programs_written" 1552), zE P "__doc__" 166 zN, zE P "__package__" 167 zN, zE P "__loader__" 168 (.builtin "__main__.__loader__#opaque"), zE P "__spec__" 169 zN, zE P "__annotations__" 170 (zR 6), zE P "__builtins__" 171 (zR 4), zE P "__file__" 173 (zF 172), zE P "__cached__" 174 zN, zE P "_wall" 193 (zR 21), zE P "PAIRS" 208 (zR 22), zE P "BOX" 210 (zS "b" 209), zE P "SHAPES" 256 (zR 23), zE P "shape_of" 263 (zR 30), zE P "part_text" 271 (zR 37), zE P "row_text" 282 (zR 44), zE P "line_at" 291 (zR 51), zE P "written" 297 (zR 56), zE P "bits_of" 308 (zR 63), zE P "with_bits" 319 (zR 70), zE P "signed" 327 (zR 77), zE P "WORDS" 342 (zR 78), zE P "FIRST_PAIR" 344 (zI (3) 343), zE P "Row" 452 (zR 172), zE P "Stop" 475 (zR 193), zE P "Num" 539 (zR 247), zE P "Plus" 612 (zR 308), zE P "Pair" 694 (zR 376), zE P "Load" 774 (zR 444), zE P "Store" 840 (zR 498), zE P "Jump" 897 (zR 545), zE P "Zero" 961 (zR 599), zE P "Link" 1034 (zR 660), zE P "Go" 1096 (zR 714), zE P "OfBox" 1151 (zR 761), zE P "Ask" 1188 (zR 794), zE P "Tell" 1225 (zR 827), zE P "Why" 1269 (zR 867), zE P "Where" 1313 (zR 907), zE P "Aim" 1357 (zR 947), zE P "Home" 1394 (zR 980), zE P "LAST_PAIR" 1398 (zI (14) 1397), zE P "code_of" 1409 (zR 989), zE P "reckoning_row" 1420 (zR 996), zE P "jumping_row" 1429 (zR 1003), zE P "other_row" 1437 (zR 1010), zE P "row_by" 1447 (zR 1017), zE P "row_of" 1455 (zR 1024), zE P "MillError" 1475 (zR 1034), zE P "NoProgram" 1491 (zR 1047), zE P "MOST_ROWS" 1495 (zI (64) 1494), zE P "MOST_CODE" 1497 (zI (16777215) 1496), zE P "MOST_PLACE" 1499 (zI (1023) 1498), zE P "is_whole" 1507 (zR 1056), zE P "Program" 1551 (zR 1086), zE P "_law_cell" 1563 (zR 1097), zE P "_law_words" 1570 (zR 1104), zE P "_law_shape" 1578 (zR 1111), zE P "_law_part_by" 1586 (zR 1118), zE P "_law_told_by" 1592 (zR 1123), zE P "_law_code" 1602 (zR 1130), zE P "_law_line" 1612 (zR 1137), zE P "_law_codes" 1625 (zR 1144), zE P "_law_hall" 1632 (zR 1151), zE P "law" 1638 (zR 1156)] 65
def o12_1 : Obj := oF [(zI (1) 0), (zI (0) 0), (zR 20), (zI (8) 0), (zI (0) 0), (zR 29), (zI (12) 0), (zI (0) 0), (zR 36), (zI (16) 0), (zI (0) 0), (zR 43), (zI (22) 0), (zI (0) 0), (zR 50), (zI (27) 0), (zI (0) 0), (zR 55), (zI (33) 0), (zI (0) 0), (zR 62), (zI (35) 0), (zI (0) 0), (zR 69), (zI (38) 0), (zI (0) 0), (zR 76), (zI (43) 0), (zI (0) 0), (zR 84), (zI (80) 0), (zI (0) 0), (zR 182), (zI (84) 0), (zI (0) 0), (zR 201), (zI (104) 0), (zI (0) 0), (zR 255), (zI (128) 0), (zI (0) 0), (zR 316), (zI (156) 0), (zI (0) 0), (zR 384), (zI (183) 0), (zI (0) 0), (zR 452), (zI (205) 0), (zI (0) 0), (zR 506), (zI (221) 0), (zI (0) 0), (zR 553), (zI (241) 0), (zI (0) 0), (zR 607), (zI (264) 0), (zI (0) 0), (zR 668), (zI (284) 0), (zI (0) 0), (zR 722), (zI (300) 0), (zI (0) 0), (zR 769), (zI (310) 0), (zI (0) 0), (zR 802), (zI (320) 0), (zI (0) 0), (zR 835), (zI (333) 0), (zI (0) 0), (zR 875), (zI (346) 0), (zI (0) 0), (zR 915), (zI (359) 0), (zI (0) 0), (zR 955), (zI (371) 0), (zI (0) 0), (zR 988), (zI (376) 0), (zI (0) 0), (zR 995), (zI (388) 0), (zI (0) 0), (zR 1002), (zI (394) 0), (zI (0) 0), (zR 1009), (zI (406) 0), (zI (0) 0), (zR 1016), (zI (415) 0), (zI (0) 0), (zR 1023), (zI (421) 0), (zI (0) 0), (zR 1030), (zI (423) 0), (zI (0) 0), (zR 1043), (zI (429) 0), (zI (0) 0), (zR 1055), (zI (431) 0), (zI (0) 0), (zR 1062), (zI (451) 0), (zI (0) 0), (zR 1096), (zI (459) 0), (zI (0) 0), (zR 1103), (zI (463) 0), (zI (0) 0), (zR 1110), (zI (472) 0), (zI (0) 0), (zR 1117), (zI (478) 0), (zI (0) 0), (zR 1122), (zI (483) 0), (zI (0) 0), (zR 1129), (zI (492) 0), (zI (0) 0), (zR 1136), (zI (498) 0), (zI (0) 0), (zR 1143), (zI (510) 0), (zI (0) 0), (zR 1150), (zI (512) 0), (zI (0) 0), (zR 1155)]
def o172_1 : Obj := oK { name := Str.ofString "Row", bases := [(.type "object")], mro := [(zR 172), (.type "object")], ns := 171, qualname := Str.ofString "Row", hasDict := true, subclasses := [(zR 193), (zR 247), (zR 308), (zR 376), (zR 444), (zR 498), (zR 545), (zR 599), (zR 660), (zR 714), (zR 761), (zR 980)], abstract := false, hasDel := false } [none, none, some (zS "Row" 345), some (zS "Row" 353), some (.builtin "object.__new__"), some (.bool true)]
def o602_1 : Obj := oT [(zR 172)]
def o603_1 : Obj := oC "builtin_function_or_method" [(.builtin "type.__prepare__"), (.type "type")]
def o604_1 (P : Params) : Obj := oD [zE P "__module__" 969 (zS "rowmill.jumps" 841), zE P "__qualname__" 971 (zS "Link" 970), zE P "__firstlineno__" 973 (zI (241) 972), zE P "__init__" 982 (zR 615), zE P "op" 989 (zR 622), zE P "parts" 996 (zR 629), zE P "told" 1003 (zR 636), zE P "named" 1010 (zR 643), zE P "reckoned" 1019 (zR 650), zE P "goal" 1028 (zR 657), zE P "__static_attributes__" 1031 (zR 658)] 11
def o605_1 : Obj := oT []
def o606_1 : Obj := oF [(zI (243) 0), (zI (4) 0), (zR 614), (zI (247) 0), (zI (4) 0), (zR 621), (zI (250) 0), (zI (4) 0), (zR 628), (zI (253) 0), (zI (4) 0), (zR 635), (zI (256) 0), (zI (4) 0), (zR 642), (zI (259) 0), (zI (4) 0), (zR 649), (zI (262) 0), (zI (4) 0), (zR 656)]
def o607_1 : Obj := oC "code" [(zS "Link" 964), (zS "Link" 965), (zF 966), (zI (241) 0), (zI (0) 0), (zI (0) 0), (zI (0) 0), (zI (0) 0), (zR 605), (.bool false), (zI (181) 0), (zR 606), zN, zN, zN, zN, (zI (967) 0), (zI (241) 0), (zF 968)]
def o608_1 : Obj := oP "frame" [some (zR 607), some (zR 3), some (zR 604), none, some (zS "rowmill.jumps" 841), none, some (zR 0)]
def o609_1 : Obj := oT []
def o610_1 : Obj := oF []
def o611_1 : Obj := oT [(zS "self" 977), (zS "a" 978), (zS "n" 979)]
def o612_1 : Obj := oT []
def o613_1 : Obj := oG (fG (inClass (top 27) 0) "__init__" "Link.__init__")
def o614_1 : Obj := oC "code" [(zS "__init__" 974), (zS "Link.__init__" 975), (zF 976), (zI (243) 0), (zI (3) 0), (zI (0) 0), (zI (0) 0), (zI (3) 0), (zR 609), (.bool true), (zI (181) 0), (zR 610), zN, (zR 611), (zR 612), (zR 613), (zI (980) 0), (zI (243) 0), (zF 981)]
def o615_1 : Obj := oH (fH (inClass (top 27) 0) "__init__" "Link.__init__" zN zN (zS "rowmill.jumps" 841) (zR 614))
def o616_1 : Obj := oT []
def o617_1 : Obj := oF []
def o618_1 : Obj := oT [(zS "self" 986)]
def o619_1 : Obj := oT []
def o620_1 : Obj := oG (fG (inClass (top 27) 1) "op" "Link.op")
def o621_1 : Obj := oC "code" [(zS "op" 983), (zS "Link.op" 984), (zF 985), (zI (247) 0), (zI (1) 0), (zI (0) 0), (zI (0) 0), (zI (3) 0), (zR 616), (.bool true), (zI (181) 0), (zR 617), zN, (zR 618), (zR 619), (zR 620), (zI (987) 0), (zI (247) 0), (zF 988)]
def o622_1 : Obj := oH (fH (inClass (top 27) 1) "op" "Link.op" zN zN (zS "rowmill.jumps" 841) (zR 621))
def o623_1 : Obj := oT []
def o624_1 : Obj := oF []
def o625_1 : Obj := oT [(zS "self" 993)]
def o626_1 : Obj := oT []
def o627_1 : Obj := oG (fG (inClass (top 27) 2) "parts" "Link.parts")
def o628_1 : Obj := oC "code" [(zS "parts" 990), (zS "Link.parts" 991), (zF 992), (zI (250) 0), (zI (1) 0), (zI (0) 0), (zI (0) 0), (zI (3) 0), (zR 623), (.bool true), (zI (181) 0), (zR 624), zN, (zR 625), (zR 626), (zR 627), (zI (994) 0), (zI (250) 0), (zF 995)]
def o629_1 : Obj := oH (fH (inClass (top 27) 2) "parts" "Link.parts" zN zN (zS "rowmill.jumps" 841) (zR 628))
def o630_1 : Obj := oT []
def o631_1 : Obj := oF []
def o632_1 : Obj := oT [(zS "self" 1000)]
def o633_1 : Obj := oT []
def o634_1 : Obj := oG (fG (inClass (top 27) 3) "told" "Link.told")
def o635_1 : Obj := oC "code" [(zS "told" 997), (zS "Link.told" 998), (zF 999), (zI (253) 0), (zI (1) 0), (zI (0) 0), (zI (0) 0), (zI (3) 0), (zR 630), (.bool true), (zI (181) 0), (zR 631), zN, (zR 632), (zR 633), (zR 634), (zI (1001) 0), (zI (253) 0), (zF 1002)]
def o636_1 : Obj := oH (fH (inClass (top 27) 3) "told" "Link.told" zN zN (zS "rowmill.jumps" 841) (zR 635))
def o637_1 : Obj := oT []
def o638_1 : Obj := oF []
def o639_1 : Obj := oT [(zS "self" 1007)]
def o640_1 : Obj := oT []
def o641_1 : Obj := oG (fG (inClass (top 27) 4) "named" "Link.named")
def o642_1 : Obj := oC "code" [(zS "named" 1004), (zS "Link.named" 1005), (zF 1006), (zI (256) 0), (zI (1) 0), (zI (0) 0), (zI (0) 0), (zI (3) 0), (zR 637), (.bool true), (zI (181) 0), (zR 638), zN, (zR 639), (zR 640), (zR 641), (zI (1008) 0), (zI (256) 0), (zF 1009)]
def o643_1 : Obj := oH (fH (inClass (top 27) 4) "named" "Link.named" zN zN (zS "rowmill.jumps" 841) (zR 642))
def o644_1 : Obj := oT []
def o645_1 : Obj := oF []
def o646_1 : Obj := oT [(zS "self" 1014), (zS "words" 1015), (zS "place" 1016)]
def o647_1 : Obj := oT []
def o648_1 : Obj := oG (fG (inClass (top 27) 5) "reckoned" "Link.reckoned")
def o649_1 : Obj := oC "code" [(zS "reckoned" 1011), (zS "Link.reckoned" 1012), (zF 1013), (zI (259) 0), (zI (3) 0), (zI (0) 0), (zI (0) 0), (zI (3) 0), (zR 644), (.bool true), (zI (181) 0), (zR 645), zN, (zR 646), (zR 647), (zR 648), (zI (1017) 0), (zI (259) 0), (zF 1018)]
def o650_1 : Obj := oH (fH (inClass (top 27) 5) "reckoned" "Link.reckoned" zN zN (zS "rowmill.jumps" 841) (zR 649))
def o651_1 : Obj := oT []
def o652_1 : Obj := oF []
def o653_1 : Obj := oT [(zS "self" 1023), (zS "words" 1024), (zS "place" 1025)]
def o654_1 : Obj := oT []
def o655_1 : Obj := oG (fG (inClass (top 27) 6) "goal" "Link.goal")
def o656_1 : Obj := oC "code" [(zS "goal" 1020), (zS "Link.goal" 1021), (zF 1022), (zI (262) 0), (zI (3) 0), (zI (0) 0), (zI (0) 0), (zI (3) 0), (zR 651), (.bool true), (zI (181) 0), (zR 652), zN, (zR 653), (zR 654), (zR 655), (zI (1026) 0), (zI (262) 0), (zF 1027)]
def o657_1 : Obj := oH (fH (inClass (top 27) 6) "goal" "Link.goal" zN zN (zS "rowmill.jumps" 841) (zR 656))
def o658_1 : Obj := oT [(zS "a" 1029), (zS "n" 1030)]
def o659_1 (P : Params) : Obj := oD [zE P "__module__" 969 (zS "rowmill.jumps" 841), zE P "__firstlineno__" 973 (zI (241) 972), zE P "__init__" 982 (zR 615), zE P "op" 989 (zR 622), zE P "parts" 996 (zR 629), zE P "told" 1003 (zR 636), zE P "named" 1010 (zR 643), zE P "reckoned" 1019 (zR 650), zE P "goal" 1028 (zR 657), zE P "__static_attributes__" 1031 (zR 658), zE P "__doc__" 1032 zN] 2
def o660_1 : Obj := oK { name := Str.ofString "Link", bases := [(zR 172)], mro := [(zR 660), (zR 172), (.type "object")], ns := 659, qualname := Str.ofString "Link", hasDict := true, subclasses := [], abstract := false, hasDel := false } [some (zR 602), none, some (zS "Link" 962), some (zS "Link" 970), some (.builtin "object.__new__"), some (.bool true)]
def o661_1 : Obj := oC "super" [(zR 660), (zR 660), (zR 660)]
def o662_1 : Obj := oC "builtin_function_or_method" [(.builtin "object.__init_subclass__"), (zR 660)]
def o663_1 : Obj := oT [(zR 172)]
def o664_1 : Obj := oC "builtin_function_or_method" [(.builtin "type.__prepare__"), (.type "type")]
def o665_1 (P : Params) : Obj := oD [zE P "__module__" 1042 (zS "rowmill.jumps" 841), zE P "__qualname__" 1044 (zS "Go" 1043), zE P "__firstlineno__" 1046 (zI (264) 1045), zE P "__init__" 1054 (zR 676), zE P "op" 1061 (zR 683), zE P "parts" 1068 (zR 690), zE P "told" 1075 (zR 697), zE P "reads" 1082 (zR 704), zE P "goal" 1091 (zR 711), zE P "__static_attributes__" 1093 (zR 712)] 10
def o666_1 : Obj := oT []
def o667_1 : Obj := oF [(zI (266) 0), (zI (4) 0), (zR 675), (zI (269) 0), (zI (4) 0), (zR 682), (zI (272) 0), (zI (4) 0), (zR 689), (zI (275) 0), (zI (4) 0), (zR 696), (zI (278) 0), (zI (4) 0), (zR 703), (zI (281) 0), (zI (4) 0), (zR 710)]
def o668_1 : Obj := oC "code" [(zS "Go" 1037), (zS "Go" 1038), (zF 1039), (zI (264) 0), (zI (0) 0), (zI (0) 0), (zI (0) 0), (zI (0) 0), (zR 666), (.bool false), (zI (181) 0), (zR 667), zN, zN, zN, zN, (zI (1040) 0), (zI (264) 0), (zF 1041)]
def o669_1 : Obj := oP "frame" [some (zR 668), some (zR 3), some (zR 665), none, some (zS "rowmill.jumps" 841), none, some (zR 0)]
def o670_1 : Obj := oT []
def o671_1 : Obj := oF []
def o672_1 : Obj := oT [(zS "self" 1050), (zS "a" 1051)]
def o673_1 : Obj := oT []
def o674_1 : Obj := oG (fG (inClass (top 28) 0) "__init__" "Go.__init__")
def o675_1 : Obj := oC "code" [(zS "__init__" 1047), (zS "Go.__init__" 1048), (zF 1049), (zI (266) 0), (zI (2) 0), (zI (0) 0), (zI (0) 0), (zI (3) 0), (zR 670), (.bool true), (zI (181) 0), (zR 671), zN, (zR 672), (zR 673), (zR 674), (zI (1052) 0), (zI (266) 0), (zF 1053)]
def o676_1 : Obj := oH (fH (inClass (top 28) 0) "__init__" "Go.__init__" zN zN (zS "rowmill.jumps" 841) (zR 675))
def o677_1 : Obj := oT []
def o678_1 : Obj := oF []
def o679_1 : Obj := oT [(zS "self" 1058)]
def o680_1 : Obj := oT []
def o681_1 : Obj := oG (fG (inClass (top 28) 1) "op" "Go.op")
def o682_1 : Obj := oC "code" [(zS "op" 1055), (zS "Go.op" 1056), (zF 1057), (zI (269) 0), (zI (1) 0), (zI (0) 0), (zI (0) 0), (zI (3) 0), (zR 677), (.bool true), (zI (181) 0), (zR 678), zN, (zR 679), (zR 680), (zR 681), (zI (1059) 0), (zI (269) 0), (zF 1060)]
def o683_1 : Obj := oH (fH (inClass (top 28) 1) "op" "Go.op" zN zN (zS "rowmill.jumps" 841) (zR 682))
def o684_1 : Obj := oT []
def o685_1 : Obj := oF []
def o686_1 : Obj := oT [(zS "self" 1065)]
def o687_1 : Obj := oT []
def o688_1 : Obj := oG (fG (inClass (top 28) 2) "parts" "Go.parts")
def o689_1 : Obj := oC "code" [(zS "parts" 1062), (zS "Go.parts" 1063), (zF 1064), (zI (272) 0), (zI (1) 0), (zI (0) 0), (zI (0) 0), (zI (3) 0), (zR 684), (.bool true), (zI (181) 0), (zR 685), zN, (zR 686), (zR 687), (zR 688), (zI (1066) 0), (zI (272) 0), (zF 1067)]
def o690_1 : Obj := oH (fH (inClass (top 28) 2) "parts" "Go.parts" zN zN (zS "rowmill.jumps" 841) (zR 689))
def o691_1 : Obj := oT []
def o692_1 : Obj := oF []
def o693_1 : Obj := oT [(zS "self" 1072)]
def o694_1 : Obj := oT []
def o695_1 : Obj := oG (fG (inClass (top 28) 3) "told" "Go.told")
def o696_1 : Obj := oC "code" [(zS "told" 1069), (zS "Go.told" 1070), (zF 1071), (zI (275) 0), (zI (1) 0), (zI (0) 0), (zI (0) 0), (zI (3) 0), (zR 691), (.bool true), (zI (181) 0), (zR 692), zN, (zR 693), (zR 694), (zR 695), (zI (1073) 0), (zI (275) 0), (zF 1074)]
def o697_1 : Obj := oH (fH (inClass (top 28) 3) "told" "Go.told" zN zN (zS "rowmill.jumps" 841) (zR 696))
def o698_1 : Obj := oT []
def o699_1 : Obj := oF []
def o700_1 : Obj := oT [(zS "self" 1079)]
def o701_1 : Obj := oT []
def o702_1 : Obj := oG (fG (inClass (top 28) 4) "reads" "Go.reads")
def o703_1 : Obj := oC "code" [(zS "reads" 1076), (zS "Go.reads" 1077), (zF 1078), (zI (278) 0), (zI (1) 0), (zI (0) 0), (zI (0) 0), (zI (3) 0), (zR 698), (.bool true), (zI (181) 0), (zR 699), zN, (zR 700), (zR 701), (zR 702), (zI (1080) 0), (zI (278) 0), (zF 1081)]
def o704_1 : Obj := oH (fH (inClass (top 28) 4) "reads" "Go.reads" zN zN (zS "rowmill.jumps" 841) (zR 703))
def o705_1 : Obj := oT []
def o706_1 : Obj := oF []
def o707_1 : Obj := oT [(zS "self" 1086), (zS "words" 1087), (zS "place" 1088)]
def o708_1 : Obj := oT []
def o709_1 : Obj := oG (fG (inClass (top 28) 5) "goal" "Go.goal")
def o710_1 : Obj := oC "code" [(zS "goal" 1083), (zS "Go.goal" 1084), (zF 1085), (zI (281) 0), (zI (3) 0), (zI (0) 0), (zI (0) 0), (zI (3) 0), (zR 705), (.bool true), (zI (181) 0), (zR 706), zN, (zR 707), (zR 708), (zR 709), (zI (1089) 0), (zI (281) 0), (zF 1090)]
def o711_1 : Obj := oH (fH (inClass (top 28) 5) "goal" "Go.goal" zN zN (zS "rowmill.jumps" 841) (zR 710))
def o712_1 : Obj := oT [(zS "a" 1092)]
def o713_1 (P : Params) : Obj := oD [zE P "__module__" 1042 (zS "rowmill.jumps" 841), zE P "__firstlineno__" 1046 (zI (264) 1045), zE P "__init__" 1054 (zR 676), zE P "op" 1061 (zR 683), zE P "parts" 1068 (zR 690), zE P "told" 1075 (zR 697), zE P "reads" 1082 (zR 704), zE P "goal" 1091 (zR 711), zE P "__static_attributes__" 1093 (zR 712), zE P "__doc__" 1094 zN] 2
def o714_1 : Obj := oK { name := Str.ofString "Go", bases := [(zR 172)], mro := [(zR 714), (zR 172), (.type "object")], ns := 713, qualname := Str.ofString "Go", hasDict := true, subclasses := [], abstract := false, hasDel := false } [some (zR 663), none, some (zS "Go" 1035), some (zS "Go" 1043), some (.builtin "object.__new__"), some (.bool true)]
def o715_1 : Obj := oC "super" [(zR 714), (zR 714), (zR 714)]
def o716_1 : Obj := oC "builtin_function_or_method" [(.builtin "object.__init_subclass__"), (zR 714)]
def o717_1 : Obj := oT [(zR 172)]
def o718_1 : Obj := oC "builtin_function_or_method" [(.builtin "type.__prepare__"), (.type "type")]
def o719_1 (P : Params) : Obj := oD [zE P "__module__" 1106 (zS "rowmill.others" 1097), zE P "__qualname__" 1108 (zS "OfBox" 1107), zE P "__firstlineno__" 1110 (zI (284) 1109), zE P "__init__" 1118 (zR 730), zE P "first" 1125 (zR 737), zE P "parts" 1132 (zR 744), zE P "told" 1139 (zR 751), zE P "station" 1146 (zR 758), zE P "__static_attributes__" 1148 (zR 759)] 9
def o720_1 : Obj := oT []
def o721_1 : Obj := oF [(zI (286) 0), (zI (4) 0), (zR 729), (zI (289) 0), (zI (4) 0), (zR 736), (zI (292) 0), (zI (4) 0), (zR 743), (zI (295) 0), (zI (4) 0), (zR 750), (zI (298) 0), (zI (4) 0), (zR 757)]
def o722_1 : Obj := oC "code" [(zS "OfBox" 1101), (zS "OfBox" 1102), (zF 1103), (zI (284) 0), (zI (0) 0), (zI (0) 0), (zI (0) 0), (zI (0) 0), (zR 720), (.bool false), (zI (181) 0), (zR 721), zN, zN, zN, zN, (zI (1104) 0), (zI (284) 0), (zF 1105)]
def o723_1 : Obj := oP "frame" [some (zR 722), some (zR 3), some (zR 719), none, some (zS "rowmill.others" 1097), none, some (zR 0)]
def o724_1 : Obj := oT []
def o725_1 : Obj := oF []
def o726_1 : Obj := oT [(zS "self" 1114), (zS "a" 1115)]
def o727_1 : Obj := oT []
def o728_1 : Obj := oG (fG (inClass (top 30) 0) "__init__" "OfBox.__init__")
def o729_1 : Obj := oC "code" [(zS "__init__" 1111), (zS "OfBox.__init__" 1112), (zF 1113), (zI (286) 0), (zI (2) 0), (zI (0) 0), (zI (0) 0), (zI (3) 0), (zR 724), (.bool true), (zI (181) 0), (zR 725), zN, (zR 726), (zR 727), (zR 728), (zI (1116) 0), (zI (286) 0), (zF 1117)]
def o730_1 : Obj := oH (fH (inClass (top 30) 0) "__init__" "OfBox.__init__" zN zN (zS "rowmill.others" 1097) (zR 729))
def o731_1 : Obj := oT []
def o732_1 : Obj := oF []
def o733_1 : Obj := oT [(zS "self" 1122)]
def o734_1 : Obj := oT []
def o735_1 : Obj := oG (fG (inClass (top 30) 1) "first" "OfBox.first")
def o736_1 : Obj := oC "code" [(zS "first" 1119), (zS "OfBox.first" 1120), (zF 1121), (zI (289) 0), (zI (1) 0), (zI (0) 0), (zI (0) 0), (zI (3) 0), (zR 731), (.bool true), (zI (181) 0), (zR 732), zN, (zR 733), (zR 734), (zR 735), (zI (1123) 0), (zI (289) 0), (zF 1124)]
def o737_1 : Obj := oH (fH (inClass (top 30) 1) "first" "OfBox.first" zN zN (zS "rowmill.others" 1097) (zR 736))
def o738_1 : Obj := oT []
def o739_1 : Obj := oF []
def o740_1 : Obj := oT [(zS "self" 1129)]
def o741_1 : Obj := oT []
def o742_1 : Obj := oG (fG (inClass (top 30) 2) "parts" "OfBox.parts")
def o743_1 : Obj := oC "code" [(zS "parts" 1126), (zS "OfBox.parts" 1127), (zF 1128), (zI (292) 0), (zI (1) 0), (zI (0) 0), (zI (0) 0), (zI (3) 0), (zR 738), (.bool true), (zI (181) 0), (zR 739), zN, (zR 740), (zR 741), (zR 742), (zI (1130) 0), (zI (292) 0), (zF 1131)]
def o744_1 : Obj := oH (fH (inClass (top 30) 2) "parts" "OfBox.parts" zN zN (zS "rowmill.others" 1097) (zR 743))
def o745_1 : Obj := oT []
def o746_1 : Obj := oF []
def o747_1 : Obj := oT [(zS "self" 1136)]
def o748_1 : Obj := oT []
def o749_1 : Obj := oG (fG (inClass (top 30) 3) "told" "OfBox.told")
def o750_1 : Obj := oC "code" [(zS "told" 1133), (zS "OfBox.told" 1134), (zF 1135), (zI (295) 0), (zI (1) 0), (zI (0) 0), (zI (0) 0), (zI (3) 0), (zR 745), (.bool true), (zI (181) 0), (zR 746), zN, (zR 747), (zR 748), (zR 749), (zI (1137) 0), (zI (295) 0), (zF 1138)]
def o751_1 : Obj := oH (fH (inClass (top 30) 3) "told" "OfBox.told" zN zN (zS "rowmill.others" 1097) (zR 750))
def o752_1 : Obj := oT []
def o753_1 : Obj := oF []
def o754_1 : Obj := oT [(zS "self" 1143)]
def o755_1 : Obj := oT []
def o756_1 : Obj := oG (fG (inClass (top 30) 4) "station" "OfBox.station")
def o757_1 : Obj := oC "code" [(zS "station" 1140), (zS "OfBox.station" 1141), (zF 1142), (zI (298) 0), (zI (1) 0), (zI (0) 0), (zI (0) 0), (zI (3) 0), (zR 752), (.bool true), (zI (181) 0), (zR 753), zN, (zR 754), (zR 755), (zR 756), (zI (1144) 0), (zI (298) 0), (zF 1145)]
def o758_1 : Obj := oH (fH (inClass (top 30) 4) "station" "OfBox.station" zN zN (zS "rowmill.others" 1097) (zR 757))
def o759_1 : Obj := oT [(zS "a" 1147)]
def o760_1 (P : Params) : Obj := oD [zE P "__module__" 1106 (zS "rowmill.others" 1097), zE P "__firstlineno__" 1110 (zI (284) 1109), zE P "__init__" 1118 (zR 730), zE P "first" 1125 (zR 737), zE P "parts" 1132 (zR 744), zE P "told" 1139 (zR 751), zE P "station" 1146 (zR 758), zE P "__static_attributes__" 1148 (zR 759), zE P "__doc__" 1149 zN] 2
def o761_1 : Obj := oK { name := Str.ofString "OfBox", bases := [(zR 172)], mro := [(zR 761), (zR 172), (.type "object")], ns := 760, qualname := Str.ofString "OfBox", hasDict := true, subclasses := [(zR 794), (zR 827), (zR 867), (zR 907), (zR 947)], abstract := false, hasDel := false } [some (zR 717), none, some (zS "OfBox" 1099), some (zS "OfBox" 1107), some (.builtin "object.__new__"), some (.bool true)]
def o762_1 : Obj := oC "super" [(zR 761), (zR 761), (zR 761)]
def o763_1 : Obj := oC "builtin_function_or_method" [(.builtin "object.__init_subclass__"), (zR 761)]
def o764_1 : Obj := oT [(zR 761)]
def o765_1 : Obj := oC "builtin_function_or_method" [(.builtin "type.__prepare__"), (.type "type")]
def o766_1 (P : Params) : Obj := oD [zE P "__module__" 1159 (zS "rowmill.others" 1097), zE P "__qualname__" 1161 (zS "Ask" 1160), zE P "__firstlineno__" 1163 (zI (300) 1162), zE P "op" 1170 (zR 777), zE P "first" 1177 (zR 784), zE P "named" 1184 (zR 791), zE P "__static_attributes__" 1185 (zR 792)] 7
def o767_1 : Obj := oT []
def o768_1 : Obj := oF [(zI (302) 0), (zI (4) 0), (zR 776), (zI (305) 0), (zI (4) 0), (zR 783), (zI (308) 0), (zI (4) 0), (zR 790)]
def o769_1 : Obj := oC "code" [(zS "Ask" 1154), (zS "Ask" 1155), (zF 1156), (zI (300) 0), (zI (0) 0), (zI (0) 0), (zI (0) 0), (zI (0) 0), (zR 767), (.bool false), (zI (181) 0), (zR 768), zN, zN, zN, zN, (zI (1157) 0), (zI (300) 0), (zF 1158)]
def o770_1 : Obj := oP "frame" [some (zR 769), some (zR 3), some (zR 766), none, some (zS "rowmill.others" 1097), none, some (zR 0)]
def o771_1 : Obj := oT []
def o772_1 : Obj := oF []
def o773_1 : Obj := oT [(zS "self" 1167)]
def o774_1 : Obj := oT []
def o775_1 : Obj := oG (fG (inClass (top 31) 0) "op" "Ask.op")
def o776_1 : Obj := oC "code" [(zS "op" 1164), (zS "Ask.op" 1165), (zF 1166), (zI (302) 0), (zI (1) 0), (zI (0) 0), (zI (0) 0), (zI (3) 0), (zR 771), (.bool true), (zI (181) 0), (zR 772), zN, (zR 773), (zR 774), (zR 775), (zI (1168) 0), (zI (302) 0), (zF 1169)]
def o777_1 : Obj := oH (fH (inClass (top 31) 0) "op" "Ask.op" zN zN (zS "rowmill.others" 1097) (zR 776))
def o778_1 : Obj := oT []
def o779_1 : Obj := oF []
def o780_1 : Obj := oT [(zS "self" 1174)]
def o781_1 : Obj := oT []
def o782_1 : Obj := oG (fG (inClass (top 31) 1) "first" "Ask.first")
def o783_1 : Obj := oC "code" [(zS "first" 1171), (zS "Ask.first" 1172), (zF 1173), (zI (305) 0), (zI (1) 0), (zI (0) 0), (zI (0) 0), (zI (3) 0), (zR 778), (.bool true), (zI (181) 0), (zR 779), zN, (zR 780), (zR 781), (zR 782), (zI (1175) 0), (zI (305) 0), (zF 1176)]
def o784_1 : Obj := oH (fH (inClass (top 31) 1) "first" "Ask.first" zN zN (zS "rowmill.others" 1097) (zR 783))
def o785_1 : Obj := oT []
def o786_1 : Obj := oF []
def o787_1 : Obj := oT [(zS "self" 1181)]
def o788_1 : Obj := oT []
def o789_1 : Obj := oG (fG (inClass (top 31) 2) "named" "Ask.named")
def o790_1 : Obj := oC "code" [(zS "named" 1178), (zS "Ask.named" 1179), (zF 1180), (zI (308) 0), (zI (1) 0), (zI (0) 0), (zI (0) 0), (zI (3) 0), (zR 785), (.bool true), (zI (181) 0), (zR 786), zN, (zR 787), (zR 788), (zR 789), (zI (1182) 0), (zI (308) 0), (zF 1183)]
def o791_1 : Obj := oH (fH (inClass (top 31) 2) "named" "Ask.named" zN zN (zS "rowmill.others" 1097) (zR 790))
def o792_1 : Obj := oT []
def o793_1 (P : Params) : Obj := oD [zE P "__module__" 1159 (zS "rowmill.others" 1097), zE P "__firstlineno__" 1163 (zI (300) 1162), zE P "op" 1170 (zR 777), zE P "first" 1177 (zR 784), zE P "named" 1184 (zR 791), zE P "__static_attributes__" 1185 (zR 792), zE P "__doc__" 1186 zN] 2
def o794_1 : Obj := oK { name := Str.ofString "Ask", bases := [(zR 761)], mro := [(zR 794), (zR 761), (zR 172), (.type "object")], ns := 793, qualname := Str.ofString "Ask", hasDict := true, subclasses := [], abstract := false, hasDel := false } [some (zR 764), none, some (zS "Ask" 1152), some (zS "Ask" 1160), some (.builtin "object.__new__"), some (.bool true)]
def o795_1 : Obj := oC "super" [(zR 794), (zR 794), (zR 794)]
def o796_1 : Obj := oC "builtin_function_or_method" [(.builtin "object.__init_subclass__"), (zR 794)]
def o797_1 : Obj := oT [(zR 761)]
def o798_1 : Obj := oC "builtin_function_or_method" [(.builtin "type.__prepare__"), (.type "type")]
def o799_1 (P : Params) : Obj := oD [zE P "__module__" 1196 (zS "rowmill.others" 1097), zE P "__qualname__" 1198 (zS "Tell" 1197), zE P "__firstlineno__" 1200 (zI (310) 1199), zE P "op" 1207 (zR 810), zE P "first" 1214 (zR 817), zE P "reads" 1221 (zR 824), zE P "__static_attributes__" 1222 (zR 825)] 7
def o800_1 : Obj := oT []
def o801_1 : Obj := oF [(zI (312) 0), (zI (4) 0), (zR 809), (zI (315) 0), (zI (4) 0), (zR 816), (zI (318) 0), (zI (4) 0), (zR 823)]
def o802_1 : Obj := oC "code" [(zS "Tell" 1191), (zS "Tell" 1192), (zF 1193), (zI (310) 0), (zI (0) 0), (zI (0) 0), (zI (0) 0), (zI (0) 0), (zR 800), (.bool false), (zI (181) 0), (zR 801), zN, zN, zN, zN, (zI (1194) 0), (zI (310) 0), (zF 1195)]
def o803_1 : Obj := oP "frame" [some (zR 802), some (zR 3), some (zR 799), none, some (zS "rowmill.others" 1097), none, some (zR 0)]
def o804_1 : Obj := oT []
def o805_1 : Obj := oF []
def o806_1 : Obj := oT [(zS "self" 1204)]
def o807_1 : Obj := oT []
def o808_1 : Obj := oG (fG (inClass (top 32) 0) "op" "Tell.op")
def o809_1 : Obj := oC "code" [(zS "op" 1201), (zS "Tell.op" 1202), (zF 1203), (zI (312) 0), (zI (1) 0), (zI (0) 0), (zI (0) 0), (zI (3) 0), (zR 804), (.bool true), (zI (181) 0), (zR 805), zN, (zR 806), (zR 807), (zR 808), (zI (1205) 0), (zI (312) 0), (zF 1206)]
def o810_1 : Obj := oH (fH (inClass (top 32) 0) "op" "Tell.op" zN zN (zS "rowmill.others" 1097) (zR 809))
def o811_1 : Obj := oT []
def o812_1 : Obj := oF []
def o813_1 : Obj := oT [(zS "self" 1211)]
def o814_1 : Obj := oT []
def o815_1 : Obj := oG (fG (inClass (top 32) 1) "first" "Tell.first")
def o816_1 : Obj := oC "code" [(zS "first" 1208), (zS "Tell.first" 1209), (zF 1210), (zI (315) 0), (zI (1) 0), (zI (0) 0), (zI (0) 0), (zI (3) 0), (zR 811), (.bool true), (zI (181) 0), (zR 812), zN, (zR 813), (zR 814), (zR 815), (zI (1212) 0), (zI (315) 0), (zF 1213)]
def o817_1 : Obj := oH (fH (inClass (top 32) 1) "first" "Tell.first" zN zN (zS "rowmill.others" 1097) (zR 816))
def o818_1 : Obj := oT []
def o819_1 : Obj := oF []
def o820_1 : Obj := oT [(zS "self" 1218)]
def o821_1 : Obj := oT []
def o822_1 : Obj := oG (fG (inClass (top 32) 2) "reads" "Tell.reads")
def o823_1 : Obj := oC "code" [(zS "reads" 1215), (zS "Tell.reads" 1216), (zF 1217), (zI (318) 0), (zI (1) 0), (zI (0) 0), (zI (0) 0), (zI (3) 0), (zR 818), (.bool true), (zI (181) 0), (zR 819), zN, (zR 820), (zR 821), (zR 822), (zI (1219) 0), (zI (318) 0), (zF 1220)]
def o824_1 : Obj := oH (fH (inClass (top 32) 2) "reads" "Tell.reads" zN zN (zS "rowmill.others" 1097) (zR 823))
def o825_1 : Obj := oT []
def o826_1 (P : Params) : Obj := oD [zE P "__module__" 1196 (zS "rowmill.others" 1097), zE P "__firstlineno__" 1200 (zI (310) 1199), zE P "op" 1207 (zR 810), zE P "first" 1214 (zR 817), zE P "reads" 1221 (zR 824), zE P "__static_attributes__" 1222 (zR 825), zE P "__doc__" 1223 zN] 2
def o827_1 : Obj := oK { name := Str.ofString "Tell", bases := [(zR 761)], mro := [(zR 827), (zR 761), (zR 172), (.type "object")], ns := 826, qualname := Str.ofString "Tell", hasDict := true, subclasses := [], abstract := false, hasDel := false } [some (zR 797), none, some (zS "Tell" 1189), some (zS "Tell" 1197), some (.builtin "object.__new__"), some (.bool true)]
def o828_1 : Obj := oC "super" [(zR 827), (zR 827), (zR 827)]
def o829_1 : Obj := oC "builtin_function_or_method" [(.builtin "object.__init_subclass__"), (zR 827)]
def o830_1 : Obj := oT [(zR 761)]
def o831_1 : Obj := oC "builtin_function_or_method" [(.builtin "type.__prepare__"), (.type "type")]
def o832_1 (P : Params) : Obj := oD [zE P "__module__" 1233 (zS "rowmill.others" 1097), zE P "__qualname__" 1235 (zS "Why" 1234), zE P "__firstlineno__" 1237 (zI (320) 1236), zE P "op" 1244 (zR 843), zE P "first" 1251 (zR 850), zE P "named" 1258 (zR 857), zE P "alone" 1265 (zR 864), zE P "__static_attributes__" 1266 (zR 865)] 8
def o833_1 : Obj := oT []
def o834_1 : Obj := oF [(zI (322) 0), (zI (4) 0), (zR 842), (zI (325) 0), (zI (4) 0), (zR 849), (zI (328) 0), (zI (4) 0), (zR 856), (zI (331) 0), (zI (4) 0), (zR 863)]
def o835_1 : Obj := oC "code" [(zS "Why" 1228), (zS "Why" 1229), (zF 1230), (zI (320) 0), (zI (0) 0), (zI (0) 0), (zI (0) 0), (zI (0) 0), (zR 833), (.bool false), (zI (181) 0), (zR 834), zN, zN, zN, zN, (zI (1231) 0), (zI (320) 0), (zF 1232)]
def o836_1 : Obj := oP "frame" [some (zR 835), some (zR 3), some (zR 832), none, some (zS "rowmill.others" 1097), none, some (zR 0)]
def o837_1 : Obj := oT []
def o838_1 : Obj := oF []
def o839_1 : Obj := oT [(zS "self" 1241)]
def o840_1 : Obj := oT []
def o841_1 : Obj := oG (fG (inClass (top 33) 0) "op" "Why.op")
def o842_1 : Obj := oC "code" [(zS "op" 1238), (zS "Why.op" 1239), (zF 1240), (zI (322) 0), (zI (1) 0), (zI (0) 0), (zI (0) 0), (zI (3) 0), (zR 837), (.bool true), (zI (181) 0), (zR 838), zN, (zR 839), (zR 840), (zR 841), (zI (1242) 0), (zI (322) 0), (zF 1243)]
def o843_1 : Obj := oH (fH (inClass (top 33) 0) "op" "Why.op" zN zN (zS "rowmill.others" 1097) (zR 842))
def o844_1 : Obj := oT []
def o845_1 : Obj := oF []
def o846_1 : Obj := oT [(zS "self" 1248)]
def o847_1 : Obj := oT []
def o848_1 : Obj := oG (fG (inClass (top 33) 1) "first" "Why.first")
def o849_1 : Obj := oC "code" [(zS "first" 1245), (zS "Why.first" 1246), (zF 1247), (zI (325) 0), (zI (1) 0), (zI (0) 0), (zI (0) 0), (zI (3) 0), (zR 844), (.bool true), (zI (181) 0), (zR 845), zN, (zR 846), (zR 847), (zR 848), (zI (1249) 0), (zI (325) 0), (zF 1250)]
def o850_1 : Obj := oH (fH (inClass (top 33) 1) "first" "Why.first" zN zN (zS "rowmill.others" 1097) (zR 849))
def o851_1 : Obj := oT []
def o852_1 : Obj := oF []
def o853_1 : Obj := oT [(zS "self" 1255)]
def o854_1 : Obj := oT []
def o855_1 : Obj := oG (fG (inClass (top 33) 2) "named" "Why.named")
def o856_1 : Obj := oC "code" [(zS "named" 1252), (zS "Why.named" 1253), (zF 1254), (zI (328) 0), (zI (1) 0), (zI (0) 0), (zI (0) 0), (zI (3) 0), (zR 851), (.bool true), (zI (181) 0), (zR 852), zN, (zR 853), (zR 854), (zR 855), (zI (1256) 0), (zI (328) 0), (zF 1257)]
def o857_1 : Obj := oH (fH (inClass (top 33) 2) "named" "Why.named" zN zN (zS "rowmill.others" 1097) (zR 856))
def o858_1 : Obj := oT []
def o859_1 : Obj := oF []
def o860_1 : Obj := oT [(zS "self" 1262)]
def o861_1 : Obj := oT []
def o862_1 : Obj := oG (fG (inClass (top 33) 3) "alone" "Why.alone")
def o863_1 : Obj := oC "code" [(zS "alone" 1259), (zS "Why.alone" 1260), (zF 1261), (zI (331) 0), (zI (1) 0), (zI (0) 0), (zI (0) 0), (zI (3) 0), (zR 858), (.bool true), (zI (181) 0), (zR 859), zN, (zR 860), (zR 861), (zR 862), (zI (1263) 0), (zI (331) 0), (zF 1264)]
def o864_1 : Obj := oH (fH (inClass (top 33) 3) "alone" "Why.alone" zN zN (zS "rowmill.others" 1097) (zR 863))
def o865_1 : Obj := oT []
def o866_1 (P : Params) : Obj := oD [zE P "__module__" 1233 (zS "rowmill.others" 1097), zE P "__firstlineno__" 1237 (zI (320) 1236), zE P "op" 1244 (zR 843), zE P "first" 1251 (zR 850), zE P "named" 1258 (zR 857), zE P "alone" 1265 (zR 864), zE P "__static_attributes__" 1266 (zR 865), zE P "__doc__" 1267 zN] 2
def o867_1 : Obj := oK { name := Str.ofString "Why", bases := [(zR 761)], mro := [(zR 867), (zR 761), (zR 172), (.type "object")], ns := 866, qualname := Str.ofString "Why", hasDict := true, subclasses := [], abstract := false, hasDel := false } [some (zR 830), none, some (zS "Why" 1226), some (zS "Why" 1234), some (.builtin "object.__new__"), some (.bool true)]
def o868_1 : Obj := oC "super" [(zR 867), (zR 867), (zR 867)]
def o869_1 : Obj := oC "builtin_function_or_method" [(.builtin "object.__init_subclass__"), (zR 867)]
def o870_1 : Obj := oT [(zR 761)]
def o871_1 : Obj := oC "builtin_function_or_method" [(.builtin "type.__prepare__"), (.type "type")]
def o872_1 (P : Params) : Obj := oD [zE P "__module__" 1277 (zS "rowmill.others" 1097), zE P "__qualname__" 1279 (zS "Where" 1278), zE P "__firstlineno__" 1281 (zI (333) 1280), zE P "op" 1288 (zR 883), zE P "first" 1295 (zR 890), zE P "named" 1302 (zR 897), zE P "alone" 1309 (zR 904), zE P "__static_attributes__" 1310 (zR 905)] 8
def o873_1 : Obj := oT []
def o874_1 : Obj := oF [(zI (335) 0), (zI (4) 0), (zR 882), (zI (338) 0), (zI (4) 0), (zR 889), (zI (341) 0), (zI (4) 0), (zR 896), (zI (344) 0), (zI (4) 0), (zR 903)]
def o875_1 : Obj := oC "code" [(zS "Where" 1272), (zS "Where" 1273), (zF 1274), (zI (333) 0), (zI (0) 0), (zI (0) 0), (zI (0) 0), (zI (0) 0), (zR 873), (.bool false), (zI (181) 0), (zR 874), zN, zN, zN, zN, (zI (1275) 0), (zI (333) 0), (zF 1276)]
def o876_1 : Obj := oP "frame" [some (zR 875), some (zR 3), some (zR 872), none, some (zS "rowmill.others" 1097), none, some (zR 0)]
def o877_1 : Obj := oT []
def o878_1 : Obj := oF []
def o879_1 : Obj := oT [(zS "self" 1285)]
def o880_1 : Obj := oT []
def o881_1 : Obj := oG (fG (inClass (top 34) 0) "op" "Where.op")
def o882_1 : Obj := oC "code" [(zS "op" 1282), (zS "Where.op" 1283), (zF 1284), (zI (335) 0), (zI (1) 0), (zI (0) 0), (zI (0) 0), (zI (3) 0), (zR 877), (.bool true), (zI (181) 0), (zR 878), zN, (zR 879), (zR 880), (zR 881), (zI (1286) 0), (zI (335) 0), (zF 1287)]
def o883_1 : Obj := oH (fH (inClass (top 34) 0) "op" "Where.op" zN zN (zS "rowmill.others" 1097) (zR 882))
def o884_1 : Obj := oT []
def o885_1 : Obj := oF []
def o886_1 : Obj := oT [(zS "self" 1292)]
def o887_1 : Obj := oT []
def o888_1 : Obj := oG (fG (inClass (top 34) 1) "first" "Where.first")
def o889_1 : Obj := oC "code" [(zS "first" 1289), (zS "Where.first" 1290), (zF 1291), (zI (338) 0), (zI (1) 0), (zI (0) 0), (zI (0) 0), (zI (3) 0), (zR 884), (.bool true), (zI (181) 0), (zR 885), zN, (zR 886), (zR 887), (zR 888), (zI (1293) 0), (zI (338) 0), (zF 1294)]
def o890_1 : Obj := oH (fH (inClass (top 34) 1) "first" "Where.first" zN zN (zS "rowmill.others" 1097) (zR 889))
def o891_1 : Obj := oT []
def o892_1 : Obj := oF []
def o893_1 : Obj := oT [(zS "self" 1299)]
def o894_1 : Obj := oT []
def o895_1 : Obj := oG (fG (inClass (top 34) 2) "named" "Where.named")
def o896_1 : Obj := oC "code" [(zS "named" 1296), (zS "Where.named" 1297), (zF 1298), (zI (341) 0), (zI (1) 0), (zI (0) 0), (zI (0) 0), (zI (3) 0), (zR 891), (.bool true), (zI (181) 0), (zR 892), zN, (zR 893), (zR 894), (zR 895), (zI (1300) 0), (zI (341) 0), (zF 1301)]
def o897_1 : Obj := oH (fH (inClass (top 34) 2) "named" "Where.named" zN zN (zS "rowmill.others" 1097) (zR 896))
def o898_1 : Obj := oT []
def o899_1 : Obj := oF []
def o900_1 : Obj := oT [(zS "self" 1306)]
def o901_1 : Obj := oT []
def o902_1 : Obj := oG (fG (inClass (top 34) 3) "alone" "Where.alone")
def o903_1 : Obj := oC "code" [(zS "alone" 1303), (zS "Where.alone" 1304), (zF 1305), (zI (344) 0), (zI (1) 0), (zI (0) 0), (zI (0) 0), (zI (3) 0), (zR 898), (.bool true), (zI (181) 0), (zR 899), zN, (zR 900), (zR 901), (zR 902), (zI (1307) 0), (zI (344) 0), (zF 1308)]
def o904_1 : Obj := oH (fH (inClass (top 34) 3) "alone" "Where.alone" zN zN (zS "rowmill.others" 1097) (zR 903))
def o905_1 : Obj := oT []
def o906_1 (P : Params) : Obj := oD [zE P "__module__" 1277 (zS "rowmill.others" 1097), zE P "__firstlineno__" 1281 (zI (333) 1280), zE P "op" 1288 (zR 883), zE P "first" 1295 (zR 890), zE P "named" 1302 (zR 897), zE P "alone" 1309 (zR 904), zE P "__static_attributes__" 1310 (zR 905), zE P "__doc__" 1311 zN] 2
def o907_1 : Obj := oK { name := Str.ofString "Where", bases := [(zR 761)], mro := [(zR 907), (zR 761), (zR 172), (.type "object")], ns := 906, qualname := Str.ofString "Where", hasDict := true, subclasses := [], abstract := false, hasDel := false } [some (zR 870), none, some (zS "Where" 1270), some (zS "Where" 1278), some (.builtin "object.__new__"), some (.bool true)]
def o908_1 : Obj := oC "super" [(zR 907), (zR 907), (zR 907)]
def o909_1 : Obj := oC "builtin_function_or_method" [(.builtin "object.__init_subclass__"), (zR 907)]
def o910_1 : Obj := oT [(zR 761)]
def o911_1 : Obj := oC "builtin_function_or_method" [(.builtin "type.__prepare__"), (.type "type")]
def o912_1 (P : Params) : Obj := oD [zE P "__module__" 1321 (zS "rowmill.others" 1097), zE P "__qualname__" 1323 (zS "Aim" 1322), zE P "__firstlineno__" 1325 (zI (346) 1324), zE P "op" 1332 (zR 923), zE P "first" 1339 (zR 930), zE P "reads" 1346 (zR 937), zE P "alone" 1353 (zR 944), zE P "__static_attributes__" 1354 (zR 945)] 8
def o913_1 : Obj := oT []
def o914_1 : Obj := oF [(zI (348) 0), (zI (4) 0), (zR 922), (zI (351) 0), (zI (4) 0), (zR 929), (zI (354) 0), (zI (4) 0), (zR 936), (zI (357) 0), (zI (4) 0), (zR 943)]
def o915_1 : Obj := oC "code" [(zS "Aim" 1316), (zS "Aim" 1317), (zF 1318), (zI (346) 0), (zI (0) 0), (zI (0) 0), (zI (0) 0), (zI (0) 0), (zR 913), (.bool false), (zI (181) 0), (zR 914), zN, zN, zN, zN, (zI (1319) 0), (zI (346) 0), (zF 1320)]
def o916_1 : Obj := oP "frame" [some (zR 915), some (zR 3), some (zR 912), none, some (zS "rowmill.others" 1097), none, some (zR 0)]
def o917_1 : Obj := oT []
def o918_1 : Obj := oF []
def o919_1 : Obj := oT [(zS "self" 1329)]
def o920_1 : Obj := oT []
def o921_1 : Obj := oG (fG (inClass (top 35) 0) "op" "Aim.op")
def o922_1 : Obj := oC "code" [(zS "op" 1326), (zS "Aim.op" 1327), (zF 1328), (zI (348) 0), (zI (1) 0), (zI (0) 0), (zI (0) 0), (zI (3) 0), (zR 917), (.bool true), (zI (181) 0), (zR 918), zN, (zR 919), (zR 920), (zR 921), (zI (1330) 0), (zI (348) 0), (zF 1331)]
def o923_1 : Obj := oH (fH (inClass (top 35) 0) "op" "Aim.op" zN zN (zS "rowmill.others" 1097) (zR 922))
def o924_1 : Obj := oT []
def o925_1 : Obj := oF []
def o926_1 : Obj := oT [(zS "self" 1336)]
def o927_1 : Obj := oT []
def o928_1 : Obj := oG (fG (inClass (top 35) 1) "first" "Aim.first")
def o929_1 : Obj := oC "code" [(zS "first" 1333), (zS "Aim.first" 1334), (zF 1335), (zI (351) 0), (zI (1) 0), (zI (0) 0), (zI (0) 0), (zI (3) 0), (zR 924), (.bool true), (zI (181) 0), (zR 925), zN, (zR 926), (zR 927), (zR 928), (zI (1337) 0), (zI (351) 0), (zF 1338)]
def o930_1 : Obj := oH (fH (inClass (top 35) 1) "first" "Aim.first" zN zN (zS "rowmill.others" 1097) (zR 929))
def o931_1 : Obj := oT []
def o932_1 : Obj := oF []
def o933_1 : Obj := oT [(zS "self" 1343)]
def o934_1 : Obj := oT []
def o935_1 : Obj := oG (fG (inClass (top 35) 2) "reads" "Aim.reads")
def o936_1 : Obj := oC "code" [(zS "reads" 1340), (zS "Aim.reads" 1341), (zF 1342), (zI (354) 0), (zI (1) 0), (zI (0) 0), (zI (0) 0), (zI (3) 0), (zR 931), (.bool true), (zI (181) 0), (zR 932), zN, (zR 933), (zR 934), (zR 935), (zI (1344) 0), (zI (354) 0), (zF 1345)]
def o937_1 : Obj := oH (fH (inClass (top 35) 2) "reads" "Aim.reads" zN zN (zS "rowmill.others" 1097) (zR 936))
def o938_1 : Obj := oT []
def o939_1 : Obj := oF []
def o940_1 : Obj := oT [(zS "self" 1350)]
def o941_1 : Obj := oT []
def o942_1 : Obj := oG (fG (inClass (top 35) 3) "alone" "Aim.alone")
def o943_1 : Obj := oC "code" [(zS "alone" 1347), (zS "Aim.alone" 1348), (zF 1349), (zI (357) 0), (zI (1) 0), (zI (0) 0), (zI (0) 0), (zI (3) 0), (zR 938), (.bool true), (zI (181) 0), (zR 939), zN, (zR 940), (zR 941), (zR 942), (zI (1351) 0), (zI (357) 0), (zF 1352)]
def o944_1 : Obj := oH (fH (inClass (top 35) 3) "alone" "Aim.alone" zN zN (zS "rowmill.others" 1097) (zR 943))
def o945_1 : Obj := oT []
def o946_1 (P : Params) : Obj := oD [zE P "__module__" 1321 (zS "rowmill.others" 1097), zE P "__firstlineno__" 1325 (zI (346) 1324), zE P "op" 1332 (zR 923), zE P "first" 1339 (zR 930), zE P "reads" 1346 (zR 937), zE P "alone" 1353 (zR 944), zE P "__static_attributes__" 1354 (zR 945), zE P "__doc__" 1355 zN] 2
def o947_1 : Obj := oK { name := Str.ofString "Aim", bases := [(zR 761)], mro := [(zR 947), (zR 761), (zR 172), (.type "object")], ns := 946, qualname := Str.ofString "Aim", hasDict := true, subclasses := [], abstract := false, hasDel := false } [some (zR 910), none, some (zS "Aim" 1314), some (zS "Aim" 1322), some (.builtin "object.__new__"), some (.bool true)]
def o948_1 : Obj := oC "super" [(zR 947), (zR 947), (zR 947)]
def o949_1 : Obj := oC "builtin_function_or_method" [(.builtin "object.__init_subclass__"), (zR 947)]
def o950_1 : Obj := oT [(zR 172)]
def o951_1 : Obj := oC "builtin_function_or_method" [(.builtin "type.__prepare__"), (.type "type")]
def o952_1 (P : Params) : Obj := oD [zE P "__module__" 1365 (zS "rowmill.others" 1097), zE P "__qualname__" 1367 (zS "Home" 1366), zE P "__firstlineno__" 1369 (zI (359) 1368), zE P "op" 1376 (zR 963), zE P "told" 1383 (zR 970), zE P "alone" 1390 (zR 977), zE P "__static_attributes__" 1391 (zR 978)] 7
def o953_1 : Obj := oT []
def o954_1 : Obj := oF [(zI (361) 0), (zI (4) 0), (zR 962), (zI (364) 0), (zI (4) 0), (zR 969), (zI (367) 0), (zI (4) 0), (zR 976)]
def o955_1 : Obj := oC "code" [(zS "Home" 1360), (zS "Home" 1361), (zF 1362), (zI (359) 0), (zI (0) 0), (zI (0) 0), (zI (0) 0), (zI (0) 0), (zR 953), (.bool false), (zI (181) 0), (zR 954), zN, zN, zN, zN, (zI (1363) 0), (zI (359) 0), (zF 1364)]
def o956_1 : Obj := oP "frame" [some (zR 955), some (zR 3), some (zR 952), none, some (zS "rowmill.others" 1097), none, some (zR 0)]
def o957_1 : Obj := oT []
def o958_1 : Obj := oF []
def o959_1 : Obj := oT [(zS "self" 1373)]
def o960_1 : Obj := oT []
def o961_1 : Obj := oG (fG (inClass (top 36) 0) "op" "Home.op")
def o962_1 : Obj := oC "code" [(zS "op" 1370), (zS "Home.op" 1371), (zF 1372), (zI (361) 0), (zI (1) 0), (zI (0) 0), (zI (0) 0), (zI (3) 0), (zR 957), (.bool true), (zI (181) 0), (zR 958), zN, (zR 959), (zR 960), (zR 961), (zI (1374) 0), (zI (361) 0), (zF 1375)]
def o963_1 : Obj := oH (fH (inClass (top 36) 0) "op" "Home.op" zN zN (zS "rowmill.others" 1097) (zR 962))
def o964_1 : Obj := oT []
def o965_1 : Obj := oF []
def o966_1 : Obj := oT [(zS "self" 1380)]
def o967_1 : Obj := oT []
def o968_1 : Obj := oG (fG (inClass (top 36) 1) "told" "Home.told")
def o969_1 : Obj := oC "code" [(zS "told" 1377), (zS "Home.told" 1378), (zF 1379), (zI (364) 0), (zI (1) 0), (zI (0) 0), (zI (0) 0), (zI (3) 0), (zR 964), (.bool true), (zI (181) 0), (zR 965), zN, (zR 966), (zR 967), (zR 968), (zI (1381) 0), (zI (364) 0), (zF 1382)]
def o970_1 : Obj := oH (fH (inClass (top 36) 1) "told" "Home.told" zN zN (zS "rowmill.others" 1097) (zR 969))
def o971_1 : Obj := oT []
def o972_1 : Obj := oF []
def o973_1 : Obj := oT [(zS "self" 1387)]
def o974_1 : Obj := oT []
def o975_1 : Obj := oG (fG (inClass (top 36) 2) "alone" "Home.alone")
def o976_1 : Obj := oC "code" [(zS "alone" 1384), (zS "Home.alone" 1385), (zF 1386), (zI (367) 0), (zI (1) 0), (zI (0) 0), (zI (0) 0), (zI (3) 0), (zR 971), (.bool true), (zI (181) 0), (zR 972), zN, (zR 973), (zR 974), (zR 975), (zI (1388) 0), (zI (367) 0), (zF 1389)]
def o977_1 : Obj := oH (fH (inClass (top 36) 2) "alone" "Home.alone" zN zN (zS "rowmill.others" 1097) (zR 976))
def o978_1 : Obj := oT []
def o979_1 (P : Params) : Obj := oD [zE P "__module__" 1365 (zS "rowmill.others" 1097), zE P "__firstlineno__" 1369 (zI (359) 1368), zE P "op" 1376 (zR 963), zE P "told" 1383 (zR 970), zE P "alone" 1390 (zR 977), zE P "__static_attributes__" 1391 (zR 978), zE P "__doc__" 1392 zN] 2
def o980_1 : Obj := oK { name := Str.ofString "Home", bases := [(zR 172)], mro := [(zR 980), (zR 172), (.type "object")], ns := 979, qualname := Str.ofString "Home", hasDict := true, subclasses := [], abstract := false, hasDel := false } [some (zR 950), none, some (zS "Home" 1358), some (zS "Home" 1366), some (.builtin "object.__new__"), some (.bool true)]
def o981_1 : Obj := oC "super" [(zR 980), (zR 980), (zR 980)]
def o982_1 : Obj := oC "builtin_function_or_method" [(.builtin "object.__init_subclass__"), (zR 980)]
def o983_1 : Obj := oT []
def o984_1 : Obj := oF []
def o985_1 : Obj := oT [(zS "row" 1402), (zS "code" 1403), (zS "low" 1404), (zS "many" 1405), (zS "part" 1406)]
def o986_1 : Obj := oT []
def o987_1 : Obj := oG (fG (top 39) "code_of" "code_of")
def o988_1 : Obj := oC "code" [(zS "code_of" 1399), (zS "code_of" 1400), (zF 1401), (zI (371) 0), (zI (1) 0), (zI (0) 0), (zI (0) 0), (zI (3) 0), (zR 983), (.bool true), (zI (181) 0), (zR 984), zN, (zR 985), (zR 986), (zR 987), (zI (1407) 0), (zI (371) 0), (zF 1408)]
def o989_1 : Obj := oH (fH (top 39) "code_of" "code_of" zN zN (zS "rowmill.codes" 1395) (zR 988))
def o990_1 : Obj := oT []
def o991_1 : Obj := oF []
def o992_1 : Obj := oT [(zS "op" 1413), (zS "a" 1414), (zS "b" 1415), (zS "c" 1416), (zS "n" 1417)]
def o993_1 : Obj := oT []
def o994_1 : Obj := oG (fG (top 40) "reckoning_row" "reckoning_row")
def o995_1 : Obj := oC "code" [(zS "reckoning_row" 1410), (zS "reckoning_row" 1411), (zF 1412), (zI (376) 0), (zI (5) 0), (zI (0) 0), (zI (0) 0), (zI (3) 0), (zR 990), (.bool true), (zI (181) 0), (zR 991), zN, (zR 992), (zR 993), (zR 994), (zI (1418) 0), (zI (376) 0), (zF 1419)]
def o996_1 : Obj := oH (fH (top 40) "reckoning_row" "reckoning_row" zN zN (zS "rowmill.codes" 1395) (zR 995))
def o997_1 : Obj := oT []
def o998_1 : Obj := oF []
def o999_1 : Obj := oT [(zS "op" 1424), (zS "a" 1425), (zS "n" 1426)]
def o1000_1 : Obj := oT []
def o1001_1 : Obj := oG (fG (top 41) "jumping_row" "jumping_row")
def o1002_1 : Obj := oC "code" [(zS "jumping_row" 1421), (zS "jumping_row" 1422), (zF 1423), (zI (388) 0), (zI (3) 0), (zI (0) 0), (zI (0) 0), (zI (3) 0), (zR 997), (.bool true), (zI (181) 0), (zR 998), zN, (zR 999), (zR 1000), (zR 1001), (zI (1427) 0), (zI (388) 0), (zF 1428)]
def o1003_1 : Obj := oH (fH (top 41) "jumping_row" "jumping_row" zN zN (zS "rowmill.codes" 1395) (zR 1002))
def o1004_1 : Obj := oT []
def o1005_1 : Obj := oF []
def o1006_1 : Obj := oT [(zS "op" 1433), (zS "a" 1434)]
def o1007_1 : Obj := oT []
def o1008_1 : Obj := oG (fG (top 42) "other_row" "other_row")
def o1009_1 : Obj := oC "code" [(zS "other_row" 1430), (zS "other_row" 1431), (zF 1432), (zI (394) 0), (zI (2) 0), (zI (0) 0), (zI (0) 0), (zI (3) 0), (zR 1004), (.bool true), (zI (181) 0), (zR 1005), zN, (zR 1006), (zR 1007), (zR 1008), (zI (1435) 0), (zI (394) 0), (zF 1436)]
def o1010_1 : Obj := oH (fH (top 42) "other_row" "other_row" zN zN (zS "rowmill.codes" 1395) (zR 1009))
def o1011_1 : Obj := oT []
def o1012_1 : Obj := oF []
def o1013_1 : Obj := oT [(zS "code" 1441), (zS "op" 1442), (zS "a" 1443), (zS "n" 1444)]
def o1014_1 : Obj := oT []
def o1015_1 : Obj := oG (fG (top 43) "row_by" "row_by")
def o1016_1 : Obj := oC "code" [(zS "row_by" 1438), (zS "row_by" 1439), (zF 1440), (zI (406) 0), (zI (1) 0), (zI (0) 0), (zI (0) 0), (zI (3) 0), (zR 1011), (.bool true), (zI (181) 0), (zR 1012), zN, (zR 1013), (zR 1014), (zR 1015), (zI (1445) 0), (zI (406) 0), (zF 1446)]
def o1017_1 : Obj := oH (fH (top 43) "row_by" "row_by" zN zN (zS "rowmill.codes" 1395) (zR 1016))
def o1018_1 : Obj := oT []
def o1019_1 : Obj := oF []
def o1020_1 : Obj := oT [(zS "code" 1451), (zS "row" 1452)]
def o1021_1 : Obj := oT []
def o1022_1 : Obj := oG (fG (top 44) "row_of" "row_of")
def o1023_1 : Obj := oC "code" [(zS "row_of" 1448), (zS "row_of" 1449), (zF 1450), (zI (415) 0), (zI (1) 0), (zI (0) 0), (zI (0) 0), (zI (3) 0), (zR 1018), (.bool true), (zI (181) 0), (zR 1019), zN, (zR 1020), (zR 1021), (zR 1022), (zI (1453) 0), (zI (415) 0), (zF 1454)]
def o1024_1 : Obj := oH (fH (top 44) "row_of" "row_of" zN zN (zS "rowmill.codes" 1395) (zR 1023))
def o1025_1 : Obj := oT [(.type "ValueError")]
def o1026_1 : Obj := oC "builtin_function_or_method" [(.builtin "type.__prepare__"), (.type "type")]
def o1027_1 (P : Params) : Obj := oD [zE P "__module__" 1465 (zS "rowmill.errors" 1456), zE P "__qualname__" 1467 (zS "MillError" 1466), zE P "__firstlineno__" 1469 (zI (421) 1468), zE P "__static_attributes__" 1470 (zR 1032)] 4
def o1028_1 : Obj := oT []
def o1029_1 : Obj := oF []
def o1030_1 : Obj := oC "code" [(zS "MillError" 1460), (zS "MillError" 1461), (zF 1462), (zI (421) 0), (zI (0) 0), (zI (0) 0), (zI (0) 0), (zI (0) 0), (zR 1028), (.bool false), (zI (181) 0), (zR 1029), zN, zN, zN, zN, (zI (1463) 0), (zI (421) 0), (zF 1464)]
def o1031_1 : Obj := oP "frame" [some (zR 1030), some (zR 3), some (zR 1027), none, some (zS "rowmill.errors" 1456), none, some (zR 0)]
def o1032_1 : Obj := oT []
def o1033_1 (P : Params) : Obj := oD [zE P "__module__" 1465 (zS "rowmill.errors" 1456), zE P "__firstlineno__" 1469 (zI (421) 1468), zE P "__static_attributes__" 1470 (zR 1032), zE P "__weakref__" 1472 (zR 1035), zE P "__doc__" 1473 zN] 3
def o1034_1 : Obj := oK { name := Str.ofString "MillError", bases := [(.type "ValueError")], mro := [(zR 1034), (.type "ValueError"), (.type "Exception"), (.type "BaseException"), (.type "object")], ns := 1033, qualname := Str.ofString "MillError", hasDict := true, subclasses := [(zR 1047)], abstract := false, hasDel := false } [some (zR 1025), none, some (zS "MillError" 1458), some (zS "MillError" 1466), some (.builtin "ValueError.__new__"), some (.bool true)]
def o1035_1 : Obj := oC "getset_descriptor" [(zS "__weakref__" 1471), (zR 1034), (.builtin "ExceptionGroup.__weakref__"), zN]
def o1036_1 : Obj := oC "super" [(zR 1034), (zR 1034), (zR 1034)]
def o1037_1 : Obj := oC "builtin_function_or_method" [(.builtin "object.__init_subclass__"), (zR 1034)]
def o1038_1 : Obj := oT [(zR 1034)]
def o1039_1 : Obj := oC "builtin_function_or_method" [(.builtin "type.__prepare__"), (.type "type")]
def o1040_1 (P : Params) : Obj := oD [zE P "__module__" 1483 (zS "rowmill.errors" 1456), zE P "__qualname__" 1485 (zS "NoProgram" 1484), zE P "__firstlineno__" 1487 (zI (423) 1486), zE P "__static_attributes__" 1488 (zR 1045)] 4
def o1041_1 : Obj := oT []
def o1042_1 : Obj := oF []
def o1043_1 : Obj := oC "code" [(zS "NoProgram" 1478), (zS "NoProgram" 1479), (zF 1480), (zI (423) 0), (zI (0) 0), (zI (0) 0), (zI (0) 0), (zI (0) 0), (zR 1041), (.bool false), (zI (181) 0), (zR 1042), zN, zN, zN, zN, (zI (1481) 0), (zI (423) 0), (zF 1482)]
def o1044_1 : Obj := oP "frame" [some (zR 1043), some (zR 3), some (zR 1040), none, some (zS "rowmill.errors" 1456), none, some (zR 0)]
def o1045_1 : Obj := oT []
def o1046_1 (P : Params) : Obj := oD [zE P "__module__" 1483 (zS "rowmill.errors" 1456), zE P "__firstlineno__" 1487 (zI (423) 1486), zE P "__static_attributes__" 1488 (zR 1045), zE P "__doc__" 1489 zN] 2
def o1047_1 : Obj := oK { name := Str.ofString "NoProgram", bases := [(zR 1034)], mro := [(zR 1047), (zR 1034), (.type "ValueError"), (.type "Exception"), (.type "BaseException"), (.type "object")], ns := 1046, qualname := Str.ofString "NoProgram", hasDict := true, subclasses := [], abstract := false, hasDel := false } [some (zR 1038), none, some (zS "NoProgram" 1476), some (zS "NoProgram" 1484), some (.builtin "ValueError.__new__"), some (.bool true)]
def o1048_1 : Obj := oC "super" [(zR 1047), (zR 1047), (zR 1047)]
def o1049_1 : Obj := oC "builtin_function_or_method" [(.builtin "object.__init_subclass__"), (zR 1047)]
def o1050_1 : Obj := oT []
def o1051_1 : Obj := oF []
def o1052_1 : Obj := oT [(zS "thing" 1503), (zS "most" 1504)]
def o1053_1 : Obj := oT []
def o1054_1 : Obj := oG (fG (top 52) "is_whole" "is_whole")
def o1055_1 : Obj := oC "code" [(zS "is_whole" 1500), (zS "is_whole" 1501), (zF 1502), (zI (429) 0), (zI (2) 0), (zI (0) 0), (zI (0) 0), (zI (3) 0), (zR 1050), (.bool true), (zI (181) 0), (zR 1051), zN, (zR 1052), (zR 1053), (zR 1054), (zI (1505) 0), (zI (429) 0), (zF 1506)]
def o1056_1 : Obj := oH (fH (top 52) "is_whole" "is_whole" zN zN (zS "rowmill.programs" 1492) (zR 1055))
def o1057_1 : Obj := oT []
def o1058_1 : Obj := oC "builtin_function_or_method" [(.builtin "type.__prepare__"), (.type "type")]
def o1059_1 (P : Params) : Obj := oD [zE P "__module__" 1515 (zS "rowmill.programs" 1492), zE P "__qualname__" 1517 (zS "Program" 1516), zE P "__firstlineno__" 1519 (zI (431) 1518), zE P "__init__" 1525 (zR 1069), zE P "row_at" 1533 (zR 1076), zE P "cause_at" 1541 (zR 1083), zE P "__static_attributes__" 1544 (zR 1084)] 7
def o1060_1 : Obj := oT []
def o1061_1 : Obj := oF [(zI (433) 0), (zI (4) 0), (zR 1068), (zI (443) 0), (zI (4) 0), (zR 1075), (zI (448) 0), (zI (4) 0), (zR 1082)]
def o1062_1 : Obj := oC "code" [(zS "Program" 1510), (zS "Program" 1511), (zF 1512), (zI (431) 0), (zI (0) 0), (zI (0) 0), (zI (0) 0), (zI (0) 0), (zR 1060), (.bool false), (zI (181) 0), (zR 1061), zN, zN, zN, zN, (zI (1513) 0), (zI (431) 0), (zF 1514)]
def o1063_1 : Obj := oP "frame" [some (zR 1062), some (zR 3), some (zR 1059), none, some (zS "rowmill.programs" 1492), none, some (zR 0)]
def o1064_1 : Obj := oT [zN]
def o1065_1 : Obj := oT []
def o1066_1 : Obj := oF []
def o1067_1 : Obj := oG (fG (inClass (top 53) 0) "__init__" "Program.__init__")
def o1068_1 : Obj := oC "code" [(zS "__init__" 1520), (zS "Program.__init__" 1521), (zF 1522), (zI (433) 0), (zI (3) 0), (zI (0) 0), (zI (0) 0), (zI (3) 0), (zR 1065), (.bool true), (zI (181) 0), (zR 1066), zN, zN, zN, (zR 1067), (zI (1523) 0), (zI (433) 0), (zF 1524)]
def o1069_1 : Obj := oH (fH (inClass (top 53) 0) "__init__" "Program.__init__" (zR 1064) zN (zS "rowmill.programs" 1492) (zR 1068))
def o1070_1 : Obj := oT []
def o1071_1 : Obj := oF []
def o1072_1 : Obj := oT [(zS "self" 1529), (zS "place" 1530)]
def o1073_1 : Obj := oT []
def o1074_1 : Obj := oG (fG (inClass (top 53) 1) "row_at" "Program.row_at")
def o1075_1 : Obj := oC "code" [(zS "row_at" 1526), (zS "Program.row_at" 1527), (zF 1528), (zI (443) 0), (zI (2) 0), (zI (0) 0), (zI (0) 0), (zI (3) 0), (zR 1070), (.bool true), (zI (181) 0), (zR 1071), zN, (zR 1072), (zR 1073), (zR 1074), (zI (1531) 0), (zI (443) 0), (zF 1532)]
def o1076_1 : Obj := oH (fH (inClass (top 53) 1) "row_at" "Program.row_at" zN zN (zS "rowmill.programs" 1492) (zR 1075))
def o1077_1 : Obj := oT []
def o1078_1 : Obj := oF []
def o1079_1 : Obj := oT [(zS "self" 1537), (zS "place" 1538)]
def o1080_1 : Obj := oT []
def o1081_1 : Obj := oG (fG (inClass (top 53) 2) "cause_at" "Program.cause_at")
def o1082_1 : Obj := oC "code" [(zS "cause_at" 1534), (zS "Program.cause_at" 1535), (zF 1536), (zI (448) 0), (zI (2) 0), (zI (0) 0), (zI (0) 0), (zI (3) 0), (zR 1077), (.bool true), (zI (181) 0), (zR 1078), zN, (zR 1079), (zR 1080), (zR 1081), (zI (1539) 0), (zI (448) 0), (zF 1540)]
def o1083_1 : Obj := oH (fH (inClass (top 53) 2) "cause_at" "Program.cause_at" zN zN (zS "rowmill.programs" 1492) (zR 1082))
def o1084_1 : Obj := oT [(zS "codes" 1542), (zS "hall" 1543)]
def o1085_1 (P : Params) : Obj := oD [zE P "__module__" 1515 (zS "rowmill.programs" 1492), zE P "__firstlineno__" 1519 (zI (431) 1518), zE P "__init__" 1525 (zR 1069), zE P "row_at" 1533 (zR 1076), zE P "cause_at" 1541 (zR 1083), zE P "__static_attributes__" 1544 (zR 1084), zE P "__dict__" 1546 (zR 1087), zE P "__weakref__" 1548 (zR 1088), zE P "__doc__" 1549 zN] 4
def o1086_1 : Obj := oK { name := Str.ofString "Program", bases := [(.type "object")], mro := [(zR 1086), (.type "object")], ns := 1085, qualname := Str.ofString "Program", hasDict := true, subclasses := [], abstract := false, hasDel := false } [none, none, some (zS "Program" 1508), some (zS "Program" 1516), some (.builtin "object.__new__"), some (.bool true)]
def o1087_1 : Obj := oC "getset_descriptor" [(zS "__dict__" 1545), (zR 1086), (.builtin "function.__dict__"), (.builtin "function.__dict__#set")]
def o1088_1 : Obj := oC "getset_descriptor" [(zS "__weakref__" 1547), (zR 1086), (.builtin "ExceptionGroup.__weakref__"), zN]
def o1089_1 : Obj := oC "super" [(zR 1086), (zR 1086), (zR 1086)]
def o1090_1 : Obj := oC "builtin_function_or_method" [(.builtin "object.__init_subclass__"), (zR 1086)]
def o1091_1 : Obj := oT []
def o1092_1 : Obj := oF []
def o1093_1 : Obj := oT [(zS "_law_script" 1557), (zS "_law_k" 1558), (zS "_law_cell_here" 1559), (zS "_law_more" 1560)]
def o1094_1 : Obj := oT []
def o1095_1 : Obj := oG (fG (top 55) "_law_cell" "_law_cell")
def o1096_1 : Obj := oC "code" [(zS "_law_cell" 1554), (zS "_law_cell" 1555), (zF 1556), (zI (451) 0), (zI (2) 0), (zI (0) 0), (zI (0) 0), (zI (3) 0), (zR 1091), (.bool true), (zI (181) 0), (zR 1092), zN, (zR 1093), (zR 1094), (zR 1095), (zI (1561) 0), (zI (451) 0), (zF 1562)]
def o1097_1 : Obj := oH (fH (top 55) "_law_cell" "_law_cell" zN zN (zS "law_rowmill_k22_programs_written" 1552) (zR 1096))
def o1098_1 : Obj := oT []
def o1099_1 : Obj := oF []
def o1100_1 : Obj := oT [(zS "_law_some" 1567)]
def o1101_1 : Obj := oT []
def o1102_1 : Obj := oG (fG (top 56) "_law_words" "_law_words")
def o1103_1 : Obj := oC "code" [(zS "_law_words" 1564), (zS "_law_words" 1565), (zF 1566), (zI (459) 0), (zI (0) 0), (zI (0) 0), (zI (0) 0), (zI (3) 0), (zR 1098), (.bool true), (zI (181) 0), (zR 1099), zN, (zR 1100), (zR 1101), (zR 1102), (zI (1568) 0), (zI (459) 0), (zF 1569)]
def o1104_1 : Obj := oH (fH (top 56) "_law_words" "_law_words" zN zN (zS "law_rowmill_k22_programs_written" 1552) (zR 1103))
def o1105_1 : Obj := oT []
def o1106_1 : Obj := oF []
def o1107_1 : Obj := oT [(zS "_law_word" 1574), (zS "_law_at" 1575)]
def o1108_1 : Obj := oT []
def o1109_1 : Obj := oG (fG (top 57) "_law_shape" "_law_shape")
def o1110_1 : Obj := oC "code" [(zS "_law_shape" 1571), (zS "_law_shape" 1572), (zF 1573), (zI (463) 0), (zI (1) 0), (zI (0) 0), (zI (0) 0), (zI (3) 0), (zR 1105), (.bool true), (zI (181) 0), (zR 1106), zN, (zR 1107), (zR 1108), (zR 1109), (zI (1576) 0), (zI (463) 0), (zF 1577)]
def o1111_1 : Obj := oH (fH (top 57) "_law_shape" "_law_shape" zN zN (zS "law_rowmill_k22_programs_written" 1552) (zR 1110))
def o1112_1 : Obj := oT []
def o1113_1 : Obj := oF []
def o1114_1 : Obj := oT [(zS "_law_mark" 1582), (zS "_law_cell_here" 1583)]
def o1115_1 : Obj := oT []
def o1116_1 : Obj := oG (fG (top 58) "_law_part_by" "_law_part_by")
def o1117_1 : Obj := oC "code" [(zS "_law_part_by" 1579), (zS "_law_part_by" 1580), (zF 1581), (zI (472) 0), (zI (2) 0), (zI (0) 0), (zI (0) 0), (zI (3) 0), (zR 1112), (.bool true), (zI (181) 0), (zR 1113), zN, (zR 1114), (zR 1115), (zR 1116), (zI (1584) 0), (zI (472) 0), (zF 1585)]
def o1118_1 : Obj := oH (fH (top 58) "_law_part_by" "_law_part_by" zN zN (zS "law_rowmill_k22_programs_written" 1552) (zR 1117))
def o1119_1 : Obj := oT []
def o1120_1 : Obj := oF []
def o1121_1 : Obj := oG (fG (top 59) "_law_told_by" "_law_told_by")
def o1122_1 : Obj := oC "code" [(zS "_law_told_by" 1587), (zS "_law_told_by" 1588), (zF 1589), (zI (478) 0), (zI (2) 0), (zI (0) 0), (zI (0) 0), (zI (3) 0), (zR 1119), (.bool true), (zI (181) 0), (zR 1120), zN, zN, zN, (zR 1121), (zI (1590) 0), (zI (478) 0), (zF 1591)]
def o1123_1 : Obj := oH (fH (top 59) "_law_told_by" "_law_told_by" zN zN (zS "law_rowmill_k22_programs_written" 1552) (zR 1122))
def o1124_1 : Obj := oT []
def o1125_1 : Obj := oF []
def o1126_1 : Obj := oT [(zS "_law_told" 1596), (zS "_law_shape_here" 1597), (zS "_law_code_here" 1598), (zS "_law_j" 1599)]
def o1127_1 : Obj := oT []
def o1128_1 : Obj := oG (fG (top 60) "_law_code" "_law_code")
def o1129_1 : Obj := oC "code" [(zS "_law_code" 1593), (zS "_law_code" 1594), (zF 1595), (zI (483) 0), (zI (1) 0), (zI (0) 0), (zI (0) 0), (zI (3) 0), (zR 1124), (.bool true), (zI (181) 0), (zR 1125), zN, (zR 1126), (zR 1127), (zR 1128), (zI (1600) 0), (zI (483) 0), (zF 1601)]
def o1130_1 : Obj := oH (fH (top 60) "_law_code" "_law_code" zN zN (zS "law_rowmill_k22_programs_written" 1552) (zR 1129))
def o1131_1 : Obj := oT []
def o1132_1 : Obj := oF []
def o1133_1 : Obj := oT [(zS "_law_told" 1606), (zS "_law_shape_here" 1607), (zS "_law_words_here" 1608), (zS "_law_j" 1609)]
def o1134_1 : Obj := oT []
def o1135_1 : Obj := oG (fG (top 61) "_law_line" "_law_line")
def o1136_1 : Obj := oC "code" [(zS "_law_line" 1603), (zS "_law_line" 1604), (zF 1605), (zI (492) 0), (zI (1) 0), (zI (0) 0), (zI (0) 0), (zI (3) 0), (zR 1131), (.bool true), (zI (181) 0), (zR 1132), zN, (zR 1133), (zR 1134), (zR 1135), (zI (1610) 0), (zI (492) 0), (zF 1611)]
def o1137_1 : Obj := oH (fH (top 61) "_law_line" "_law_line" zN zN (zS "law_rowmill_k22_programs_written" 1552) (zR 1136))
def o1138_1 : Obj := oT []
def o1139_1 : Obj := oF []
def o1140_1 : Obj := oT [(zS "_law_script" 1616), (zS "_law_most" 1617), (zS "_law_many" 1618), (zS "_law_codes_here" 1619), (zS "_law_k" 1620), (zS "_law_more" 1621), (zS "_law_code_here" 1622)]
def o1141_1 : Obj := oT []
def o1142_1 : Obj := oG (fG (top 62) "_law_codes" "_law_codes")
def o1143_1 : Obj := oC "code" [(zS "_law_codes" 1613), (zS "_law_codes" 1614), (zF 1615), (zI (498) 0), (zI (2) 0), (zI (0) 0), (zI (0) 0), (zI (3) 0), (zR 1138), (.bool true), (zI (181) 0), (zR 1139), zN, (zR 1140), (zR 1141), (zR 1142), (zI (1623) 0), (zI (498) 0), (zF 1624)]
def o1144_1 : Obj := oH (fH (top 62) "_law_codes" "_law_codes" zN zN (zS "law_rowmill_k22_programs_written" 1552) (zR 1143))
def o1145_1 : Obj := oT []
def o1146_1 : Obj := oF []
def o1147_1 : Obj := oT [(zS "_law_script" 1629)]
def o1148_1 : Obj := oT []
def o1149_1 : Obj := oG (fG (top 63) "_law_hall" "_law_hall")
def o1150_1 : Obj := oC "code" [(zS "_law_hall" 1626), (zS "_law_hall" 1627), (zF 1628), (zI (510) 0), (zI (1) 0), (zI (0) 0), (zI (0) 0), (zI (3) 0), (zR 1145), (.bool true), (zI (181) 0), (zR 1146), zN, (zR 1147), (zR 1148), (zR 1149), (zI (1630) 0), (zI (510) 0), (zF 1631)]
def o1151_1 : Obj := oH (fH (top 63) "_law_hall" "_law_hall" zN zN (zS "law_rowmill_k22_programs_written" 1552) (zR 1150))
def o1152_1 : Obj := oT []
def o1153_1 : Obj := oF []
def o1154_1 : Obj := oG (fG (top 64) "law" "law")
def o1155_1 : Obj := oC "code" [(zS "law" 1633), (zS "law" 1634), (zF 1635), (zI (512) 0), (zI (1) 0), (zI (0) 0), (zI (0) 0), (zI (3) 0), (zR 1152), (.bool true), (zI (181) 0), (zR 1153), zN, zN, zN, (zR 1154), (zI (1636) 0), (zI (512) 0), (zF 1637)]
def o1156_1 : Obj := oH (fH (top 64) "law" "law" zN zN (zS "law_rowmill_k22_programs_written" 1552) (zR 1155))
noncomputable def tr_1 (P : Params) : PySem.W.BT := (.node (boot_o_0 P) (.node (boot_o_1 P) (.node (o3_1 P) (.node (boot_o_7 P) (.node o15_0 (.node o31_0 (.node o63_0 (.node o127_0 (.node o255_0 (.node o511_0 (.node o1023_1 .nil .nil) .nil) (.node o767_1 .nil .nil)) (.node o383_0 (.node o639_1 (.node o1151_1 .nil .nil) .nil) (.node o895_1 .nil .nil))) (.node o191_0 (.node o319_0 (.node o575_0 (.node o1087_1 .nil .nil) .nil) (.node o831_1 .nil .nil)) (.node o447_0 (.node o703_1 .nil .nil) (.node o959_1 .nil .nil)))) (.node o95_0 (.node o159_0 (.node o287_0 (.node o543_0 (.node o1055_1 .nil .nil) .nil) (.node (o799_1 P) .nil .nil)) (.node o415_0 (.node o671_1 .nil .nil) (.node o927_1 .nil .nil))) (.node o223_0 (.node o351_0 (.node o607_1 (.node o1119_1 .nil .nil) .nil) (.node o863_1 .nil .nil)) (.node o479_0 (.node o735_1 .nil .nil) (.node o991_1 .nil .nil))))) (.node o47_0 (.node o79_0 (.node o143_0 (.node o271_0 (.node o527_0 (.node o1039_1 .nil .nil) .nil) (.node o783_1 .nil .nil)) (.node o399_0 (.node o655_1 .nil .nil) (.node o911_1 .nil .nil))) (.node o207_0 (.node o335_0 (.node o591_0 (.node o1103_1 .nil .nil) .nil) (.node o847_1 .nil .nil)) (.node o463_0 (.node (o719_1 P) .nil .nil) (.node o975_1 .nil .nil)))) (.node o111_0 (.node o175_0 (.node o303_0 (.node o559_0 (.node o1071_1 .nil .nil) .nil) (.node o815_1 .nil .nil)) (.node o431_0 (.node o687_1 .nil .nil) (.node o943_1 .nil .nil))) (.node o239_0 (.node o367_0 (.node o623_1 (.node o1135_1 .nil .nil) .nil) (.node o879_1 .nil .nil)) (.node o495_0 (.node o751_1 .nil .nil) (.node o1007_1 .nil .nil)))))) (.node (o23_0 P) (.node o39_0 (.node o71_0 (.node o135_0 (.node o263_0 (.node o519_0 (.node o1031_1 .nil .nil) .nil) (.node o775_1 .nil .nil)) (.node o391_0 (.node o647_1 .nil .nil) (.node o903_1 .nil .nil))) (.node o199_0 (.node o327_0 (.node o583_0 (.node o1095_1 .nil .nil) .nil) (.node o839_1 .nil .nil)) (.node o455_0 (.node o711_1 .nil .nil) (.node o967_1 .nil .nil)))) (.node o103_0 (.node o167_0 (.node o295_0 (.node o551_0 (.node o1063_1 .nil .nil) .nil) (.node o807_1 .nil .nil)) (.node o423_0 (.node o679_1 .nil .nil) (.node o935_1 .nil .nil))) (.node o231_0 (.node o359_0 (.node o615_1 (.node o1127_1 .nil .nil) .nil) (.node o871_1 .nil .nil)) (.node o487_0 (.node o743_1 .nil .nil) (.node o999_1 .nil .nil))))) (.node o55_0 (.node o87_0 (.node o151_0 (.node o279_0 (.node o535_0 (.node o1047_1 .nil .nil) .nil) (.node o791_1 .nil .nil)) (.node o407_0 (.node o663_1 .nil .nil) (.node o919_1 .nil .nil))) (.node o215_0 (.node o343_0 (.node o599_0 (.node o1111_1 .nil .nil) .nil) (.node o855_1 .nil .nil)) (.node o471_0 (.node o727_1 .nil .nil) (.node o983_1 .nil .nil)))) (.node o119_0 (.node o183_0 (.node o311_0 (.node o567_0 (.node o1079_1 .nil .nil) .nil) (.node o823_1 .nil .nil)) (.node o439_0 (.node o695_1 .nil .nil) (.node o951_1 .nil .nil))) (.node o247_0 (.node (o375_0 P) (.node o631_1 (.node o1143_1 .nil .nil) .nil) (.node o887_1 .nil .nil)) (.node (o503_0 P) (.node o759_1 .nil .nil) (.node o1015_1 .nil .nil))))))) (.node o11_a (.node o19_0 (.node o35_0 (.node o67_0 (.node o131_0 (.node o259_0 (.node o515_0 (.node (o1027_1 P) .nil .nil) .nil) (.node o771_1 .nil .nil)) (.node o387_0 (.node o643_1 (.node o1155_1 .nil .nil) .nil) (.node o899_1 .nil .nil))) (.node o195_0 (.node o323_0 (.node o579_0 (.node o1091_1 .nil .nil) .nil) (.node o835_1 .nil .nil)) (.node o451_0 (.node o707_1 .nil .nil) (.node o963_1 .nil .nil)))) (.node o99_0 (.node o163_0 (.node o291_0 (.node o547_0 (.node (o1059_1 P) .nil .nil) .nil) (.node o803_1 .nil .nil)) (.node o419_0 (.node o675_1 .nil .nil) (.node o931_1 .nil .nil))) (.node o227_0 (.node o355_0 (.node o611_1 (.node o1123_1 .nil .nil) .nil) (.node o867_1 .nil .nil)) (.node o483_0 (.node o739_1 .nil .nil) (.node o995_1 .nil .nil))))) (.node o51_0 (.node o83_0 (.node o147_0 (.node o275_0 (.node o531_0 (.node o1043_1 .nil .nil) .nil) (.node o787_1 .nil .nil)) (.node o403_0 (.node (o659_1 P) .nil .nil) (.node o915_1 .nil .nil))) (.node o211_0 (.node o339_0 (.node o595_0 (.node o1107_1 .nil .nil) .nil) (.node o851_1 .nil .nil)) (.node o467_0 (.node o723_1 .nil .nil) (.node (o979_1 P) .nil .nil)))) (.node o115_0 (.node (o179_0 P) (.node (o307_0 P) (.node o563_0 (.node o1075_1 .nil .nil) .nil) (.node o819_1 .nil .nil)) (.node o435_0 (.node o691_1 .nil .nil) (.node o947_1 .nil .nil))) (.node o243_0 (.node o371_0 (.node o627_1 (.node o1139_1 .nil .nil) .nil) (.node o883_1 .nil .nil)) (.node o499_0 (.node o755_1 .nil .nil) (.node o1011_1 .nil .nil)))))) (.node o27_0 (.node o43_0 (.node o75_0 (.node o139_0 (.node o267_0 (.node o523_0 (.node o1035_1 .nil .nil) .nil) (.node o779_1 .nil .nil)) (.node o395_0 (.node o651_1 .nil .nil) (.node o907_1 .nil .nil))) (.node o203_0 (.node o331_0 (.node o587_0 (.node o1099_1 .nil .nil) .nil) (.node o843_1 .nil .nil)) (.node o459_0 (.node o715_1 .nil .nil) (.node o971_1 .nil .nil)))) (.node o107_0 (.node (o171_0 P) (.node o299_0 (.node o555_0 (.node o1067_1 .nil .nil) .nil) (.node o811_1 .nil .nil)) (.node o427_0 (.node o683_1 .nil .nil) (.node o939_1 .nil .nil))) (.node o235_0 (.node o363_0 (.node o619_1 (.node o1131_1 .nil .nil) .nil) (.node o875_1 .nil .nil)) (.node o491_0 (.node o747_1 .nil .nil) (.node o1003_1 .nil .nil))))) (.node o59_0 (.node o91_0 (.node o155_0 (.node o283_0 (.node o539_0 (.node o1051_1 .nil .nil) .nil) (.node o795_1 .nil .nil)) (.node o411_0 (.node o667_1 .nil .nil) (.node o923_1 .nil .nil))) (.node o219_0 (.node o347_0 (.node o603_1 (.node o1115_1 .nil .nil) .nil) (.node o859_1 .nil .nil)) (.node o475_0 (.node o731_1 .nil .nil) (.node o987_1 .nil .nil)))) (.node o123_0 (.node o187_0 (.node o315_0 (.node o571_0 (.node o1083_1 .nil .nil) .nil) (.node o827_1 .nil .nil)) (.node (o443_0 P) (.node o699_1 .nil .nil) (.node o955_1 .nil .nil))) (.node o251_0 (.node o379_0 (.node o635_1 (.node o1147_1 .nil .nil) .nil) (.node o891_1 .nil .nil)) (.node o507_0 (.node o763_1 .nil .nil) (.node o1019_1 .nil .nil)))))))) (.node (boot_o_5 P) (.node (boot_o_9 P) (.node o17_0 (.node o33_0 (.node o65_0 (.node o129_0 (.node o257_0 (.node o513_0 (.node o1025_1 .nil .nil) .nil) (.node o769_1 .nil .nil)) (.node o385_0 (.node o641_1 (.node o1153_1 .nil .nil) .nil) (.node o897_1 .nil .nil))) (.node o193_0 (.node o321_0 (.node o577_0 (.node o1089_1 .nil .nil) .nil) (.node o833_1 .nil .nil)) (.node (o449_0 P) (.node o705_1 .nil .nil) (.node o961_1 .nil .nil)))) (.node o97_0 (.node o161_0 (.node o289_0 (.node o545_0 (.node o1057_1 .nil .nil) .nil) (.node o801_1 .nil .nil)) (.node o417_0 (.node o673_1 .nil .nil) (.node o929_1 .nil .nil))) (.node o225_0 (.node o353_0 (.node o609_1 (.node o1121_1 .nil .nil) .nil) (.node o865_1 .nil .nil)) (.node o481_0 (.node o737_1 .nil .nil) (.node o993_1 .nil .nil))))) (.node o49_0 (.node (o81_0 P) (.node o145_0 (.node o273_0 (.node o529_0 (.node o1041_1 .nil .nil) .nil) (.node o785_1 .nil .nil)) (.node o401_0 (.node o657_1 .nil .nil) (.node o913_1 .nil .nil))) (.node o209_0 (.node o337_0 (.node o593_0 (.node o1105_1 .nil .nil) .nil) (.node o849_1 .nil .nil)) (.node o465_0 (.node o721_1 .nil .nil) (.node o977_1 .nil .nil)))) (.node o113_0 (.node o177_0 (.node o305_0 (.node o561_0 (.node o1073_1 .nil .nil) .nil) (.node o817_1 .nil .nil)) (.node o433_0 (.node o689_1 .nil .nil) (.node o945_1 .nil .nil))) (.node o241_0 (.node o369_0 (.node o625_1 (.node o1137_1 .nil .nil) .nil) (.node o881_1 .nil .nil)) (.node (o497_0 P) (.node o753_1 .nil .nil) (.node o1009_1 .nil .nil)))))) (.node o25_0 (.node o41_0 (.node o73_0 (.node o137_0 (.node o265_0 (.node o521_0 (.node (o1033_1 P) .nil .nil) .nil) (.node o777_1 .nil .nil)) (.node o393_0 (.node o649_1 .nil .nil) (.node o905_1 .nil .nil))) (.node o201_0 (.node o329_0 (.node o585_0 (.node o1097_1 .nil .nil) .nil) (.node o841_1 .nil .nil)) (.node o457_0 (.node (o713_1 P) .nil .nil) (.node o969_1 .nil .nil)))) (.node o105_0 (.node o169_0 (.node o297_0 (.node o553_0 (.node o1065_1 .nil .nil) .nil) (.node o809_1 .nil .nil)) (.node o425_0 (.node o681_1 .nil .nil) (.node o937_1 .nil .nil))) (.node o233_0 (.node o361_0 (.node o617_1 (.node o1129_1 .nil .nil) .nil) (.node o873_1 .nil .nil)) (.node o489_0 (.node o745_1 .nil .nil) (.node o1001_1 .nil .nil))))) (.node o57_0 (.node o89_0 (.node o153_0 (.node o281_0 (.node o537_0 (.node o1049_1 .nil .nil) .nil) (.node (o793_1 P) .nil .nil)) (.node o409_0 (.node (o665_1 P) .nil .nil) (.node o921_1 .nil .nil))) (.node o217_0 (.node o345_0 (.node o601_0 (.node o1113_1 .nil .nil) .nil) (.node o857_1 .nil .nil)) (.node o473_0 (.node o729_1 .nil .nil) (.node o985_1 .nil .nil)))) (.node o121_0 (.node o185_0 (.node (o313_0 P) (.node o569_0 (.node o1081_1 .nil .nil) .nil) (.node o825_1 .nil .nil)) (.node o441_0 (.node o697_1 .nil .nil) (.node o953_1 .nil .nil))) (.node o249_0 (.node o377_0 (.node o633_1 (.node o1145_1 .nil .nil) .nil) (.node o889_1 .nil .nil)) (.node o505_0 (.node o761_1 .nil .nil) (.node o1017_1 .nil .nil))))))) (.node o13_a (.node o21_0 (.node o37_0 (.node o69_0 (.node o133_0 (.node o261_0 (.node o517_0 (.node o1029_1 .nil .nil) .nil) (.node o773_1 .nil .nil)) (.node o389_0 (.node o645_1 .nil .nil) (.node o901_1 .nil .nil))) (.node o197_0 (.node o325_0 (.node o581_0 (.node o1093_1 .nil .nil) .nil) (.node o837_1 .nil .nil)) (.node o453_0 (.node o709_1 .nil .nil) (.node o965_1 .nil .nil)))) (.node o101_0 (.node o165_0 (.node o293_0 (.node o549_0 (.node o1061_1 .nil .nil) .nil) (.node o805_1 .nil .nil)) (.node o421_0 (.node o677_1 .nil .nil) (.node o933_1 .nil .nil))) (.node o229_0 (.node o357_0 (.node o613_1 (.node o1125_1 .nil .nil) .nil) (.node o869_1 .nil .nil)) (.node o485_0 (.node o741_1 .nil .nil) (.node o997_1 .nil .nil))))) (.node o53_0 (.node o85_0 (.node o149_0 (.node o277_0 (.node o533_0 (.node o1045_1 .nil .nil) .nil) (.node o789_1 .nil .nil)) (.node o405_0 (.node o661_1 .nil .nil) (.node o917_1 .nil .nil))) (.node o213_0 (.node o341_0 (.node o597_0 (.node o1109_1 .nil .nil) .nil) (.node o853_1 .nil .nil)) (.node o469_0 (.node o725_1 .nil .nil) (.node o981_1 .nil .nil)))) (.node o117_0 (.node o181_0 (.node o309_0 (.node o565_0 (.node o1077_1 .nil .nil) .nil) (.node o821_1 .nil .nil)) (.node o437_0 (.node o693_1 .nil .nil) (.node o949_1 .nil .nil))) (.node o245_0 (.node o373_0 (.node o629_1 (.node o1141_1 .nil .nil) .nil) (.node o885_1 .nil .nil)) (.node o501_0 (.node o757_1 .nil .nil) (.node o1013_1 .nil .nil)))))) (.node o29_0 (.node o45_0 (.node o77_0 (.node o141_0 (.node o269_0 (.node o525_0 (.node o1037_1 .nil .nil) .nil) (.node o781_1 .nil .nil)) (.node o397_0 (.node o653_1 .nil .nil) (.node o909_1 .nil .nil))) (.node o205_0 (.node o333_0 (.node o589_0 (.node o1101_1 .nil .nil) .nil) (.node o845_1 .nil .nil)) (.node o461_0 (.node o717_1 .nil .nil) (.node o973_1 .nil .nil)))) (.node o109_0 (.node o173_0 (.node o301_0 (.node o557_0 (.node o1069_1 .nil .nil) .nil) (.node o813_1 .nil .nil)) (.node o429_0 (.node o685_1 .nil .nil) (.node o941_1 .nil .nil))) (.node o237_0 (.node o365_0 (.node o621_1 (.node o1133_1 .nil .nil) .nil) (.node o877_1 .nil .nil)) (.node o493_0 (.node o749_1 .nil .nil) (.node o1005_1 .nil .nil))))) (.node o61_0 (.node o93_0 (.node o157_0 (.node o285_0 (.node o541_0 (.node o1053_1 .nil .nil) .nil) (.node o797_1 .nil .nil)) (.node o413_0 (.node o669_1 .nil .nil) (.node o925_1 .nil .nil))) (.node o221_0 (.node o349_0 (.node o605_1 (.node o1117_1 .nil .nil) .nil) (.node o861_1 .nil .nil)) (.node o477_0 (.node o733_1 .nil .nil) (.node o989_1 .nil .nil)))) (.node o125_0 (.node o189_0 (.node o317_0 (.node o573_0 (.node (o1085_1 P) .nil .nil) .nil) (.node o829_1 .nil .nil)) (.node o445_0 (.node o701_1 .nil .nil) (.node o957_1 .nil .nil))) (.node o253_0 (.node (o381_0 P) (.node o637_1 (.node o1149_1 .nil .nil) .nil) (.node o893_1 .nil .nil)) (.node o509_0 (.node o765_1 .nil .nil) (.node o1021_1 .nil .nil))))))))) (.node (boot_o_2 P) (.node (boot_o_4 P) (.node (boot_o_8 P) (.node o16_0 (.node o32_0 (.node o64_0 (.node o128_0 (.node o256_0 (.node o512_0 (.node o1024_1 .nil .nil) .nil) (.node o768_1 .nil .nil)) (.node o384_0 (.node o640_1 (.node o1152_1 .nil .nil) .nil) (.node o896_1 .nil .nil))) (.node (o192_0 P) (.node o320_0 (.node o576_0 (.node o1088_1 .nil .nil) .nil) (.node (o832_1 P) .nil .nil)) (.node o448_0 (.node o704_1 .nil .nil) (.node o960_1 .nil .nil)))) (.node o96_0 (.node o160_0 (.node o288_0 (.node (o544_0 P) (.node o1056_1 .nil .nil) .nil) (.node o800_1 .nil .nil)) (.node o416_0 (.node o672_1 .nil .nil) (.node o928_1 .nil .nil))) (.node o224_0 (.node o352_0 (.node o608_1 (.node o1120_1 .nil .nil) .nil) (.node o864_1 .nil .nil)) (.node o480_0 (.node o736_1 .nil .nil) (.node o992_1 .nil .nil))))) (.node o48_0 (.node o80_0 (.node o144_0 (.node o272_0 (.node o528_0 (.node (o1040_1 P) .nil .nil) .nil) (.node o784_1 .nil .nil)) (.node o400_0 (.node o656_1 .nil .nil) (.node (o912_1 P) .nil .nil))) (.node o208_0 (.node o336_0 (.node o592_0 (.node o1104_1 .nil .nil) .nil) (.node o848_1 .nil .nil)) (.node o464_0 (.node o720_1 .nil .nil) (.node o976_1 .nil .nil)))) (.node o112_0 (.node o176_0 (.node o304_0 (.node o560_0 (.node o1072_1 .nil .nil) .nil) (.node o816_1 .nil .nil)) (.node o432_0 (.node o688_1 .nil .nil) (.node o944_1 .nil .nil))) (.node o240_0 (.node o368_0 (.node o624_1 (.node o1136_1 .nil .nil) .nil) (.node o880_1 .nil .nil)) (.node o496_0 (.node o752_1 .nil .nil) (.node o1008_1 .nil .nil)))))) (.node o24_0 (.node o40_0 (.node o72_0 (.node o136_0 (.node o264_0 (.node o520_0 (.node o1032_1 .nil .nil) .nil) (.node o776_1 .nil .nil)) (.node o392_0 (.node o648_1 .nil .nil) (.node o904_1 .nil .nil))) (.node o200_0 (.node o328_0 (.node o584_0 (.node o1096_1 .nil .nil) .nil) (.node o840_1 .nil .nil)) (.node o456_0 (.node o712_1 .nil .nil) (.node o968_1 .nil .nil)))) (.node o104_0 (.node o168_0 (.node o296_0 (.node o552_0 (.node o1064_1 .nil .nil) .nil) (.node o808_1 .nil .nil)) (.node o424_0 (.node o680_1 .nil .nil) (.node o936_1 .nil .nil))) (.node o232_0 (.node o360_0 (.node o616_1 (.node o1128_1 .nil .nil) .nil) (.node (o872_1 P) .nil .nil)) (.node o488_0 (.node o744_1 .nil .nil) (.node o1000_1 .nil .nil))))) (.node o56_0 (.node o88_0 (.node o152_0 (.node o280_0 (.node o536_0 (.node o1048_1 .nil .nil) .nil) (.node o792_1 .nil .nil)) (.node o408_0 (.node o664_1 .nil .nil) (.node o920_1 .nil .nil))) (.node o216_0 (.node o344_0 (.node o600_0 (.node o1112_1 .nil .nil) .nil) (.node o856_1 .nil .nil)) (.node o472_0 (.node o728_1 .nil .nil) (.node o984_1 .nil .nil)))) (.node o120_0 (.node o184_0 (.node o312_0 (.node o568_0 (.node o1080_1 .nil .nil) .nil) (.node o824_1 .nil .nil)) (.node o440_0 (.node o696_1 .nil .nil) (.node (o952_1 P) .nil .nil))) (.node o248_0 (.node o376_0 (.node o632_1 (.node o1144_1 .nil .nil) .nil) (.node o888_1 .nil .nil)) (.node o504_0 (.node (o760_1 P) .nil .nil) (.node o1016_1 .nil .nil))))))) (.node o12_1 (.node o20_0 (.node o36_0 (.node o68_0 (.node o132_0 (.node o260_0 (.node o516_0 (.node o1028_1 .nil .nil) .nil) (.node o772_1 .nil .nil)) (.node o388_0 (.node o644_1 (.node o1156_1 .nil .nil) .nil) (.node o900_1 .nil .nil))) (.node o196_0 (.node o324_0 (.node o580_0 (.node o1092_1 .nil .nil) .nil) (.node o836_1 .nil .nil)) (.node o452_0 (.node o708_1 .nil .nil) (.node o964_1 .nil .nil)))) (.node o100_0 (.node o164_0 (.node o292_0 (.node o548_0 (.node o1060_1 .nil .nil) .nil) (.node o804_1 .nil .nil)) (.node o420_0 (.node o676_1 .nil .nil) (.node o932_1 .nil .nil))) (.node o228_0 (.node o356_0 (.node o612_1 (.node o1124_1 .nil .nil) .nil) (.node o868_1 .nil .nil)) (.node o484_0 (.node o740_1 .nil .nil) (.node o996_1 .nil .nil))))) (.node o52_0 (.node o84_0 (.node o148_0 (.node o276_0 (.node o532_0 (.node o1044_1 .nil .nil) .nil) (.node o788_1 .nil .nil)) (.node o404_0 (.node o660_1 .nil .nil) (.node o916_1 .nil .nil))) (.node o212_0 (.node o340_0 (.node o596_0 (.node o1108_1 .nil .nil) .nil) (.node o852_1 .nil .nil)) (.node o468_0 (.node o724_1 .nil .nil) (.node o980_1 .nil .nil)))) (.node o116_0 (.node o180_0 (.node o308_0 (.node o564_0 (.node o1076_1 .nil .nil) .nil) (.node o820_1 .nil .nil)) (.node o436_0 (.node o692_1 .nil .nil) (.node o948_1 .nil .nil))) (.node o244_0 (.node o372_0 (.node o628_1 (.node o1140_1 .nil .nil) .nil) (.node o884_1 .nil .nil)) (.node o500_0 (.node o756_1 .nil .nil) (.node o1012_1 .nil .nil)))))) (.node o28_0 (.node o44_0 (.node o76_0 (.node o140_0 (.node o268_0 (.node o524_0 (.node o1036_1 .nil .nil) .nil) (.node o780_1 .nil .nil)) (.node o396_0 (.node o652_1 .nil .nil) (.node o908_1 .nil .nil))) (.node o204_0 (.node o332_0 (.node o588_0 (.node o1100_1 .nil .nil) .nil) (.node o844_1 .nil .nil)) (.node o460_0 (.node o716_1 .nil .nil) (.node o972_1 .nil .nil)))) (.node o108_0 (.node o172_1 (.node o300_0 (.node o556_0 (.node o1068_1 .nil .nil) .nil) (.node o812_1 .nil .nil)) (.node o428_0 (.node o684_1 .nil .nil) (.node o940_1 .nil .nil))) (.node o236_0 (.node o364_0 (.node o620_1 (.node o1132_1 .nil .nil) .nil) (.node o876_1 .nil .nil)) (.node o492_0 (.node o748_1 .nil .nil) (.node o1004_1 .nil .nil))))) (.node o60_0 (.node o92_0 (.node o156_0 (.node o284_0 (.node o540_0 (.node o1052_1 .nil .nil) .nil) (.node o796_1 .nil .nil)) (.node o412_0 (.node o668_1 .nil .nil) (.node o924_1 .nil .nil))) (.node o220_0 (.node o348_0 (.node (o604_1 P) (.node o1116_1 .nil .nil) .nil) (.node o860_1 .nil .nil)) (.node o476_0 (.node o732_1 .nil .nil) (.node o988_1 .nil .nil)))) (.node o124_0 (.node o188_0 (.node o316_0 (.node o572_0 (.node o1084_1 .nil .nil) .nil) (.node o828_1 .nil .nil)) (.node o444_0 (.node o700_1 .nil .nil) (.node o956_1 .nil .nil))) (.node (o252_0 P) (.node o380_0 (.node o636_1 (.node o1148_1 .nil .nil) .nil) (.node o892_1 .nil .nil)) (.node o508_0 (.node o764_1 .nil .nil) (.node o1020_1 .nil .nil)))))))) (.node (boot_o_6 P) (.node (boot_o_10 P) (.node o18_0 (.node o34_0 (.node o66_0 (.node o130_0 (.node o258_0 (.node o514_0 (.node o1026_1 .nil .nil) .nil) (.node o770_1 .nil .nil)) (.node o386_0 (.node o642_1 (.node o1154_1 .nil .nil) .nil) (.node o898_1 .nil .nil))) (.node o194_0 (.node o322_0 (.node o578_0 (.node o1090_1 .nil .nil) .nil) (.node o834_1 .nil .nil)) (.node o450_0 (.node o706_1 .nil .nil) (.node o962_1 .nil .nil)))) (.node o98_0 (.node o162_0 (.node o290_0 (.node o546_0 (.node o1058_1 .nil .nil) .nil) (.node o802_1 .nil .nil)) (.node o418_0 (.node o674_1 .nil .nil) (.node o930_1 .nil .nil))) (.node o226_0 (.node o354_0 (.node o610_1 (.node o1122_1 .nil .nil) .nil) (.node (o866_1 P) .nil .nil)) (.node o482_0 (.node o738_1 .nil .nil) (.node o994_1 .nil .nil))))) (.node o50_0 (.node o82_0 (.node o146_0 (.node o274_0 (.node o530_0 (.node o1042_1 .nil .nil) .nil) (.node o786_1 .nil .nil)) (.node o402_0 (.node o658_1 .nil .nil) (.node o914_1 .nil .nil))) (.node o210_0 (.node o338_0 (.node o594_0 (.node o1106_1 .nil .nil) .nil) (.node o850_1 .nil .nil)) (.node o466_0 (.node o722_1 .nil .nil) (.node o978_1 .nil .nil)))) (.node o114_0 (.node o178_0 (.node o306_0 (.node o562_0 (.node o1074_1 .nil .nil) .nil) (.node o818_1 .nil .nil)) (.node o434_0 (.node o690_1 .nil .nil) (.node (o946_1 P) .nil .nil))) (.node o242_0 (.node o370_0 (.node o626_1 (.node o1138_1 .nil .nil) .nil) (.node o882_1 .nil .nil)) (.node o498_0 (.node o754_1 .nil .nil) (.node o1010_1 .nil .nil)))))) (.node o26_0 (.node o42_0 (.node o74_0 (.node o138_0 (.node o266_0 (.node o522_0 (.node o1034_1 .nil .nil) .nil) (.node o778_1 .nil .nil)) (.node o394_0 (.node o650_1 .nil .nil) (.node (o906_1 P) .nil .nil))) (.node o202_0 (.node o330_0 (.node o586_0 (.node o1098_1 .nil .nil) .nil) (.node o842_1 .nil .nil)) (.node o458_0 (.node o714_1 .nil .nil) (.node o970_1 .nil .nil)))) (.node o106_0 (.node o170_0 (.node o298_0 (.node o554_0 (.node o1066_1 .nil .nil) .nil) (.node o810_1 .nil .nil)) (.node o426_0 (.node o682_1 .nil .nil) (.node o938_1 .nil .nil))) (.node o234_0 (.node o362_0 (.node o618_1 (.node o1130_1 .nil .nil) .nil) (.node o874_1 .nil .nil)) (.node o490_0 (.node o746_1 .nil .nil) (.node o1002_1 .nil .nil))))) (.node o58_0 (.node o90_0 (.node o154_0 (.node o282_0 (.node o538_0 (.node o1050_1 .nil .nil) .nil) (.node o794_1 .nil .nil)) (.node o410_0 (.node o666_1 .nil .nil) (.node o922_1 .nil .nil))) (.node o218_0 (.node o346_0 (.node o602_1 (.node o1114_1 .nil .nil) .nil) (.node o858_1 .nil .nil)) (.node o474_0 (.node o730_1 .nil .nil) (.node o986_1 .nil .nil)))) (.node o122_0 (.node o186_0 (.node o314_0 (.node o570_0 (.node o1082_1 .nil .nil) .nil) (.node (o826_1 P) .nil .nil)) (.node o442_0 (.node o698_1 .nil .nil) (.node o954_1 .nil .nil))) (.node o250_0 (.node o378_0 (.node o634_1 (.node o1146_1 .nil .nil) .nil) (.node o890_1 .nil .nil)) (.node o506_0 (.node o762_1 .nil .nil) (.node o1018_1 .nil .nil))))))) (.node o14_a (.node o22_0 (.node o38_0 (.node o70_0 (.node o134_0 (.node o262_0 (.node o518_0 (.node o1030_1 .nil .nil) .nil) (.node o774_1 .nil .nil)) (.node o390_0 (.node o646_1 .nil .nil) (.node o902_1 .nil .nil))) (.node (o198_0 P) (.node o326_0 (.node o582_0 (.node o1094_1 .nil .nil) .nil) (.node o838_1 .nil .nil)) (.node o454_0 (.node o710_1 .nil .nil) (.node o966_1 .nil .nil)))) (.node o102_0 (.node o166_0 (.node o294_0 (.node (o550_0 P) (.node o1062_1 .nil .nil) .nil) (.node o806_1 .nil .nil)) (.node o422_0 (.node o678_1 .nil .nil) (.node o934_1 .nil .nil))) (.node o230_0 (.node o358_0 (.node o614_1 (.node o1126_1 .nil .nil) .nil) (.node o870_1 .nil .nil)) (.node o486_0 (.node o742_1 .nil .nil) (.node o998_1 .nil .nil))))) (.node o54_0 (.node o86_0 (.node o150_0 (.node o278_0 (.node o534_0 (.node (o1046_1 P) .nil .nil) .nil) (.node o790_1 .nil .nil)) (.node o406_0 (.node o662_1 .nil .nil) (.node o918_1 .nil .nil))) (.node o214_0 (.node o342_0 (.node (o598_0 P) (.node o1110_1 .nil .nil) .nil) (.node o854_1 .nil .nil)) (.node o470_0 (.node o726_1 .nil .nil) (.node o982_1 .nil .nil)))) (.node o118_0 (.node o182_0 (.node o310_0 (.node o566_0 (.node o1078_1 .nil .nil) .nil) (.node o822_1 .nil .nil)) (.node o438_0 (.node o694_1 .nil .nil) (.node o950_1 .nil .nil))) (.node (o246_0 P) (.node o374_0 (.node o630_1 (.node o1142_1 .nil .nil) .nil) (.node o886_1 .nil .nil)) (.node o502_0 (.node o758_1 .nil .nil) (.node o1014_1 .nil .nil)))))) (.node o30_0 (.node o46_0 (.node o78_0 (.node o142_0 (.node o270_0 (.node o526_0 (.node o1038_1 .nil .nil) .nil) (.node o782_1 .nil .nil)) (.node o398_0 (.node o654_1 .nil .nil) (.node o910_1 .nil .nil))) (.node o206_0 (.node o334_0 (.node o590_0 (.node o1102_1 .nil .nil) .nil) (.node o846_1 .nil .nil)) (.node o462_0 (.node o718_1 .nil .nil) (.node o974_1 .nil .nil)))) (.node o110_0 (.node o174_0 (.node o302_0 (.node o558_0 (.node o1070_1 .nil .nil) .nil) (.node o814_1 .nil .nil)) (.node o430_0 (.node o686_1 .nil .nil) (.node o942_1 .nil .nil))) (.node o238_0 (.node o366_0 (.node o622_1 (.node o1134_1 .nil .nil) .nil) (.node o878_1 .nil .nil)) (.node o494_0 (.node o750_1 .nil .nil) (.node o1006_1 .nil .nil))))) (.node o62_0 (.node o94_0 (.node o158_0 (.node o286_0 (.node o542_0 (.node o1054_1 .nil .nil) .nil) (.node o798_1 .nil .nil)) (.node o414_0 (.node o670_1 .nil .nil) (.node o926_1 .nil .nil))) (.node o222_0 (.node o350_0 (.node o606_1 (.node o1118_1 .nil .nil) .nil) (.node o862_1 .nil .nil)) (.node o478_0 (.node o734_1 .nil .nil) (.node o990_1 .nil .nil)))) (.node o126_0 (.node o190_0 (.node o318_0 (.node o574_0 (.node o1086_1 .nil .nil) .nil) (.node o830_1 .nil .nil)) (.node o446_0 (.node o702_1 .nil .nil) (.node o958_1 .nil .nil))) (.node o254_0 (.node o382_0 (.node o638_1 (.node o1150_1 .nil .nil) .nil) (.node o894_1 .nil .nil)) (.node o510_0 (.node (o766_1 P) .nil .nil) (.node o1022_1 .nil .nil))))))))))
noncomputable def tr_f (P : Params) : PySem.W.BT := (.node (boot_o_0 P) (.node (boot_o_1 P) (.node (o3_1 P) (.node (boot_o_7 P) (.node o15_0 (.node o31_0 (.node o63_0 (.node o127_0 (.node o255_0 (.node o511_0 (.node o1023_1 .nil .nil) .nil) (.node o767_1 .nil .nil)) (.node o383_0 (.node o639_1 (.node o1151_1 .nil .nil) .nil) (.node o895_1 .nil .nil))) (.node o191_0 (.node o319_0 (.node o575_0 (.node o1087_1 .nil .nil) .nil) (.node o831_1 .nil .nil)) (.node o447_0 (.node o703_1 .nil .nil) (.node o959_1 .nil .nil)))) (.node o95_0 (.node o159_0 (.node o287_0 (.node o543_0 (.node o1055_1 .nil .nil) .nil) (.node (o799_1 P) .nil .nil)) (.node o415_0 (.node o671_1 .nil .nil) (.node o927_1 .nil .nil))) (.node o223_0 (.node o351_0 (.node o607_1 (.node o1119_1 .nil .nil) .nil) (.node o863_1 .nil .nil)) (.node o479_0 (.node o735_1 .nil .nil) (.node o991_1 .nil .nil))))) (.node o47_0 (.node o79_0 (.node o143_0 (.node o271_0 (.node o527_0 (.node o1039_1 .nil .nil) .nil) (.node o783_1 .nil .nil)) (.node o399_0 (.node o655_1 .nil .nil) (.node o911_1 .nil .nil))) (.node o207_0 (.node o335_0 (.node o591_0 (.node o1103_1 .nil .nil) .nil) (.node o847_1 .nil .nil)) (.node o463_0 (.node (o719_1 P) .nil .nil) (.node o975_1 .nil .nil)))) (.node o111_0 (.node o175_0 (.node o303_0 (.node o559_0 (.node o1071_1 .nil .nil) .nil) (.node o815_1 .nil .nil)) (.node o431_0 (.node o687_1 .nil .nil) (.node o943_1 .nil .nil))) (.node o239_0 (.node o367_0 (.node o623_1 (.node o1135_1 .nil .nil) .nil) (.node o879_1 .nil .nil)) (.node o495_0 (.node o751_1 .nil .nil) (.node o1007_1 .nil .nil)))))) (.node (o23_0 P) (.node o39_0 (.node o71_0 (.node o135_0 (.node o263_0 (.node o519_0 (.node o1031_1 .nil .nil) .nil) (.node o775_1 .nil .nil)) (.node o391_0 (.node o647_1 .nil .nil) (.node o903_1 .nil .nil))) (.node o199_0 (.node o327_0 (.node o583_0 (.node o1095_1 .nil .nil) .nil) (.node o839_1 .nil .nil)) (.node o455_0 (.node o711_1 .nil .nil) (.node o967_1 .nil .nil)))) (.node o103_0 (.node o167_0 (.node o295_0 (.node o551_0 (.node o1063_1 .nil .nil) .nil) (.node o807_1 .nil .nil)) (.node o423_0 (.node o679_1 .nil .nil) (.node o935_1 .nil .nil))) (.node o231_0 (.node o359_0 (.node o615_1 (.node o1127_1 .nil .nil) .nil) (.node o871_1 .nil .nil)) (.node o487_0 (.node o743_1 .nil .nil) (.node o999_1 .nil .nil))))) (.node o55_0 (.node o87_0 (.node o151_0 (.node o279_0 (.node o535_0 (.node o1047_1 .nil .nil) .nil) (.node o791_1 .nil .nil)) (.node o407_0 (.node o663_1 .nil .nil) (.node o919_1 .nil .nil))) (.node o215_0 (.node o343_0 (.node o599_0 (.node o1111_1 .nil .nil) .nil) (.node o855_1 .nil .nil)) (.node o471_0 (.node o727_1 .nil .nil) (.node o983_1 .nil .nil)))) (.node o119_0 (.node o183_0 (.node o311_0 (.node o567_0 (.node o1079_1 .nil .nil) .nil) (.node o823_1 .nil .nil)) (.node o439_0 (.node o695_1 .nil .nil) (.node o951_1 .nil .nil))) (.node o247_0 (.node (o375_0 P) (.node o631_1 (.node o1143_1 .nil .nil) .nil) (.node o887_1 .nil .nil)) (.node (o503_0 P) (.node o759_1 .nil .nil) (.node o1015_1 .nil .nil))))))) (.node o11_a (.node o19_0 (.node o35_0 (.node o67_0 (.node o131_0 (.node o259_0 (.node o515_0 (.node (o1027_1 P) .nil .nil) .nil) (.node o771_1 .nil .nil)) (.node o387_0 (.node o643_1 (.node o1155_1 .nil .nil) .nil) (.node o899_1 .nil .nil))) (.node o195_0 (.node o323_0 (.node o579_0 (.node o1091_1 .nil .nil) .nil) (.node o835_1 .nil .nil)) (.node o451_0 (.node o707_1 .nil .nil) (.node o963_1 .nil .nil)))) (.node o99_0 (.node o163_0 (.node o291_0 (.node o547_0 (.node (o1059_1 P) .nil .nil) .nil) (.node o803_1 .nil .nil)) (.node o419_0 (.node o675_1 .nil .nil) (.node o931_1 .nil .nil))) (.node o227_0 (.node o355_0 (.node o611_1 (.node o1123_1 .nil .nil) .nil) (.node o867_1 .nil .nil)) (.node o483_0 (.node o739_1 .nil .nil) (.node o995_1 .nil .nil))))) (.node o51_0 (.node o83_0 (.node o147_0 (.node o275_0 (.node o531_0 (.node o1043_1 .nil .nil) .nil) (.node o787_1 .nil .nil)) (.node o403_0 (.node (o659_1 P) .nil .nil) (.node o915_1 .nil .nil))) (.node o211_0 (.node o339_0 (.node o595_0 (.node o1107_1 .nil .nil) .nil) (.node o851_1 .nil .nil)) (.node o467_0 (.node o723_1 .nil .nil) (.node (o979_1 P) .nil .nil)))) (.node o115_0 (.node (o179_0 P) (.node (o307_0 P) (.node o563_0 (.node o1075_1 .nil .nil) .nil) (.node o819_1 .nil .nil)) (.node o435_0 (.node o691_1 .nil .nil) (.node o947_1 .nil .nil))) (.node o243_0 (.node o371_0 (.node o627_1 (.node o1139_1 .nil .nil) .nil) (.node o883_1 .nil .nil)) (.node o499_0 (.node o755_1 .nil .nil) (.node o1011_1 .nil .nil)))))) (.node o27_0 (.node o43_0 (.node o75_0 (.node o139_0 (.node o267_0 (.node o523_0 (.node o1035_1 .nil .nil) .nil) (.node o779_1 .nil .nil)) (.node o395_0 (.node o651_1 .nil .nil) (.node o907_1 .nil .nil))) (.node o203_0 (.node o331_0 (.node o587_0 (.node o1099_1 .nil .nil) .nil) (.node o843_1 .nil .nil)) (.node o459_0 (.node o715_1 .nil .nil) (.node o971_1 .nil .nil)))) (.node o107_0 (.node (o171_0 P) (.node o299_0 (.node o555_0 (.node o1067_1 .nil .nil) .nil) (.node o811_1 .nil .nil)) (.node o427_0 (.node o683_1 .nil .nil) (.node o939_1 .nil .nil))) (.node o235_0 (.node o363_0 (.node o619_1 (.node o1131_1 .nil .nil) .nil) (.node o875_1 .nil .nil)) (.node o491_0 (.node o747_1 .nil .nil) (.node o1003_1 .nil .nil))))) (.node o59_0 (.node o91_0 (.node o155_0 (.node o283_0 (.node o539_0 (.node o1051_1 .nil .nil) .nil) (.node o795_1 .nil .nil)) (.node o411_0 (.node o667_1 .nil .nil) (.node o923_1 .nil .nil))) (.node o219_0 (.node o347_0 (.node o603_1 (.node o1115_1 .nil .nil) .nil) (.node o859_1 .nil .nil)) (.node o475_0 (.node o731_1 .nil .nil) (.node o987_1 .nil .nil)))) (.node o123_0 (.node o187_0 (.node o315_0 (.node o571_0 (.node o1083_1 .nil .nil) .nil) (.node o827_1 .nil .nil)) (.node (o443_0 P) (.node o699_1 .nil .nil) (.node o955_1 .nil .nil))) (.node o251_0 (.node o379_0 (.node o635_1 (.node o1147_1 .nil .nil) .nil) (.node o891_1 .nil .nil)) (.node o507_0 (.node o763_1 .nil .nil) (.node o1019_1 .nil .nil)))))))) (.node (boot_o_5 P) (.node (boot_o_9 P) (.node o17_0 (.node o33_0 (.node o65_0 (.node o129_0 (.node o257_0 (.node o513_0 (.node o1025_1 .nil .nil) .nil) (.node o769_1 .nil .nil)) (.node o385_0 (.node o641_1 (.node o1153_1 .nil .nil) .nil) (.node o897_1 .nil .nil))) (.node o193_0 (.node o321_0 (.node o577_0 (.node o1089_1 .nil .nil) .nil) (.node o833_1 .nil .nil)) (.node (o449_0 P) (.node o705_1 .nil .nil) (.node o961_1 .nil .nil)))) (.node o97_0 (.node o161_0 (.node o289_0 (.node o545_0 (.node o1057_1 .nil .nil) .nil) (.node o801_1 .nil .nil)) (.node o417_0 (.node o673_1 .nil .nil) (.node o929_1 .nil .nil))) (.node o225_0 (.node o353_0 (.node o609_1 (.node o1121_1 .nil .nil) .nil) (.node o865_1 .nil .nil)) (.node o481_0 (.node o737_1 .nil .nil) (.node o993_1 .nil .nil))))) (.node o49_0 (.node (o81_0 P) (.node o145_0 (.node o273_0 (.node o529_0 (.node o1041_1 .nil .nil) .nil) (.node o785_1 .nil .nil)) (.node o401_0 (.node o657_1 .nil .nil) (.node o913_1 .nil .nil))) (.node o209_0 (.node o337_0 (.node o593_0 (.node o1105_1 .nil .nil) .nil) (.node o849_1 .nil .nil)) (.node o465_0 (.node o721_1 .nil .nil) (.node o977_1 .nil .nil)))) (.node o113_0 (.node o177_0 (.node o305_0 (.node o561_0 (.node o1073_1 .nil .nil) .nil) (.node o817_1 .nil .nil)) (.node o433_0 (.node o689_1 .nil .nil) (.node o945_1 .nil .nil))) (.node o241_0 (.node o369_0 (.node o625_1 (.node o1137_1 .nil .nil) .nil) (.node o881_1 .nil .nil)) (.node (o497_0 P) (.node o753_1 .nil .nil) (.node o1009_1 .nil .nil)))))) (.node o25_0 (.node o41_0 (.node o73_0 (.node o137_0 (.node o265_0 (.node o521_0 (.node (o1033_1 P) .nil .nil) .nil) (.node o777_1 .nil .nil)) (.node o393_0 (.node o649_1 .nil .nil) (.node o905_1 .nil .nil))) (.node o201_0 (.node o329_0 (.node o585_0 (.node o1097_1 .nil .nil) .nil) (.node o841_1 .nil .nil)) (.node o457_0 (.node (o713_1 P) .nil .nil) (.node o969_1 .nil .nil)))) (.node o105_0 (.node o169_0 (.node o297_0 (.node o553_0 (.node o1065_1 .nil .nil) .nil) (.node o809_1 .nil .nil)) (.node o425_0 (.node o681_1 .nil .nil) (.node o937_1 .nil .nil))) (.node o233_0 (.node o361_0 (.node o617_1 (.node o1129_1 .nil .nil) .nil) (.node o873_1 .nil .nil)) (.node o489_0 (.node o745_1 .nil .nil) (.node o1001_1 .nil .nil))))) (.node o57_0 (.node o89_0 (.node o153_0 (.node o281_0 (.node o537_0 (.node o1049_1 .nil .nil) .nil) (.node (o793_1 P) .nil .nil)) (.node o409_0 (.node (o665_1 P) .nil .nil) (.node o921_1 .nil .nil))) (.node o217_0 (.node o345_0 (.node o601_0 (.node o1113_1 .nil .nil) .nil) (.node o857_1 .nil .nil)) (.node o473_0 (.node o729_1 .nil .nil) (.node o985_1 .nil .nil)))) (.node o121_0 (.node o185_0 (.node (o313_0 P) (.node o569_0 (.node o1081_1 .nil .nil) .nil) (.node o825_1 .nil .nil)) (.node o441_0 (.node o697_1 .nil .nil) (.node o953_1 .nil .nil))) (.node o249_0 (.node o377_0 (.node o633_1 (.node o1145_1 .nil .nil) .nil) (.node o889_1 .nil .nil)) (.node o505_0 (.node o761_1 .nil .nil) (.node o1017_1 .nil .nil))))))) (.node o13_a (.node o21_0 (.node o37_0 (.node o69_0 (.node o133_0 (.node o261_0 (.node o517_0 (.node o1029_1 .nil .nil) .nil) (.node o773_1 .nil .nil)) (.node o389_0 (.node o645_1 .nil .nil) (.node o901_1 .nil .nil))) (.node o197_0 (.node o325_0 (.node o581_0 (.node o1093_1 .nil .nil) .nil) (.node o837_1 .nil .nil)) (.node o453_0 (.node o709_1 .nil .nil) (.node o965_1 .nil .nil)))) (.node o101_0 (.node o165_0 (.node o293_0 (.node o549_0 (.node o1061_1 .nil .nil) .nil) (.node o805_1 .nil .nil)) (.node o421_0 (.node o677_1 .nil .nil) (.node o933_1 .nil .nil))) (.node o229_0 (.node o357_0 (.node o613_1 (.node o1125_1 .nil .nil) .nil) (.node o869_1 .nil .nil)) (.node o485_0 (.node o741_1 .nil .nil) (.node o997_1 .nil .nil))))) (.node o53_0 (.node o85_0 (.node o149_0 (.node o277_0 (.node o533_0 (.node o1045_1 .nil .nil) .nil) (.node o789_1 .nil .nil)) (.node o405_0 (.node o661_1 .nil .nil) (.node o917_1 .nil .nil))) (.node o213_0 (.node o341_0 (.node o597_0 (.node o1109_1 .nil .nil) .nil) (.node o853_1 .nil .nil)) (.node o469_0 (.node o725_1 .nil .nil) (.node o981_1 .nil .nil)))) (.node o117_0 (.node o181_0 (.node o309_0 (.node o565_0 (.node o1077_1 .nil .nil) .nil) (.node o821_1 .nil .nil)) (.node o437_0 (.node o693_1 .nil .nil) (.node o949_1 .nil .nil))) (.node o245_0 (.node o373_0 (.node o629_1 (.node o1141_1 .nil .nil) .nil) (.node o885_1 .nil .nil)) (.node o501_0 (.node o757_1 .nil .nil) (.node o1013_1 .nil .nil)))))) (.node o29_0 (.node o45_0 (.node o77_0 (.node o141_0 (.node o269_0 (.node o525_0 (.node o1037_1 .nil .nil) .nil) (.node o781_1 .nil .nil)) (.node o397_0 (.node o653_1 .nil .nil) (.node o909_1 .nil .nil))) (.node o205_0 (.node o333_0 (.node o589_0 (.node o1101_1 .nil .nil) .nil) (.node o845_1 .nil .nil)) (.node o461_0 (.node o717_1 .nil .nil) (.node o973_1 .nil .nil)))) (.node o109_0 (.node o173_0 (.node o301_0 (.node o557_0 (.node o1069_1 .nil .nil) .nil) (.node o813_1 .nil .nil)) (.node o429_0 (.node o685_1 .nil .nil) (.node o941_1 .nil .nil))) (.node o237_0 (.node o365_0 (.node o621_1 (.node o1133_1 .nil .nil) .nil) (.node o877_1 .nil .nil)) (.node o493_0 (.node o749_1 .nil .nil) (.node o1005_1 .nil .nil))))) (.node o61_0 (.node o93_0 (.node o157_0 (.node o285_0 (.node o541_0 (.node o1053_1 .nil .nil) .nil) (.node o797_1 .nil .nil)) (.node o413_0 (.node o669_1 .nil .nil) (.node o925_1 .nil .nil))) (.node o221_0 (.node o349_0 (.node o605_1 (.node o1117_1 .nil .nil) .nil) (.node o861_1 .nil .nil)) (.node o477_0 (.node o733_1 .nil .nil) (.node o989_1 .nil .nil)))) (.node o125_0 (.node o189_0 (.node o317_0 (.node o573_0 (.node (o1085_1 P) .nil .nil) .nil) (.node o829_1 .nil .nil)) (.node o445_0 (.node o701_1 .nil .nil) (.node o957_1 .nil .nil))) (.node o253_0 (.node (o381_0 P) (.node o637_1 (.node o1149_1 .nil .nil) .nil) (.node o893_1 .nil .nil)) (.node o509_0 (.node o765_1 .nil .nil) (.node o1021_1 .nil .nil))))))))) (.node (boot_o_2 P) (.node (boot_o_4 P) (.node (boot_o_8 P) (.node o16_0 (.node o32_0 (.node o64_0 (.node o128_0 (.node o256_0 (.node o512_0 (.node o1024_1 .nil .nil) .nil) (.node o768_1 .nil .nil)) (.node o384_0 (.node o640_1 (.node o1152_1 .nil .nil) .nil) (.node o896_1 .nil .nil))) (.node (o192_0 P) (.node o320_0 (.node o576_0 (.node o1088_1 .nil .nil) .nil) (.node (o832_1 P) .nil .nil)) (.node o448_0 (.node o704_1 .nil .nil) (.node o960_1 .nil .nil)))) (.node o96_0 (.node o160_0 (.node o288_0 (.node (o544_0 P) (.node o1056_1 .nil .nil) .nil) (.node o800_1 .nil .nil)) (.node o416_0 (.node o672_1 .nil .nil) (.node o928_1 .nil .nil))) (.node o224_0 (.node o352_0 (.node o608_1 (.node o1120_1 .nil .nil) .nil) (.node o864_1 .nil .nil)) (.node o480_0 (.node o736_1 .nil .nil) (.node o992_1 .nil .nil))))) (.node o48_0 (.node o80_0 (.node o144_0 (.node o272_0 (.node o528_0 (.node (o1040_1 P) .nil .nil) .nil) (.node o784_1 .nil .nil)) (.node o400_0 (.node o656_1 .nil .nil) (.node (o912_1 P) .nil .nil))) (.node o208_0 (.node o336_0 (.node o592_0 (.node o1104_1 .nil .nil) .nil) (.node o848_1 .nil .nil)) (.node o464_0 (.node o720_1 .nil .nil) (.node o976_1 .nil .nil)))) (.node o112_0 (.node o176_0 (.node o304_0 (.node o560_0 (.node o1072_1 .nil .nil) .nil) (.node o816_1 .nil .nil)) (.node o432_0 (.node o688_1 .nil .nil) (.node o944_1 .nil .nil))) (.node o240_0 (.node o368_0 (.node o624_1 (.node o1136_1 .nil .nil) .nil) (.node o880_1 .nil .nil)) (.node o496_0 (.node o752_1 .nil .nil) (.node o1008_1 .nil .nil)))))) (.node o24_0 (.node o40_0 (.node o72_0 (.node o136_0 (.node o264_0 (.node o520_0 (.node o1032_1 .nil .nil) .nil) (.node o776_1 .nil .nil)) (.node o392_0 (.node o648_1 .nil .nil) (.node o904_1 .nil .nil))) (.node o200_0 (.node o328_0 (.node o584_0 (.node o1096_1 .nil .nil) .nil) (.node o840_1 .nil .nil)) (.node o456_0 (.node o712_1 .nil .nil) (.node o968_1 .nil .nil)))) (.node o104_0 (.node o168_0 (.node o296_0 (.node o552_0 (.node o1064_1 .nil .nil) .nil) (.node o808_1 .nil .nil)) (.node o424_0 (.node o680_1 .nil .nil) (.node o936_1 .nil .nil))) (.node o232_0 (.node o360_0 (.node o616_1 (.node o1128_1 .nil .nil) .nil) (.node (o872_1 P) .nil .nil)) (.node o488_0 (.node o744_1 .nil .nil) (.node o1000_1 .nil .nil))))) (.node o56_0 (.node o88_0 (.node o152_0 (.node o280_0 (.node o536_0 (.node o1048_1 .nil .nil) .nil) (.node o792_1 .nil .nil)) (.node o408_0 (.node o664_1 .nil .nil) (.node o920_1 .nil .nil))) (.node o216_0 (.node o344_0 (.node o600_0 (.node o1112_1 .nil .nil) .nil) (.node o856_1 .nil .nil)) (.node o472_0 (.node o728_1 .nil .nil) (.node o984_1 .nil .nil)))) (.node o120_0 (.node o184_0 (.node o312_0 (.node o568_0 (.node o1080_1 .nil .nil) .nil) (.node o824_1 .nil .nil)) (.node o440_0 (.node o696_1 .nil .nil) (.node (o952_1 P) .nil .nil))) (.node o248_0 (.node o376_0 (.node o632_1 (.node o1144_1 .nil .nil) .nil) (.node o888_1 .nil .nil)) (.node o504_0 (.node (o760_1 P) .nil .nil) (.node o1016_1 .nil .nil))))))) (.node o12_1 (.node o20_0 (.node o36_0 (.node o68_0 (.node o132_0 (.node o260_0 (.node o516_0 (.node o1028_1 .nil .nil) .nil) (.node o772_1 .nil .nil)) (.node o388_0 (.node o644_1 (.node o1156_1 .nil .nil) .nil) (.node o900_1 .nil .nil))) (.node o196_0 (.node o324_0 (.node o580_0 (.node o1092_1 .nil .nil) .nil) (.node o836_1 .nil .nil)) (.node o452_0 (.node o708_1 .nil .nil) (.node o964_1 .nil .nil)))) (.node o100_0 (.node o164_0 (.node o292_0 (.node o548_0 (.node o1060_1 .nil .nil) .nil) (.node o804_1 .nil .nil)) (.node o420_0 (.node o676_1 .nil .nil) (.node o932_1 .nil .nil))) (.node o228_0 (.node o356_0 (.node o612_1 (.node o1124_1 .nil .nil) .nil) (.node o868_1 .nil .nil)) (.node o484_0 (.node o740_1 .nil .nil) (.node o996_1 .nil .nil))))) (.node o52_0 (.node o84_0 (.node o148_0 (.node o276_0 (.node o532_0 (.node o1044_1 .nil .nil) .nil) (.node o788_1 .nil .nil)) (.node o404_0 (.node o660_1 .nil .nil) (.node o916_1 .nil .nil))) (.node o212_0 (.node o340_0 (.node o596_0 (.node o1108_1 .nil .nil) .nil) (.node o852_1 .nil .nil)) (.node o468_0 (.node o724_1 .nil .nil) (.node o980_1 .nil .nil)))) (.node o116_0 (.node o180_0 (.node o308_0 (.node o564_0 (.node o1076_1 .nil .nil) .nil) (.node o820_1 .nil .nil)) (.node o436_0 (.node o692_1 .nil .nil) (.node o948_1 .nil .nil))) (.node o244_0 (.node o372_0 (.node o628_1 (.node o1140_1 .nil .nil) .nil) (.node o884_1 .nil .nil)) (.node o500_0 (.node o756_1 .nil .nil) (.node o1012_1 .nil .nil)))))) (.node o28_0 (.node o44_0 (.node o76_0 (.node o140_0 (.node o268_0 (.node o524_0 (.node o1036_1 .nil .nil) .nil) (.node o780_1 .nil .nil)) (.node o396_0 (.node o652_1 .nil .nil) (.node o908_1 .nil .nil))) (.node o204_0 (.node o332_0 (.node o588_0 (.node o1100_1 .nil .nil) .nil) (.node o844_1 .nil .nil)) (.node o460_0 (.node o716_1 .nil .nil) (.node o972_1 .nil .nil)))) (.node o108_0 (.node o172_1 (.node o300_0 (.node o556_0 (.node o1068_1 .nil .nil) .nil) (.node o812_1 .nil .nil)) (.node o428_0 (.node o684_1 .nil .nil) (.node o940_1 .nil .nil))) (.node o236_0 (.node o364_0 (.node o620_1 (.node o1132_1 .nil .nil) .nil) (.node o876_1 .nil .nil)) (.node o492_0 (.node o748_1 .nil .nil) (.node o1004_1 .nil .nil))))) (.node o60_0 (.node o92_0 (.node o156_0 (.node o284_0 (.node o540_0 (.node o1052_1 .nil .nil) .nil) (.node o796_1 .nil .nil)) (.node o412_0 (.node o668_1 .nil .nil) (.node o924_1 .nil .nil))) (.node o220_0 (.node o348_0 (.node (o604_1 P) (.node o1116_1 .nil .nil) .nil) (.node o860_1 .nil .nil)) (.node o476_0 (.node o732_1 .nil .nil) (.node o988_1 .nil .nil)))) (.node o124_0 (.node o188_0 (.node o316_0 (.node o572_0 (.node o1084_1 .nil .nil) .nil) (.node o828_1 .nil .nil)) (.node o444_0 (.node o700_1 .nil .nil) (.node o956_1 .nil .nil))) (.node (o252_0 P) (.node o380_0 (.node o636_1 (.node o1148_1 .nil .nil) .nil) (.node o892_1 .nil .nil)) (.node o508_0 (.node o764_1 .nil .nil) (.node o1020_1 .nil .nil)))))))) (.node (boot_o_6 P) (.node (boot_o_10 P) (.node o18_0 (.node o34_0 (.node o66_0 (.node o130_0 (.node o258_0 (.node o514_0 (.node o1026_1 .nil .nil) .nil) (.node o770_1 .nil .nil)) (.node o386_0 (.node o642_1 (.node o1154_1 .nil .nil) .nil) (.node o898_1 .nil .nil))) (.node o194_0 (.node o322_0 (.node o578_0 (.node o1090_1 .nil .nil) .nil) (.node o834_1 .nil .nil)) (.node o450_0 (.node o706_1 .nil .nil) (.node o962_1 .nil .nil)))) (.node o98_0 (.node o162_0 (.node o290_0 (.node o546_0 (.node o1058_1 .nil .nil) .nil) (.node o802_1 .nil .nil)) (.node o418_0 (.node o674_1 .nil .nil) (.node o930_1 .nil .nil))) (.node o226_0 (.node o354_0 (.node o610_1 (.node o1122_1 .nil .nil) .nil) (.node (o866_1 P) .nil .nil)) (.node o482_0 (.node o738_1 .nil .nil) (.node o994_1 .nil .nil))))) (.node o50_0 (.node o82_0 (.node o146_0 (.node o274_0 (.node o530_0 (.node o1042_1 .nil .nil) .nil) (.node o786_1 .nil .nil)) (.node o402_0 (.node o658_1 .nil .nil) (.node o914_1 .nil .nil))) (.node o210_0 (.node o338_0 (.node o594_0 (.node o1106_1 .nil .nil) .nil) (.node o850_1 .nil .nil)) (.node o466_0 (.node o722_1 .nil .nil) (.node o978_1 .nil .nil)))) (.node o114_0 (.node o178_0 (.node o306_0 (.node o562_0 (.node o1074_1 .nil .nil) .nil) (.node o818_1 .nil .nil)) (.node o434_0 (.node o690_1 .nil .nil) (.node (o946_1 P) .nil .nil))) (.node o242_0 (.node o370_0 (.node o626_1 (.node o1138_1 .nil .nil) .nil) (.node o882_1 .nil .nil)) (.node o498_0 (.node o754_1 .nil .nil) (.node o1010_1 .nil .nil)))))) (.node o26_0 (.node o42_0 (.node o74_0 (.node o138_0 (.node o266_0 (.node o522_0 (.node o1034_1 .nil .nil) .nil) (.node o778_1 .nil .nil)) (.node o394_0 (.node o650_1 .nil .nil) (.node (o906_1 P) .nil .nil))) (.node o202_0 (.node o330_0 (.node o586_0 (.node o1098_1 .nil .nil) .nil) (.node o842_1 .nil .nil)) (.node o458_0 (.node o714_1 .nil .nil) (.node o970_1 .nil .nil)))) (.node o106_0 (.node o170_0 (.node o298_0 (.node o554_0 (.node o1066_1 .nil .nil) .nil) (.node o810_1 .nil .nil)) (.node o426_0 (.node o682_1 .nil .nil) (.node o938_1 .nil .nil))) (.node o234_0 (.node o362_0 (.node o618_1 (.node o1130_1 .nil .nil) .nil) (.node o874_1 .nil .nil)) (.node o490_0 (.node o746_1 .nil .nil) (.node o1002_1 .nil .nil))))) (.node o58_0 (.node o90_0 (.node o154_0 (.node o282_0 (.node o538_0 (.node o1050_1 .nil .nil) .nil) (.node o794_1 .nil .nil)) (.node o410_0 (.node o666_1 .nil .nil) (.node o922_1 .nil .nil))) (.node o218_0 (.node o346_0 (.node o602_1 (.node o1114_1 .nil .nil) .nil) (.node o858_1 .nil .nil)) (.node o474_0 (.node o730_1 .nil .nil) (.node o986_1 .nil .nil)))) (.node o122_0 (.node o186_0 (.node o314_0 (.node o570_0 (.node o1082_1 .nil .nil) .nil) (.node (o826_1 P) .nil .nil)) (.node o442_0 (.node o698_1 .nil .nil) (.node o954_1 .nil .nil))) (.node o250_0 (.node o378_0 (.node o634_1 (.node o1146_1 .nil .nil) .nil) (.node o890_1 .nil .nil)) (.node o506_0 (.node o762_1 .nil .nil) (.node o1018_1 .nil .nil))))))) (.node o14_a (.node o22_0 (.node o38_0 (.node o70_0 (.node o134_0 (.node o262_0 (.node o518_0 (.node o1030_1 .nil .nil) .nil) (.node o774_1 .nil .nil)) (.node o390_0 (.node o646_1 .nil .nil) (.node o902_1 .nil .nil))) (.node (o198_0 P) (.node o326_0 (.node o582_0 (.node o1094_1 .nil .nil) .nil) (.node o838_1 .nil .nil)) (.node o454_0 (.node o710_1 .nil .nil) (.node o966_1 .nil .nil)))) (.node o102_0 (.node o166_0 (.node o294_0 (.node (o550_0 P) (.node o1062_1 .nil .nil) .nil) (.node o806_1 .nil .nil)) (.node o422_0 (.node o678_1 .nil .nil) (.node o934_1 .nil .nil))) (.node o230_0 (.node o358_0 (.node o614_1 (.node o1126_1 .nil .nil) .nil) (.node o870_1 .nil .nil)) (.node o486_0 (.node o742_1 .nil .nil) (.node o998_1 .nil .nil))))) (.node o54_0 (.node o86_0 (.node o150_0 (.node o278_0 (.node o534_0 (.node (o1046_1 P) .nil .nil) .nil) (.node o790_1 .nil .nil)) (.node o406_0 (.node o662_1 .nil .nil) (.node o918_1 .nil .nil))) (.node o214_0 (.node o342_0 (.node (o598_0 P) (.node o1110_1 .nil .nil) .nil) (.node o854_1 .nil .nil)) (.node o470_0 (.node o726_1 .nil .nil) (.node o982_1 .nil .nil)))) (.node o118_0 (.node o182_0 (.node o310_0 (.node o566_0 (.node o1078_1 .nil .nil) .nil) (.node o822_1 .nil .nil)) (.node o438_0 (.node o694_1 .nil .nil) (.node o950_1 .nil .nil))) (.node (o246_0 P) (.node o374_0 (.node o630_1 (.node o1142_1 .nil .nil) .nil) (.node o886_1 .nil .nil)) (.node o502_0 (.node o758_1 .nil .nil) (.node o1014_1 .nil .nil)))))) (.node o30_0 (.node o46_0 (.node o78_0 (.node o142_0 (.node o270_0 (.node o526_0 (.node o1038_1 .nil .nil) .nil) (.node o782_1 .nil .nil)) (.node o398_0 (.node o654_1 .nil .nil) (.node o910_1 .nil .nil))) (.node o206_0 (.node o334_0 (.node o590_0 (.node o1102_1 .nil .nil) .nil) (.node o846_1 .nil .nil)) (.node o462_0 (.node o718_1 .nil .nil) (.node o974_1 .nil .nil)))) (.node o110_0 (.node o174_0 (.node o302_0 (.node o558_0 (.node o1070_1 .nil .nil) .nil) (.node o814_1 .nil .nil)) (.node o430_0 (.node o686_1 .nil .nil) (.node o942_1 .nil .nil))) (.node o238_0 (.node o366_0 (.node o622_1 (.node o1134_1 .nil .nil) .nil) (.node o878_1 .nil .nil)) (.node o494_0 (.node o750_1 .nil .nil) (.node o1006_1 .nil .nil))))) (.node o62_0 (.node o94_0 (.node o158_0 (.node o286_0 (.node o542_0 (.node o1054_1 .nil .nil) .nil) (.node o798_1 .nil .nil)) (.node o414_0 (.node o670_1 .nil .nil) (.node o926_1 .nil .nil))) (.node o222_0 (.node o350_0 (.node o606_1 (.node o1118_1 .nil .nil) .nil) (.node o862_1 .nil .nil)) (.node o478_0 (.node o734_1 .nil .nil) (.node o990_1 .nil .nil)))) (.node o126_0 (.node o190_0 (.node o318_0 (.node o574_0 (.node o1086_1 .nil .nil) .nil) (.node o830_1 .nil .nil)) (.node o446_0 (.node o702_1 .nil .nil) (.node o958_1 .nil .nil))) (.node o254_0 (.node o382_0 (.node o638_1 (.node o1150_1 .nil .nil) .nil) (.node o894_1 .nil .nil)) (.node o510_0 (.node (o766_1 P) .nil .nil) (.node o1022_1 .nil .nil))))))))))
noncomputable def tr_boot (P : Params) : PySem.W.BT := (.node (boot_o_0 P) (.node (boot_o_1 P) (.node (boot_o_3 P) (.node (boot_o_7 P) .nil .nil) .nil) (.node (boot_o_5 P) (.node (boot_o_9 P) .nil .nil) .nil)) (.node (boot_o_2 P) (.node (boot_o_4 P) (.node (boot_o_8 P) .nil .nil) .nil) (.node (boot_o_6 P) (.node (boot_o_10 P) .nil .nil) .nil)))
def bodyS : List Stmt := behindTheImports hprog
def envS : PySem.Env := { scope := hprog.main.scope, locals := mainNs, globals := mainNs, cells := [], code := (zR 13), frame := some 14 }
theorem h_boot (P : Params) : HandSHeadRun.putAll (boot_heap P).objs.toList .nil 0 = some (tr_boot P, 11) := by kernel_rfl
theorem h_pre (w : World) (os : OsState) : goG (stQ hprog w) 11 (some (zR 6) : Option Value) 12 (stT (tr_boot w.params) 11 boot_toks os) (topStub hprog) = some ((stT (tr_a w.params) 15 187 os), ⟨HandSHeadRun.denQ HandSHeadRun.tabQ (.body bodyS envS), .body bodyS envS, ⟨0, 0, 0, 0⟩, [topFrame ⟨0, 0, 0, 0⟩]⟩) := by kernel_rfl
theorem h_blk (w : World) (os : OsState) : segF (stQ hprog w) 11 (some (zR 6) : Option Value) 1 (stT (tr_a w.params) 15 187 os) (blockOf bodyS envS (.body bodyS envS) ⟨0, 0, 0, 0⟩ [topFrame ⟨0, 0, 0, 0⟩]) = some (.next, (stT (tr_a w.params) 15 187 os), .body bodyS envS, ⟨0, 0, 0, 0⟩) := by kernel_rfl
def sts0 : List Stmt := (bodyS.drop 0).take 27
def G0 (w : World) : Prop := ∀ (b : List Stmt) (os : OsState), segF (stQ hprog w) 11 (some (zR 6) : Option Value) 4374 (stT (tr_a w.params) 15 187 os) (grp sts0 envS (.body b envS) ⟨0, 0, 0, 0⟩ ⟨0, 0, 0, 0⟩) = some (.next, (stT (tr_0 w.params) 602 962 os), .body b envS, ⟨221, 0, 240, 53⟩)
set_option maxHeartbeats 0
theorem h_g0_false (w : World) : G0 (w.withFollow "special-get-raises" false) := by
  intro b os
  kernel_rfl
theorem h_g0_true (w : World) : G0 (w.withFollow "special-get-raises" true) := by
  intro b os
  kernel_rfl
theorem h_g0 (w : World) : G0 w := byRow2 "special-get-raises" h_g0_false h_g0_true w
def sts1 : List Stmt := (bodyS.drop 27).take 38
def G1 (w : World) : Prop := ∀ (b : List Stmt) (os : OsState), segF (stQ hprog w) 11 (some (zR 6) : Option Value) 4486 (stT (tr_0 w.params) 602 962 os) (grp sts1 envS (.body b envS) ⟨0, 0, 0, 0⟩ ⟨221, 0, 240, 53⟩) = some (.next, (stT (tr_1 w.params) 1157 1639 os), .body b envS, ⟨512, 0, 530, 104⟩)
set_option maxHeartbeats 0
theorem h_g1 (w : World) : G1 w := by
  intro b os
  kernel_rfl
theorem h_fin (w : World) (os : OsState) (b : List Stmt) : HandSHeadRun.goF (stQ hprog w) 11 (some (zR 6) : Option Value) 2 (stT (tr_1 w.params) 1157 1639 os) ⟨doneF .next, .body b envS, ⟨512, 0, 530, 104⟩, [topFrame ⟨0, 0, 0, 0⟩]⟩ = some (stT (tr_f w.params) 1157 1639 os) := by kernel_rfl
theorem h_body : bodyS = (sts0 ++ (sts1 ++ [])) := by kernel_rfl
theorem h_run (w : World) (os : OsState) : topRun treeTable hprog w 11 (some (zR 6) : Option Value) (12 + (1 + (4374 + (4486 + 2)))) (stT (tr_boot w.params) 11 boot_toks os).abs (topStub hprog) = some ((stT (tr_f w.params) 1157 1639 os)).abs := by
  refine grp_start (h_pre w os) (h_blk w os) ?_
  have z : topRun treeTable hprog w 11 (some (zR 6) : Option Value) (4374 + (4486 + 2)) ((stT (tr_a w.params) 15 187 os)).abs (restOf (sts0 ++ (sts1 ++ [])) envS (.body bodyS envS) ⟨0, 0, 0, 0⟩ [topFrame ⟨0, 0, 0, 0⟩]) = some ((stT (tr_f w.params) 1157 1639 os)).abs := (grp_app (h_g0 w _ os) (grp_app (h_g1 w _ os) (grp_end (h_fin w os _))))
  rw [← h_body] at z
  exact z
theorem h_looks (w : World) (os : OsState) : HandSHeadRun.looksF hprog (boot_heap w.params) ((stT (tr_f w.params) 1157 1639 os)).abs = true := by kernel_rfl
abbrev hq : Program := PySem.W.view hprog [64]
theorem h_seen (w : World) (os : OsState) : HandSHeadRun.seenQ hq names (importedModules hprog.main.body) (fun s => xlAt hq [] s && recOk (PySem.W.OpenLaw.row PySem.Challenge.rw_rowmill_k22_programs_written).toRowW.records s) ((stT (tr_f w.params) 1157 1639 os)).abs = openGood hq names := by kernel_rfl
def addr0 : List Addr := [172, 193, 247, 308, 376, 444, 498, 545, 599, 660, 714, 761, 794, 827, 867]
def addr1 : List Addr := [907, 947, 980, 1034, 1047, 1086, 3, 6, 4, 21, 22, 23, 30, 37, 44]
def addr2 : List Addr := [51, 56, 63, 70, 77, 78, 989, 996, 1003, 1010, 1017, 1024, 1056, 1097, 1104]
def addr3 : List Addr := [1111, 1118, 1123, 1130, 1137, 1144, 1151, 1156, 0, 20, 29, 36, 43, 50, 55]
def addr4 : List Addr := [62, 69, 76, 171, 192, 246, 307, 375, 443, 497, 544, 598, 659, 713, 760]
def addr5 : List Addr := [793, 826, 866, 906, 946, 979, 988, 995, 1002, 1009, 1016, 1023, 1033, 1046, 1055]
def addr6 : List Addr := [1085, 1096, 1103, 1110, 1117, 1122, 1129, 1136, 1143, 1150, 1155, 15, 16, 17, 18]
def addr7 : List Addr := [19, 24, 25, 26, 27, 28, 31, 32, 33, 34, 35, 38, 39, 40, 41]
def addr8 : List Addr := [42, 45, 46, 47, 48, 49, 52, 53, 54, 57, 58, 59, 60, 61, 64]
def addr9 : List Addr := [65, 66, 67, 68, 71, 72, 73, 74, 75, 92, 99, 106, 113, 120, 127]
def addr10 : List Addr := [134, 141, 148, 155, 162, 169, 170, 173, 174, 190, 191, 209, 216, 223, 230]
def addr11 : List Addr := [237, 244, 245, 263, 270, 277, 284, 291, 298, 305, 306, 324, 331, 338, 345]
def addr12 : List Addr := [352, 359, 366, 373, 374, 392, 399, 406, 413, 420, 427, 434, 441, 442, 460]
def addr13 : List Addr := [467, 474, 481, 488, 495, 496, 514, 521, 528, 535, 542, 543, 561, 568, 575]
def addr14 : List Addr := [582, 589, 596, 597, 615, 622, 629, 636, 643, 650, 657, 658, 676, 683, 690]
def addr15 : List Addr := [697, 704, 711, 712, 730, 737, 744, 751, 758, 759, 777, 784, 791, 792, 810]
def addr16 : List Addr := [817, 824, 825, 843, 850, 857, 864, 865, 883, 890, 897, 904, 905, 923, 930]
def addr17 : List Addr := [937, 944, 945, 963, 970, 977, 978, 983, 984, 985, 986, 987, 990, 991, 992]
def addr18 : List Addr := [993, 994, 997, 998, 999, 1000, 1001, 1004, 1005, 1006, 1007, 1008, 1011, 1012, 1013]
def addr19 : List Addr := [1014, 1015, 1018, 1019, 1020, 1021, 1022, 1032, 1035, 1045, 1050, 1051, 1052, 1053, 1054]
def addr20 : List Addr := [1069, 1076, 1083, 1084, 1087, 1088, 1091, 1092, 1093, 1094, 1095, 1098, 1099, 1100, 1101]
def addr21 : List Addr := [1102, 1105, 1106, 1107, 1108, 1109, 1112, 1113, 1114, 1115, 1116, 1119, 1120, 1121, 1124]
def addr22 : List Addr := [1125, 1126, 1127, 1128, 1131, 1132, 1133, 1134, 1135, 1138, 1139, 1140, 1141, 1142, 1145]
def addr23 : List Addr := [1146, 1147, 1148, 1149, 1152, 1153, 1154, 91, 98, 105, 112, 119, 126, 133, 140]
def addr24 : List Addr := [147, 154, 161, 168, 189, 208, 215, 222, 229, 236, 243, 262, 269, 276, 283]
def addr25 : List Addr := [290, 297, 304, 323, 330, 337, 344, 351, 358, 365, 372, 391, 398, 405, 412]
def addr26 : List Addr := [419, 426, 433, 440, 459, 466, 473, 480, 487, 494, 513, 520, 527, 534, 541]
def addr27 : List Addr := [560, 567, 574, 581, 588, 595, 614, 621, 628, 635, 642, 649, 656, 675, 682]
def addr28 : List Addr := [689, 696, 703, 710, 729, 736, 743, 750, 757, 776, 783, 790, 809, 816, 823]
def addr29 : List Addr := [842, 849, 856, 863, 882, 889, 896, 903, 922, 929, 936, 943, 962, 969, 976]
def addr30 : List Addr := [1068, 1064, 1075, 1082]
def addrs : List Addr := addr0 ++ addr1 ++ addr2 ++ addr3 ++ addr4 ++ addr5 ++ addr6 ++ addr7 ++ addr8 ++ addr9 ++ addr10 ++ addr11 ++ addr12 ++ addr13 ++ addr14 ++ addr15 ++ addr16 ++ addr17 ++ addr18 ++ addr19 ++ addr20 ++ addr21 ++ addr22 ++ addr23 ++ addr24 ++ addr25 ++ addr26 ++ addr27 ++ addr28 ++ addr29 ++ addr30
abbrev hk : PySem.W.Hook := hookL addrs lawD
def obK (s : PySem.W.SharedT) : AlR := obsLG addrs lawD (HandSHeadRun.getT s)
theorem obK_eq (s : PySem.W.SharedT) : obK s = hk.obs s.abs := obsLG_eq (HandSHeadRun.getT_eq s)
noncomputable abbrev KK (w : World) (os : OsState) : PySem.W.Frag := He.frG (HandSHeadRun.getT (stT (tr_f w.params) 1157 1639 os)) addrs
theorem h_o1 (w : World) (os : OsState) : He.obsD [] (lawD.defs.map DefX.dd) (KK w os) = He.valD (lawD.defs.map DefX.dd) := by kernel_rfl
theorem h_o2 (w : World) (os : OsState) : (freeN.all fun x => (He.Fa.free x).ok (KK w os)) = true := by kernel_rfl
theorem h_o3 (w : World) (os : OsState) : (lawD.defs.all fun d => d.at_.2.isSome || (He.Fa.glo d.at_.1).ok (KK w os)) = true := by kernel_rfl
theorem h_o4_0 (w : World) (os : OsState) : ((lawD.cls.take 7).all (clsB lawD (KK w os))) = true := by kernel_rfl
theorem h_o4_1 (w : World) (os : OsState) : (((lawD.cls.drop 7).take 7).all (clsB lawD (KK w os))) = true := by kernel_rfl
theorem h_o4_2 (w : World) (os : OsState) : (((lawD.cls.drop 7).drop 7).all (clsB lawD (KK w os))) = true := by kernel_rfl
theorem h_o5 : nodupB lawD.ats = true := by kernel_rfl
theorem h_o6 (w : World) (os : OsState) : lawD.con.all (conF (KK w os)) = true := by kernel_rfl
theorem h_o7_0 (w : World) (os : OsState) : (lawD.exc.zipIdx.all (fun x => excB lawD (KK w os) x.1 x.2)) = true := by kernel_rfl
theorem h_o8 (w : World) (os : OsState) : lawD.dcs.all (dcB (KK w os)) = true := by kernel_rfl
theorem h_o9 (w : World) (os : OsState) : (lawD.dcs.map fun x => He.dicW (KK w os) (He.ga (KK w os) x.1)) = lawD.dcs.map fun x => some (He.keysIn w.params (x.2.map (·.1))) := by kernel_rfl
theorem h_obs (w : World) (os : OsState) : obK (stT (tr_f w.params) 1157 1639 os) = hk.val w := obsR_of (h_o1 w os) (h_o2 w os) (h_o3 w os) (all_cut 7 (h_o4_0 w os) (all_cut 7 (h_o4_1 w os) (h_o4_2 w os))) h_o5 (h_o6 w os) (h_o7_0 w os) (h_o8 w os) (h_o9 w os)
set_option maxHeartbeats 0 in
theorem defsOk : lawD.defs.all (defB lawD) = true := by
  decide +kernel
end Rw
open PySem PySem.W PySem.Calls PyProof.Rows
set_option maxRecDepth 100000 in
set_option maxHeartbeats 0 in
theorem PySem.Challenge.cw_rowmill_k22_programs_written_holds : PySem.Challenge.rw_rowmill_k22_programs_written.Holds := by
  w_on; o_law
  refine Rw.head_cut (r := OpenLaw.row PySem.Challenge.rw_rowmill_k22_programs_written) (q := Rw.hq) (H := Rw.hk) (ob := Rw.obK) (loose := Rw.names) (d := HandSHeadRun.topDef Rw.hprog 64) (kwd := []) (fun w os => (Rw.stT (Rw.tr_f w.params) 1157 1639 os)) Rw.obK_eq
    (by kernel_rfl) (fun s => by kernel_rfl) Rw.h_boot (fun P => by kernel_rfl) (fun P => by kernel_rfl) (by rfl) Rw.h_run Rw.h_looks Rw.h_seen Rw.h_obs (by kernel_rfl) (by kernel_rfl) (by kernel_rfl) (by rfl) (by first | assumption | decide +kernel) (by decide +kernel) ⟨rfl, rfl, rfl, rfl, rfl, by decide +kernel⟩ ?hw ?hc
  case hw => w_witness2
  case hc => exact Rw.walk_rw (n := 4) (L := Rw.lawD) (m := 12) (lawId := 126) rfl (by kernel_rfl) rfl (by kernel_rfl) rfl rfl rfl rfl Rw.defsOk (by decide) Rw.main
